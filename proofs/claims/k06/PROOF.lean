import PyProof.Rows.All
import Wide.All
import OpenK.AllK
import Wide.FinOn
import HandS.TupMul
import HandS.ForMost
import HandS.ForExc
import HandS.Walk
import HandS.Zip
import HandS.TupAny
import KE.DataFind
import KE.KeyNested
import HandS.TupLen
import HandS.SortInts
import HandS.SortKw
import KE.DataCmp
import HandS.Wide
import HandS.TupLe
import HandS.Style
import HandS.IsInst
import HandS.Conv
import KE.KTupSum
import HandS.StrSplit
import HandS.TryMany
import HandS.ExcInit
import HandS.ExcIs
import HandS.ExcField
import HandS.HotCalls
import KE.GoesNew
import KE.GoesEnum
import KE.GoesEnumKw
import KE.GoesMore
import HandS.SetFor
import HandS.Deep
import HandS.Dict
import HandS.More
import HandS.Iter
import HandS.TupSets
import KE.GoesRaise
import KE.SortData
import KE.KIntText
import KE.IntTextLaws
import PyProof.StrLawsTight
import PyProof.StrLawsChain
import PyProof.Rows.StrBin
import PyProof.Rows.ReprOcc
import PySem.Challenge.RW_shutpairs_k06_heaps_as_texts
set_option Elab.async false
set_option linter.all false
set_option maxRecDepth 100000
set_option maxHeartbeats 4000000
/-! tuples whose object is known to have no dict of its own (so that their methods can be called) -/
namespace Dt
open PySem PySem.Spec PyProof.Rows L2
/-- a new tuple of xs -/
def NewT (H : Hp) (Q : VK) (xs : List V) : Prop := ∀ (q : Addr) (o : Obj), H q = none → o.dict = none → Q (.ref q) (upd H q (.frz o (.tup xs)))
section
variable {X : Cx} {pins : List (Addr × Obj)} {σ : L2.St} {H : Hp} {s : Shared} {Q : VK}
theorem laidF {xs : List V} {its : List Value} (I : Inv X pins σ H s) (r : Vals xs its) (z : xs.length ≤ sizeLine) (h : NewT H Q xs) :
    EP X pins σ Q (.ref s.heap.objs.size) { s with heap := s.heap.push { cls := .type "tuple", data := .seq its.toArray } } := by
  refine ⟨.ref s.heap.objs.size, _, I.laid (t' := s.toks) (o := .frz { cls := .type "tuple", data := .seq its.toArray } (.tup xs)) (fun _ _ => Heap.get?_push_of_some _) (Nat.le_refl _) ?_, rfl, h _ _ (I.hok.fresh (Nat.le_refl _)) rfl⟩
  exact ⟨Heap.get?_push_size _ rfl, z, its, r, IsTup.new _ _⟩
def tTupF (t : TA) : TE := fun σ H Q => t σ H fun xs H1 => xs.length ≤ sizeLine ∧ NewT H1 Q xs
theorem pe_tupF {es : List Expr} {t : TA} {pos : Pos} {x1} (h : PA X es t) : PE X (.Tuple es x1 pos) (tTupF t) := by
  refine ⟨fun pins s σ H Q I hq => wpAny_Tuple_spliced (thn (h.run pos pins s σ H _ I hq) fun us s1 ⟨xs, H1, I1, r, z, q⟩ => ?_)⟩
  exact ⟨by rw [← r.length]; exact z, laidF I1 r z q⟩
/-- tuple(x) of a list, of a tuple -/
theorem call_tupleF : CallR X (.type "tuple") (fun xs H Q => ∃ p ys, xs = [.ref p] ∧ ((SqL X.K H p ys ∧ NewT H Q ys) ∨ (SqT X.K H p ys ∧ Q (.ref p) H))) := by
  intro pins s σ H xs us Q I r h
  obtain ⟨p, ys, rfl, h⟩ := h
  obtain ⟨u, rfl, rx⟩ := vals1 r
  cases rx
  rcases h with ⟨hq, q⟩ | ⟨hq, q⟩
  · obtain ⟨its, rv, pl, hz⟩ := I.list hq
    have hlen := rv.length
    refine call_tuple_list pl.isList (fun h' kp => ?_) (by rw [List.size_toArray]; omega)
    exact laidF (I.kept (t' := s.toks) kp) rv hz q
  · obtain ⟨its, rv, pl, hz⟩ := I.tuple hq
    exact call_tuple_same pl ⟨.ref p, H, I, rfl, q⟩
/-- t + u -/
def rCatF (K : PySem.W.Frag) : R2 := fun x y H Q => ∃ a b xs ys, x = .ref a ∧ y = .ref b ∧ SqT K H a xs ∧ SqT K H b ys ∧ xs.length + ys.length ≤ sizeLine ∧
  (xs = [] → Q (.ref b) H) ∧ (xs ≠ [] → ys = [] → Q (.ref a) H) ∧ (xs ≠ [] → ys ≠ [] → NewT H Q (xs ++ ys))
theorem op_catF : OpR X (binaryOp .Add) (rCatF X.K) := by
  intro pins s σ H x y v u Q I rx ry h
  obtain ⟨a, b, xs, ys, rfl, rfl, ha, hb, hz, q0, q1, q2⟩ := h
  cases rx
  cases ry
  obtain ⟨its, r1, p1, _⟩ := I.tuple ha
  obtain ⟨its2, r2, p2, _⟩ := I.tuple hb
  by_cases hx : xs = []
  · subst hx
    cases r1
    exact cat_tup0 p1 p2 ⟨.ref b, H, I, rfl, q0 rfl⟩
  · refine HT.cat_tup p1 p2 (fun z => hx (r1.nil_iff.mp z)) (fun z => ⟨.ref a, H, I, rfl, q1 hx (r2.nil_iff.mp z)⟩) (fun z => ?_) (by rw [← r1.length, ← r2.length]; exact hz)
    exact laidF I (r1.append r2) (by rw [List.length_append]; exact hz) (q2 hx fun w => z (r2.nil_iff.mpr w))
theorem tuple_mul1 (l : Addr) (items : Array Value) (n : Nat) (dd : Option Addr) (sl : Array (Option Value)) (u : Tok) :
    Meets (Builtin.«tuple.__mul__» ⟨[.ref l, .int 1 u], []⟩) (fun _ R s => s.heap.get? l = some { cls := .type "tuple", dict := dd, data := .seq items n, slots := sl } ∧ R (.ok (.ret (Value.ref l))) s) :=
  .of_wp fun prog w A R s h => by
    obtain ⟨hp, g, d, tk, os⟩ := s
    obtain ⟨hl, h⟩ := h
    have f1 := AutoSeq1.idx_int
    have c0 : (decide ((1 : Int) < -(2 ^ 63)) || decide ((1 : Int) ≥ 2 ^ 63)) = false := by decide
    have c1 : (items.isEmpty || (1 : Int) == 1) = true := by simp
    wp_walk using wpAny_loadPart' hl
    repeat (first
      | (refine wpAny_ite_false (decide_eq_false (by rw [c0]; exact Bool.false_ne_true)) ?_; wp_walk using wpAny_loadPart' hl)
      | (refine wpAny_ite_true (decide_eq_true (by rw [c1])) ?_; wp_walk using wpAny_loadPart' hl))
    exact ⟨_, rfl, h⟩
/-- t * k -/
def rRepTF (K : PySem.W.Frag) : R2 := fun x y H Q => ∃ l k xs, x = .ref l ∧ y = .int k ∧ SqT K H l xs ∧ xs ≠ [] ∧ 1 ≤ k ∧ k ≤ 1000 ∧ xs.length ≤ 1000 ∧ (k = 1 → Q (.ref l) H) ∧ (2 ≤ k → NewT H Q (List.replicate k.toNat xs).flatten)
theorem op_repTF : OpR X (binaryOp .Mult) (rRepTF X.K) := by
  intro pins s σ H x y v u Q I rx ry h
  obtain ⟨l, k, xs, rfl, rfl, hT, hne, k2, k3, hz, q1, q⟩ := h
  cases rx
  obtain ⟨t, rfl⟩ := ry
  obtain ⟨its, r, ⟨⟨cls, od, dt, sl⟩, ho, hc, n, hd⟩, _⟩ := I.tuple hT
  obtain rfl : cls = .type "tuple" := hc
  obtain rfl : dt = .seq its.toArray n := hd
  by_cases hk1 : k = 1
  · subst hk1
    refine wpAny_binaryOp_repeat_ref (T := "tuple") (U := "int") (by decide) ⟨_, ho, rfl⟩ (fun s' => typeIs_int s' 1 t) noFill_tuple_mul F.fills_int_mul F.slot_int_rmul repeat_tuple F.slot_int_index.lookup ?_
    refine call_meets F.slot_int_rmul (typeIs_int s 1 t) F.entry_int_rmul (F.args_int_rmul_2 _ _) (int_rmul_tuple 1 t l its.toArray n od sl) ⟨ho, rfl, ⟨_, ho, rfl⟩, ?_⟩
    exact call_meets F.slot_tuple_mul ⟨_, ho, rfl⟩ F.entry_tuple_mul (F.args_tuple_mul_2 _ _) (tuple_mul1 l its.toArray n od sl t) ⟨ho, .ref l, H, I, rfl, q1 rfl⟩
  have hl : its.toArray.size = xs.length := by rw [List.size_toArray, r.length]
  have hb : k.toNat * xs.length ≤ 1000 * 1000 := Nat.mul_le_mul (by omega) hz
  have hk : ((its.toArray.size : Nat) : Int) * k ≤ 1000000 := by
    have e : ((its.toArray.size : Nat) : Int) * k = ((k.toNat * xs.length : Nat) : Int) := by rw [hl, Int.natCast_mul, Int.toNat_of_nonneg (by omega), Int.mul_comm]
    omega
  have hi : its.toArray.isEmpty = false := by
    cases xs with
    | nil => exact absurd rfl hne
    | cons a b => cases r; rfl
  have hf : (List.replicate k.toNat its).flatten.length ≤ sizeLine := by
    rw [PyProof.Rows.lm_len_rep_flat, r.length.symm, sizeLine_eq]; omega
  have hf' : (List.replicate k.toNat xs).flatten.length ≤ sizeLine := by
    rw [PyProof.Rows.lm_len_rep_flat, sizeLine_eq]; omega
  have w := tuple_mulW l its.toArray n od sl k t (by simp; omega) (by rw [hi]; simp; omega) (by rw [hi]; simp; omega) (by omega) (by unfold Builtin.Tuple.tupleTooMany; rw [sizeLine_eq]; exact decide_eq_false (by omega)) (by rw [size_rep]; exact hf)
  rw [size_rep] at w
  refine wpAny_binaryOp_repeat_ref (T := "tuple") (U := "int") (by decide) ⟨_, ho, rfl⟩ (fun s' => typeIs_int s' k t) noFill_tuple_mul F.fills_int_mul F.slot_int_rmul repeat_tuple F.slot_int_index.lookup ?_
  refine call_meets F.slot_int_rmul (typeIs_int s k t) F.entry_int_rmul (F.args_int_rmul_2 _ _) (int_rmul_tuple k t l its.toArray n od sl) ⟨ho, rfl, ⟨_, ho, rfl⟩, ?_⟩
  exact call_meets F.slot_tuple_mul ⟨_, ho, rfl⟩ F.entry_tuple_mul (F.args_tuple_mul_2 _ _) w ⟨ho, laidF I (r.rep k.toNat) hf' (q (by omega))⟩
/-- t[lo:hi] -/
def rSlF (K : PySem.W.Frag) : V → Option Int → Option Int → Hp → VK → Prop := fun x lo hi H Q => ∃ a xs, x = .ref a ∧ SqT K H a xs ∧
  (HT.sIx xs.length 0 lo = 0 ∧ HT.sIx xs.length xs.length hi = xs.length → Q (.ref a) H) ∧ (¬ (HT.sIx xs.length 0 lo = 0 ∧ HT.sIx xs.length xs.length hi = xs.length) → NewT H Q (cutV xs lo hi))
theorem sl_tupF : SlR X (rSlF X.K) := by
  intro pins s σ H x v vl vu lo hi sl Q I rx hs pl pu h
  obtain ⟨a, xs, rfl, hx, q1, q2⟩ := h
  cases rx
  obtain ⟨its, r, ht, hz⟩ := I.tuple hx
  have hlen : its.toArray.size = xs.length := by rw [List.size_toArray, r.length]
  refine ⟨"tuple", _, PyProof.Rows.slot_tuple_getitem.lookup, ht.typeIs, ?_⟩
  by_cases hw : HT.sIx xs.length 0 lo = 0 ∧ HT.sIx xs.length xs.length hi = xs.length
  · exact getItem_tuple_whole ht hs pl pu (by rw [hlen]; exact hw) ⟨.ref a, H, I, rfl, q1 hw⟩
  · refine HT.getItem_tuple_cut ht hs pl pu (by rw [hlen]; exact hw) ?_ (by rw [hlen]; exact hz)
    rw [hlen]
    exact laidF I ((r.drop _).take _) (Nat.le_trans (cutV_length xs lo hi) hz) (q2 hw)

/-! ### methods of tuples -/
/-- a value of that builtin type, a tuple whose object is known too -/
def tyW (K : PySem.W.Frag) (T : String) (x : V) (H : Hp) : Prop := tyV K T x H ∨ (T = "tuple" ∧ ∃ q o xs, x = .ref q ∧ H q = some (.frz o (.tup xs)) ∧ o.dict = none)
theorem tyW_is {T : String} {x : V} {v : Value} (I : Inv X pins σ H s) (r : RelV x v) (ty : tyW X.K T x H) :
    s.TypeIs v T ∧ ∀ a, v = .ref a → ∃ ob, s.heap.get? a = some ob ∧ ob.dict = none := by
  rcases ty with ty | ⟨rfl, q, o, xs, rfl, e, d⟩
  · exact tyV_is I r ty
  · cases r
    obtain ⟨h1, h2⟩ := I.hok q _ e
    obtain ⟨_, its, _, o', h3, h4, _⟩ := h2
    rw [h1] at h3; cases h3
    exact ⟨⟨o, h1, h4⟩, fun a z => by cases z; exact ⟨o, h1, d⟩⟩
def tBW0 (K : PySem.W.Frag) (T : String) (r : V → List V → Hp → VK → Prop) (to : TE) : TE := fun σ H Q => to σ H fun x H1 => tyW K T x H1 ∧ r x [] H1 Q
def tBW (K : PySem.W.Frag) (T : String) (r : V → List V → Hp → VK → Prop) (to : TE) (t : TA) : TE := fun σ H Q => to σ H fun x H1 => tyW K T x H1 ∧ t σ H1 fun xs H2 => r x xs H2 Q
variable {o e : Expr} {es : List Expr} {to : TE} {t : TA} {name : Str} {apos cpos : Pos} {T id : String} {r : V → List V → Hp → VK → Prop}
theorem pe_bw0 (pa : PlainAttrs T) (slot : Slot T name id) (hty : typeOf (.builtin id) = pure (.type "method_descriptor")) (hm : MtR X id r) (ho : PE X o to)
    (hbase : attributeBase o name X.env (eval o X.env) = eval o X.env := by rfl) (hline : (apos.endLine == cpos.line) = true := by rfl) : PE X (.Call (.Attribute o name apos) [] [] cpos) (tBW0 X.K T r to) := by
  refine ⟨fun pins s σ H Q I h => wpAny_Call_method0_late hbase hline (thn (ho.run pins s σ H _ I h) fun v s1 ⟨x, H1, I1, r1, ty, q1⟩ => ?_)⟩
  obtain ⟨h1, h2⟩ := tyW_is I1 r1 ty
  exact ⟨T, id, pa, slot, hty, h1, h2, Calls.callWith_builtin rfl (PySem.evalArgs_none (hm pins s1 σ H1 x [] v [] Q I1 r1 .nil q1))⟩
theorem pe_bw (pa : PlainAttrs T) (slot : Slot T name id) (hty : typeOf (.builtin id) = pure (.type "method_descriptor")) (hm : MtR X id r) (ho : PE X o to) (ha : PA X (e :: es) t)
    (hbase : attributeBase o name X.env (eval o X.env) = eval o X.env := by rfl)
    (hfew : ((backTo cpos (starEach (e :: es) X.env)).all (fun x => !x.1) && (backToKw cpos (keywordEach [] X.env)).all (fun x => x.1.isSome)
      && decide ((e :: es).length + ([] : List Keyword).length + (if ([] : List Keyword).isEmpty then 0 else 1) < 30)) = true := by rfl)
    (hline : (apos.endLine == cpos.line) = true := by rfl) (hs : starEach (e :: es) X.env = (false, eval e X.env) :: starEach es X.env := by rfl) (hplain : (backTo cpos (starEach es X.env)).any (·.1) = false := by rfl) :
    PE X (.Call (.Attribute o name apos) (e :: es) [] cpos) (tBW X.K T r to t) := by
  refine ⟨fun pins s σ H Q I h => wpAny_Call_method_late hbase hfew hline rfl (thn (ho.run pins s σ H _ I h) fun v s1 ⟨x, H1, I1, r1, ty, q1⟩ => ?_)⟩
  obtain ⟨h1, h2⟩ := tyW_is I1 r1 ty
  refine ⟨T, id, pa, slot, hty, h1, h2, ?_⟩
  have hA := ha.run cpos pins s1 σ H1 _ I1 q1
  rw [hs] at hA ⊢
  refine Calls.callWith_builtin (by show (false || (backTo cpos (starEach es X.env)).any (·.1)) = false; rw [hplain] <;> rfl) (Calls.evalArgs_plain ?_)
  exact thn hA fun us s2 ⟨vs, H2, I2, r2, q2⟩ => hm pins s2 σ H2 x vs v us Q I2 r1 r2 q2
/-- the receiver's type is known when it is read: one of two -/
def tBW2 (K : PySem.W.Frag) (T T' : String) (r r' : V → List V → Hp → VK → Prop) (to : TE) (t : TA) : TE := fun σ H Q => to σ H fun x H1 => (tyW K T x H1 ∧ t σ H1 fun xs H2 => r x xs H2 Q) ∨ (tyW K T' x H1 ∧ t σ H1 fun xs H2 => r' x xs H2 Q)
theorem pe_bw2 {T' id' : String} {r' : V → List V → Hp → VK → Prop} (pa : PlainAttrs T) (slot : Slot T name id) (hty : typeOf (.builtin id) = pure (.type "method_descriptor")) (hm : MtR X id r)
    (pa' : PlainAttrs T') (slot' : Slot T' name id') (hty' : typeOf (.builtin id') = pure (.type "method_descriptor")) (hm' : MtR X id' r') (ho : PE X o to) (ha : PA X (e :: es) t)
    (hbase : attributeBase o name X.env (eval o X.env) = eval o X.env := by rfl)
    (hfew : ((backTo cpos (starEach (e :: es) X.env)).all (fun x => !x.1) && (backToKw cpos (keywordEach [] X.env)).all (fun x => x.1.isSome)
      && decide ((e :: es).length + ([] : List Keyword).length + (if ([] : List Keyword).isEmpty then 0 else 1) < 30)) = true := by rfl)
    (hline : (apos.endLine == cpos.line) = true := by rfl) (hs : starEach (e :: es) X.env = (false, eval e X.env) :: starEach es X.env := by rfl) (hplain : (backTo cpos (starEach es X.env)).any (·.1) = false := by rfl) :
    PE X (.Call (.Attribute o name apos) (e :: es) [] cpos) (tBW2 X.K T T' r r' to t) := by
  refine ⟨fun pins s σ H Q I h => wpAny_Call_method_late hbase hfew hline rfl (thn (ho.run pins s σ H _ I h) fun v s1 ⟨x, H1, I1, r1, hq⟩ => ?_)⟩
  have pl : (false || (backTo cpos (starEach es X.env)).any (·.1)) = false := by rw [hplain] <;> rfl
  rcases hq with ⟨ty, q1⟩ | ⟨ty, q1⟩
  · obtain ⟨h1, h2⟩ := tyW_is I1 r1 ty
    have hA := ha.run cpos pins s1 σ H1 _ I1 q1
    rw [hs] at hA ⊢
    exact ⟨T, id, pa, slot, hty, h1, h2, Calls.callWith_builtin pl (Calls.evalArgs_plain (thn hA fun us s2 ⟨vs, H2, I2, r2, q2⟩ => hm pins s2 σ H2 x vs v us Q I2 r1 r2 q2))⟩
  · obtain ⟨h1, h2⟩ := tyW_is I1 r1 ty
    have hA := ha.run cpos pins s1 σ H1 _ I1 q1
    rw [hs] at hA ⊢
    exact ⟨T', id', pa', slot', hty', h1, h2, Calls.callWith_builtin pl (Calls.evalArgs_plain (thn hA fun us s2 ⟨vs, H2, I2, r2, q2⟩ => hm' pins s2 σ H2 x vs v us Q I2 r1 r2 q2))⟩
/-- count of plain data -/
def rCount (sq : Addr → List V → Hp → Prop) (K : PySem.W.Frag) : V → List V → Hp → VK → Prop := fun x xs H Q => ∃ (q : Addr) (w : V) (vs : List V) (ds : List PyData) (d : PyData), x = .ref q ∧ xs = [w] ∧ sq q vs H ∧ DpAll K H vs ds ∧ Dp K H w d ∧
  PyData.plainAll ds = true ∧ d.plain = true ∧ d.depth ≤ 50 ∧ Q (.int ((ds.countP fun y => PyData.eqv y d : Nat) : Int)) H
theorem mt_countL (hu : X.A.units + 64 < cLine) : MtR X "list.count" (rCount (fun q vs H => SqL X.K H q vs) X.K) := by
  intro pins s σ H x xs v us Q I rx rxs h
  obtain ⟨q, w, vs, ds, d, rfl, rfl, hs, hd, hw, p1, p2, dp, k⟩ := h
  cases rx
  obtain ⟨u, rfl, ru⟩ := rxs.one
  obtain ⟨its, rv, pl, hz⟩ := I.list hs
  obtain ⟨as, ra⟩ := Dp.readsAll I ds vs its hd rv
  obtain ⟨bs, rb⟩ := Dp.reads I d w u hw ru
  exact SeqAt.count_list_data pl.isList (by simpa using ra) rb p1 p2 (by omega) ⟨.int _, H, I.tok _, ⟨_, rfl⟩, k⟩
theorem mt_countT (hu : X.A.units + 64 < cLine) : MtR X "tuple.count" (rCount (fun q vs H => SqT X.K H q vs) X.K) := by
  intro pins s σ H x xs v us Q I rx rxs h
  obtain ⟨q, w, vs, ds, d, rfl, rfl, hs, hd, hw, p1, p2, dp, k⟩ := h
  cases rx
  obtain ⟨u, rfl, ru⟩ := rxs.one
  obtain ⟨its, rv, pl, hz⟩ := I.tuple hs
  obtain ⟨as, ra⟩ := Dp.readsAll I ds vs its hd rv
  obtain ⟨bs, rb⟩ := Dp.reads I d w u hw ru
  exact SeqAt.count_tuple_data pl (by simpa using ra) rb p1 p2 (by omega) ⟨.int _, H, I.tok _, ⟨_, rfl⟩, k⟩
end
end Dt

/-! dicts whose keys are tuples of ints and of such tuples -/
namespace Dt
open PySem PySem.Spec PyProof.Rows L2
abbrev NK := NestedKey
mutual
/-- the value is that key (ints, and tuples that never change) -/
inductive NkV (H : Hp) : V → NK → Prop
  | int (i : Int) : NkV H (.int i) (.num i)
  | tup {a : Addr} {o : Obj} {xs : List V} {ks : List NK} : H a = some (.frz o (.tup xs)) → NkVs H xs ks → NkV H (.ref a) (.tup ks)
inductive NkVs (H : Hp) : List V → List NK → Prop
  | nil : NkVs H [] []
  | cons {v : V} {vs : List V} {k : NK} {ks : List NK} : NkV H v k → NkVs H vs ks → NkVs H (v :: vs) (k :: ks)
end
mutual
theorem NkV.keep {H H' : Hp} (e : ∀ a o xs, H a = some (.frz o (.tup xs)) → H' a = some (.frz o (.tup xs))) : ∀ {v : V} {k : NK}, NkV H v k → NkV H' v k
  | _, _, .int i => .int i
  | _, _, .tup h hs => .tup (e _ _ _ h) (NkVs.keep e hs)
theorem NkVs.keep {H H' : Hp} (e : ∀ a o xs, H a = some (.frz o (.tup xs)) → H' a = some (.frz o (.tup xs))) : ∀ {vs : List V} {ks : List NK}, NkVs H vs ks → NkVs H' vs ks
  | _, _, .nil => .nil
  | _, _, .cons h hs => .cons (NkV.keep e h) (NkVs.keep e hs)
end
mutual
theorem NkV.hash {H : Hp} (w w' : World) : ∀ {v : V} {k : NK}, NkV H v k → k.hash w = k.hash w'
  | _, _, .int i => by rw [NestedKey.hash, NestedKey.hash]
  | _, _, .tup h hs => by rw [NestedKey.hash, NestedKey.hash, NkVs.hash w w' hs]
theorem NkVs.hash {H : Hp} (w w' : World) : ∀ {vs : List V} {ks : List NK}, NkVs H vs ks → NestedKey.hashes w ks = NestedKey.hashes w' ks
  | _, _, .nil => by rw [NestedKey.hashes, NestedKey.hashes]
  | _, _, .cons h hs => by rw [NestedKey.hashes, NestedKey.hashes, NkV.hash w w' h, NkVs.hash w w' hs]
end
mutual
theorem NkV.is {P : Program} {w : World} {H : Hp} {h : Heap} (ok : HOk P w H h) : ∀ {v : V} {k : NK} {u : Value}, NkV H v k → RelV v u → NestedIs h k u
  | _, _, _, .int i, r => by
    obtain ⟨t, rfl⟩ := r
    exact .int i t
  | _, _, _, .tup (a := a) (o := o) (xs := xs) e hs, r => by
    cases r
    obtain ⟨h1, _, its, rv, o', h2, h3, n, h4⟩ := (show ObjOk P w H h a (.frz o (.tup xs)) from ok a _ e)
    exact .tup h2 h3 h4 (by simpa using NkVs.is ok hs rv)
theorem NkVs.is {P : Program} {w : World} {H : Hp} {h : Heap} (ok : HOk P w H h) : ∀ {vs : List V} {ks : List NK} {us : List Value}, NkVs H vs ks → Vals vs us → NestedAll h ks us
  | _, _, _, .nil, r => by cases r; exact .nil
  | _, _, _, .cons q qs, r => by
    cases r with
    | cons r rs => exact .cons (NkV.is ok q r) (NkVs.is ok qs rs)
end
/-- an entry and what it stands for -/
abbrev NV (x : NK × Addr × V) (v : NK × Addr × Value) : Prop := x.1 = v.1 ∧ x.2.1 = v.2.1 ∧ RelV x.2.2 v.2.2
def nkE (w : World) (v : NK × Addr × Value) : DictEntry := ⟨v.1.hash w, .ref v.2.1, v.2.2⟩
/-- the object of such a dict, by its entries -/
def nkO (a : Addr) (xs : List (NK × Addr × V)) : HO := .ext fun h => ∃ (w : World) (o : Obj) (es : Array DictEntry) (ep : Nat) (vs : List (NK × Addr × Value)), h.get? a = some o ∧ o.ExactDict ∧ o.data = .dict es ep ∧ es.toList = vs.map (nkE w) ∧ (vs.map (·.1)).Nodup ∧ Paired NV xs vs ∧ (a == sysModules) = false ∧ xs.length ≤ sizeLine
def NkD (H : Hp) (a : Addr) (xs : List (NK × Addr × V)) : Prop := H a = some (nkO a xs) ∧ ∀ x ∈ xs, NkV H (.ref x.2.1) x.1 ∧ x.1.depth ≤ 8
theorem nkO_ok {P : Program} {w : World} {H : Hp} {h : Heap} {a : Addr} {xs : List (NK × Addr × V)} {o : Obj} {es : Array DictEntry} {ep : Nat} {vs : List (NK × Addr × Value)} (h1 : h.get? a = some o) (h2 : o.ExactDict) (h3 : o.data = .dict es ep) (h4 : es.toList = vs.map (nkE w)) (h5 : (vs.map (·.1)).Nodup) (h6 : Paired NV xs vs) (h7 : (a == sysModules) = false) (h8 : xs.length ≤ sizeLine) : ObjOk P w H h a (nkO a xs) :=
  ⟨⟨w, o, es, ep, vs, h1, h2, h3, h4, h5, h6, h7, h8⟩, ⟨o, h1⟩, fun g1 g2 ⟨w, o, es, ep, vs, k1, k2⟩ e => ⟨w, o, es, ep, vs, e _ k1, k2⟩⟩
theorem pairNV_mem : ∀ {xs : List (NK × Addr × V)} {vs : List (NK × Addr × Value)}, Paired NV xs vs → ∀ v ∈ vs, ∃ x ∈ xs, NV x v
  | _, _, .nil, v, h => by simp at h
  | _, _, .cons r rs, v, h => by
    rcases List.mem_cons.mp h with rfl | h
    · exact ⟨_, List.mem_cons_self, r⟩
    · obtain ⟨x, hx, q⟩ := pairNV_mem rs v h
      exact ⟨x, List.mem_cons_of_mem _ hx, q⟩
/-- as the model's rules want it -/
theorem NkD.dict {P : Program} {w : World} {H : Hp} {h : Heap} {a : Addr} {xs : List (NK × Addr × V)} (ok : HOk P w H h) (d : NkD H a xs) : ∃ vs, Paired NV xs vs ∧ (a == sysModules) = false ∧ xs.length ≤ sizeLine ∧ h.DictOfH (nestedKind P w) a vs := by
  obtain ⟨⟨w', o, es, ep, vs, h1, h2, h3, h4, h5, h6, h7, h8⟩, _⟩ := (show ObjOk P w H h a (nkO a xs) from ok a _ d.1)
  refine ⟨vs, h6, h7, h8, o, es, ep, h1, h2, h3, ?_, fun v hv => ?_, h5⟩
  · rw [h4]
    refine List.map_congr_left fun v hv => ?_
    obtain ⟨x, hx, e1, e2, e3⟩ := pairNV_mem h6 v hv
    have := (d.2 x hx).1.hash w' w
    rw [e1] at this
    show (⟨v.1.hash w', .ref v.2.1, v.2.2⟩ : DictEntry) = ⟨v.1.hash w, .ref v.2.1, v.2.2⟩
    rw [this]
  · obtain ⟨x, hx, e1, e2, e3⟩ := pairNV_mem h6 v hv
    have := (d.2 x hx)
    rw [e1, e2] at this
    exact ⟨this.1.is ok rfl, this.2⟩
def valX (xs : List (NK × Addr × V)) (k : NK) : Option V := (xs.find? fun x => decide (x.1 = k)).map (·.2.2)
def putX (xs : List (NK × Addr × V)) (k : NK) (b : Addr) (v : V) : List (NK × Addr × V) := if (xs.any fun x => decide (x.1 = k)) = true then xs.map fun x => if x.1 = k then (x.1, x.2.1, v) else x else xs ++ [(k, b, v)]
theorem pairNV_val : ∀ {xs : List (NK × Addr × V)} {vs : List (NK × Addr × Value)}, Paired NV xs vs → ∀ k : NK, RelO (valX xs k) ((atKey vs k).map (·.2))
  | _, _, .nil, k => by simp [valX, atKey, RelO]
  | _, _, .cons (a := x) (b := v) r rs, k => by
    have ih := pairNV_val rs k
    unfold valX atKey at ih ⊢
    rw [List.find?_cons, List.find?_cons]
    by_cases h : x.1 = k
    · rw [decide_eq_true h, decide_eq_true (r.1 ▸ h)]
      exact r.2.2
    · rw [decide_eq_false h, decide_eq_false (r.1 ▸ h)]
      exact ih
theorem pairNV_any : ∀ {xs : List (NK × Addr × V)} {vs : List (NK × Addr × Value)}, Paired NV xs vs → ∀ k : NK, (xs.any fun x => decide (x.1 = k)) = (atKey vs k).isSome
  | _, _, .nil, k => by simp [atKey]
  | _, _, .cons (a := x) (b := v) r rs, k => by
    have ih := pairNV_any rs k
    unfold atKey at ih ⊢
    rw [List.any_cons, List.find?_cons]
    by_cases h : x.1 = k
    · rw [decide_eq_true h, decide_eq_true (r.1 ▸ h)]; rfl
    · rw [decide_eq_false h, decide_eq_false (r.1 ▸ h), Bool.false_or]
      exact ih
theorem pairNV_app {xs ys : List (NK × Addr × V)} {vs ws : List (NK × Addr × Value)} (h : Paired NV xs vs) (h' : Paired NV ys ws) : Paired NV (xs ++ ys) (vs ++ ws) := by
  induction h with
  | nil => exact h'
  | cons r rs ih => exact .cons r ih
theorem pairNV_map {k : NK} {v : V} {u : Value} (r : RelV v u) : ∀ {xs : List (NK × Addr × V)} {vs : List (NK × Addr × Value)}, Paired NV xs vs → Paired NV (xs.map fun x => if x.1 = k then (x.1, x.2.1, v) else x) (vs.map (putAt k u))
  | _, _, .nil => .nil
  | _, _, .cons (a := x) (b := y) q qs => by
    refine .cons ?_ (pairNV_map r qs)
    unfold putAt
    dsimp only
    by_cases h : x.1 = k
    · rw [if_pos h, if_pos (q.1 ▸ h)]
      exact ⟨q.1, q.2.1, r⟩
    · rw [if_neg h, if_neg (q.1 ▸ h)]
      exact q
theorem pairNV_put {xs : List (NK × Addr × V)} {vs : List (NK × Addr × Value)} (h : Paired NV xs vs) (k : NK) (b : Addr) {v : V} {u : Value} (r : RelV v u) : Paired NV (putX xs k b v) (storedH vs k b u) := by
  unfold putX
  rw [pairNV_any h k]
  cases e : atKey vs k with
  | none =>
    rw [storedH_new e]
    exact pairNV_app h (.cons ⟨rfl, rfl, r⟩ .nil)
  | some p =>
    rw [storedH_old e]
    exact pairNV_map r h
theorem putX_len (xs : List (NK × Addr × V)) (k : NK) (b : Addr) (v : V) : (putX xs k b v).length ≤ xs.length + 1 := by
  unfold putX
  split
  · rw [List.length_map]; omega
  · simp
theorem putX_mem {xs : List (NK × Addr × V)} {k : NK} {b : Addr} {v : V} {x : NK × Addr × V} (h : x ∈ putX xs k b v) : (∃ y ∈ xs, x.1 = y.1 ∧ x.2.1 = y.2.1) ∨ (x.1 = k ∧ x.2.1 = b) := by
  unfold putX at h
  split at h
  · obtain ⟨y, hy, rfl⟩ := List.mem_map.mp h
    refine .inl ⟨y, hy, ?_⟩
    split <;> exact ⟨rfl, rfl⟩
  · rcases List.mem_append.mp h with h | h
    · exact .inl ⟨x, h, rfl, rfl⟩
    · rw [List.mem_singleton.mp h]
      exact .inr ⟨rfl, rfl⟩
section
variable {X : Cx} {pins : List (Addr × Obj)} {σ : L2.St} {H : Hp} {s : Shared} {a b : Addr} {v z : V} {u r : Value} {A : Around} {E : Value → Shared → Prop} {xs : List (NK × Addr × V)} {k : NK}
theorem n_get2 {Q : Value → Shared → Prop} (hu : A.units + 64 < cLine) (I : Inv X pins σ H s) (d : NkD H a xs) (hk : NkV H (.ref b) k) (h8 : k.depth ≤ 8) (rz : RelV z r) (h : ∀ w' s', Inv X pins σ H s' → RelV ((valX xs k).getD z) w' → Q w' s') :
    wpAny (model X.prog X.w) A (call (.builtin "dict.get") [.ref a, .ref b, r]) Q E s := by
  obtain ⟨vs, rel, hd, hz, dd⟩ := d.dict I.hok
  refine call_meetsIn PySem.F.slot_dict_get dd.typeIs PySem.F.entry_dict_get (PySem.F.args_dict_get_3 _ _ _) (meetsH_dict_get_default (nestedKind X.prog X.w) a b hd r) ⟨?_, k, vs, ⟨hk.is I.hok rfl, h8⟩, dd, h _ _ (I.tok _) ?_⟩
  · show A.units + 1 + 8 < cLine
    omega
  · exact (pairNV_val rel k).getD rz
theorem n_in {Q : Value → Shared → Prop} (hu : A.units + 64 < cLine) (I : Inv X pins σ H s) (d : NkD H a xs) (hk : NkV H (.ref b) k) (h8 : k.depth ≤ 8) (h : ∀ s', Inv X pins σ H s' → Q (.bool (valX xs k).isSome) s') :
    wpAny (model X.prog X.w) A (compareOp .In (.ref b) (.ref a)) Q E s := by
  obtain ⟨vs, rel, hd, hz, dd⟩ := d.dict I.hok
  refine wpAny_in_heap (knd := nestedKind X.prog X.w) (show A.units + 1 + 8 < cLine by omega) ⟨hk.is I.hok rfl, h8⟩ hd dd ?_
  have q := (pairNV_val rel k).isSome_eq
  rw [Option.isSome_map] at q
  rw [← q]
  exact h _ (I.tok _)
theorem n_notIn {Q : Value → Shared → Prop} (hu : A.units + 64 < cLine) (I : Inv X pins σ H s) (d : NkD H a xs) (hk : NkV H (.ref b) k) (h8 : k.depth ≤ 8) (h : ∀ s', Inv X pins σ H s' → Q (.bool (!(valX xs k).isSome)) s') :
    wpAny (model X.prog X.w) A (compareOp .NotIn (.ref b) (.ref a)) Q E s := by
  obtain ⟨vs, rel, hd, hz, dd⟩ := d.dict I.hok
  refine wpAny_notIn_heap (knd := nestedKind X.prog X.w) (show A.units + 1 + 8 < cLine by omega) ⟨hk.is I.hok rfl, h8⟩ hd dd ?_
  have q := (pairNV_val rel k).isSome_eq
  rw [Option.isSome_map] at q
  rw [← q]
  exact h _ (I.tok _)
theorem n_len {Q : Value → Shared → Prop} (I : Inv X pins σ H s) (d : NkD H a xs) (h : ∀ t s', Inv X pins σ H s' → Q (.int xs.length t) s') : wpAny (model X.prog X.w) A (call (.builtin "len") [.ref a]) Q E s := by
  obtain ⟨vs, rel, hd, hz, dd⟩ := d.dict I.hok
  refine call_len_dictH hd dd (by rw [← Paired.length rel]; rw [sizeLine_eq] at hz; omega) ?_
  rw [← Paired.length rel]
  exact h _ _ (I.tok _)
theorem NkD.put (d : NkD H a xs) (hk : NkV H (.ref b) k) (h8 : k.depth ≤ 8) (v : V) : NkD (upd H a (nkO a (putX xs k b v))) a (putX xs k b v) := by
  have kp : ∀ c o ys, H c = some (.frz o (.tup ys)) → upd H a (nkO a (putX xs k b v)) c = some (.frz o (.tup ys)) := fun c o ys e => by
    rw [upd_ne (ne_of e d.1 (by intro z; unfold nkO at z; cases z))]
    exact e
  refine ⟨upd_same, fun x hx => ?_⟩
  rcases putX_mem hx with ⟨y, hy, e1, e2⟩ | ⟨e1, e2⟩
  · rw [e1, e2]
    exact ⟨(d.2 y hy).1.keep kp, (d.2 y hy).2⟩
  · rw [e1, e2]
    exact ⟨hk.keep kp, h8⟩
theorem n_setItem {Q : Unit → Shared → Prop} (hu : A.units + 64 < cLine) (I : Inv X pins σ H s) (d : NkD H a xs) (hk : NkV H (.ref b) k) (h8 : k.depth ≤ 8) (hl : xs.length < sizeLine) (rv : RelV v r) (h : ∀ s', Inv X pins σ (upd H a (nkO a (putX xs k b v))) s' → Q () s') :
    wpAny (model X.prog X.w) A (setItem (.ref a) (.ref b) r) Q E s := by
  obtain ⟨vs, rel, hd, hz, dd⟩ := d.dict I.hok
  have hz' : vs.length ≤ sizeLine := by rw [← Paired.length rel]; exact hz
  refine wpAny_setItem_heap (knd := nestedKind X.prog X.w) (hsz := hz') (show A.units + 1 + 8 < cLine by omega) ⟨hk.is I.hok rfl, h8⟩ dd fun h' dd' hs => h _ ?_
  obtain ⟨q, es, ep, hq, h2, h3, h4, _, h5⟩ := dd'
  have hl2 := putX_len xs k b v
  exact d_write I (by rw [d.1]; unfold nkO; exact True.intro) hs ⟨q, hq⟩ (nkO_ok hq h2 h3 h4 h5 (pairNV_put rel k b rv) hd (by omega))
theorem n_type (I : Inv X pins σ H s) (d : NkD H a xs) : s.TypeIs (.ref a) "dict" ∧ (∀ b, Value.ref a = .ref b → ∃ ob, s.heap.get? b = some ob ∧ ob.dict = none) ∧ (a == sysModules) = false := by
  obtain ⟨vs, rel, hd, hz, dd⟩ := d.dict I.hok
  refine ⟨dd.typeIs, fun b q => ?_, hd⟩
  cases q
  obtain ⟨ob, _, _, h1, h2, _⟩ := dd
  exact ⟨ob, h1, h2.2.1⟩
end
/-! ### readings -/
def tNNew : TE := fun _ H Q => ∀ p, H p = none → Q (.ref p) (upd H p (nkO p []))
def tNIn (neg : Bool) (ty td : TE) : TE := fun σ H Q => ty σ H fun y H1 => td σ H1 fun x H2 => ∃ a b xs k, x = .ref a ∧ y = .ref b ∧ NkD H2 a xs ∧ NkV H2 (.ref b) k ∧ k.depth ≤ 8 ∧ Q (.bl (if neg then !(valX xs k).isSome else (valX xs k).isSome)) H2
def sNPut (td ty tv : TE) : TS := fun D σ H => tv σ H fun v H1 => td σ H1 fun x H2 => ty σ H2 fun y H3 => ∃ a b xs k, x = .ref a ∧ y = .ref b ∧ NkD H3 a xs ∧ NkV H3 (.ref b) k ∧ k.depth ≤ 8 ∧ xs.length < sizeLine ∧ D.nx σ (upd H3 a (nkO a (putX xs k b v)))
def tNGet2 (td ty tx : TE) : TE := fun σ H Q => td σ H fun x H1 => ∃ a xs, x = .ref a ∧ NkD H1 a xs ∧ ty σ H1 fun y H2 => tx σ H2 fun z H3 => ∃ b xs k, y = .ref b ∧ NkD H3 a xs ∧ NkV H3 (.ref b) k ∧ k.depth ≤ 8 ∧ Q ((valX xs k).getD z) H3
section
variable {X : Cx} {o i e f value : Expr} {pos pos' tpos apos cpos : Pos} {td ty tv tx : TE}
theorem pe_nnew : PE X (.Dict [] [] pos) tNNew := ⟨fun pins s σ H Q I h =>
  wpAny_Dict_empty ⟨.ref s.heap.objs.size, _, I.laid (a := s.heap.objs.size) (o := nkO s.heap.objs.size []) (t' := s.toks) (fun _ _ q => Heap.get?_push_of_some _ q) (Nat.le_refl _)
    (nkO_ok (vs := []) (es := #[]) (ep := 0) (Heap.get?_push_size _ rfl) ⟨rfl, rfl, rfl⟩ rfl rfl List.nodup_nil .nil (beq_eq_false_iff_ne.mpr (Ne.symm (Nat.ne_of_lt I.big))) (Nat.zero_le _)), rfl, h _ (I.hok.fresh (Nat.le_refl _))⟩⟩
theorem pc_nin (hu : X.A.units + 64 < cLine) (hi : PE X i ty) (ho : PE X o td) : PC X .In i o (tNIn false ty td) := by
  refine ⟨fun pins s σ H Q I h => ?_⟩
  refine thn (hi.run pins s σ H _ I h) fun iv s1 ⟨y, H1, I1, ry, q1⟩ => thn (ho.run pins s1 σ H1 _ I1 q1) fun u s2 ⟨x, H2, I2, rx, a, b, xs, k, ex, ey, d, hk, h8, q2⟩ => ?_
  subst ex ey
  obtain rfl : u = Value.ref a := rx
  obtain rfl : iv = Value.ref b := ry
  exact n_in hu I2 d hk h8 fun s3 I3 => ⟨.bl (valX xs k).isSome, H2, I3, rfl, q2⟩
theorem pc_nnotin (hu : X.A.units + 64 < cLine) (hi : PE X i ty) (ho : PE X o td) : PC X .NotIn i o (tNIn true ty td) := by
  refine ⟨fun pins s σ H Q I h => ?_⟩
  refine thn (hi.run pins s σ H _ I h) fun iv s1 ⟨y, H1, I1, ry, q1⟩ => thn (ho.run pins s1 σ H1 _ I1 q1) fun u s2 ⟨x, H2, I2, rx, a, b, xs, k, ex, ey, d, hk, h8, q2⟩ => ?_
  subst ex ey
  obtain rfl : u = Value.ref a := rx
  obtain rfl : iv = Value.ref b := ry
  exact n_notIn hu I2 d hk h8 fun s3 I3 => ⟨.bl (!(valX xs k).isSome), H2, I3, rfl, q2⟩
theorem ps_nput (hu : X.A.units + 64 < cLine) (ho : PE X o td) (hi : PE X i ty) (hv : PE X value tv) (hs : swapsWith value (some (.Subscript o i pos')) pos.line X.env = pure false) :
    PS X (.Assign [.Subscript o i pos'] value pos) (sNPut td ty tv) := by
  refine ⟨fun pins s σ H D I h => ?_⟩
  refine wpAny_Assign_Subscript (thn (hv.run pins s σ H _ I h) fun r s1 ⟨v, H1, I1, rv, q1⟩ => thn (ho.run pins s1 σ H1 _ I1 q1) fun u s2 ⟨x, H2, I2, rx, q2⟩ => thn (hi.run pins s2 σ H2 _ I2 q2) fun iv s3 ⟨y, H3, I3, ry, a, b, xs, k, ex, ey, d, hk, h8, hl, q3⟩ => ?_) hs
  subst ex ey
  obtain rfl : u = Value.ref a := rx
  obtain rfl : iv = Value.ref b := ry
  exact n_setItem hu I3 d hk h8 hl rv fun s4 I4 => ⟨σ, _, I4, q3⟩
theorem pe_nget2 (hu : X.A.units + 64 < cLine) (ho : PE X o td) (he : PE X e ty) (hf : PE X f tx) (m : M2 X o "get" apos e f cpos) : PE X (.Call (.Attribute o "get" apos) [e, f] [] cpos) (tNGet2 td ty tx) := by
  refine ⟨fun pins s σ H Q I h => ?_⟩
  refine wpAny_Call_method m.base m.few m.line PySem.F.plainAttrs_dict PySem.F.slot_dict_get PySem.F.type_dict_get (thn (ho.run pins s σ H _ I h) fun u s1 ⟨x, H1, I1, rx, a, xs0, ex, d0, q1⟩ => ?_)
  subst ex
  obtain rfl : u = Value.ref a := rx
  obtain ⟨t1, t2, _⟩ := n_type I1 d0
  refine ⟨t1, t2, ?_⟩
  rw [m.trees]
  refine Calls.callWith_builtin rfl (Calls.evalArgs_plain (Calls.spliced_cons (thn (he.run pins s1 σ H1 _ I1 q1) fun iv s2 ⟨y, H2, I2, ry, q2⟩ =>
    Calls.spliced_cons (thn (hf.run pins s2 σ H2 _ I2 q2) fun fv s3 ⟨z, H3, I3, rz, b, xs, k, ey, d, hk, h8, q3⟩ => Calls.spliced_nil ?_))))
  subst ey
  obtain rfl : iv = Value.ref b := ry
  exact n_get2 hu I3 d hk h8 rz fun w' s4 I4 rw' => ⟨_, H3, I4, rw', q3⟩
/-- len of such a dict -/
theorem call_nlen : CallR X (.builtin "len") (fun vs H Q => ∃ a xs, vs = [V.ref a] ∧ NkD H a xs ∧ Q (.int xs.length) H) := by
  intro pins s σ H vs us Q I r h
  obtain ⟨a, xs, rfl, d, q⟩ := h
  obtain ⟨u, rfl, ru⟩ := vals1 r
  cases ru
  exact n_len I d fun t s' I' => ⟨.int xs.length, H, I', ⟨t, rfl⟩, q⟩
end
end Dt

/-! sorted of ints, of a list or a tuple, with and without reverse -/
namespace Dt
open PySem PySem.Spec PyProof.Rows L2 SrtO SrtR
section
variable {prog : Program} {w : World} {A : Around} {E : Value → Shared → Prop} {s : Shared}
theorem sorted_seq {l : Addr} {T : String} {o : Obj} {n : Nat} {b : Bool} {vs : List Value} {kw : List (Str × Value)} {ns : List Int} {Q : Value → Shared → Prop}
    (hsrt : ∀ (a : Addr) (s : Shared) (R : PySem.Fin → Shared → Prop) (n : Nat), s.heap.get? a = some (seqObj "list" vs.toArray n) →
      (∀ (out : Array Value) (ns' : List Int), IntsAre out.toList ns' → ns'.Perm ns → OrdB b ns' → R (.done (.ret .none)) { s with heap := sortedHeap s.heap a vs out }) →
      wpAny (model prog w) A.in1.in1 (Builtin.«list.sort» ⟨[.ref a], kw⟩) R (fun e s => E e s) s)
    (ha1 : argsOk "sorted" ⟨[.ref l], kw⟩) (ha2 : ∀ a, argsOk "list.sort" ⟨[a], kw⟩) (hT : T = "list" ∨ T = "tuple") (ho : s.heap.get? l = some o) (hc : o.cls = .type T) (hd : o.data = .seq vs.toArray n) (hz : vs.length ≤ sizeLine)
    (h : ∀ (h1 h' : Heap) (out : Array Value) (ns' : List Int) (e : Nat), (∀ b o', s.heap.get? b = some o' → h1.get? b = some o') → (∀ b o', h1.get? b = some o' → h'.get? b = some o') → h'.get? h1.objs.size = some (seqObj "list" out e) →
      IntsAre out.toList ns' → ns'.Perm ns → OrdB b ns' → Q (.ref h1.objs.size) { s with heap := h' }) :
    wpAny (model prog w) A (call (.builtin "sorted") [.ref l] kw) Q E s := by
  refine call_function_entry_kw kind_sorted plain_sorted entry_sorted ha1 ?_
  unfold Builtin.«sorted»
  refine wpAny_bind (m := checkCount "sorted" 1 1 _) (wpAny_pure ?_)
  refine wpAny_bind (wpAny_collect_seq l hT ho hc hd (fun h1 k1 => ?_) (by simpa using hz))
  have e0 : vs.toArray.toList = vs := by simp
  rw [e0]
  refine wpAny_bind (wpAny_newList ?_ hz)
  have hg : (h1.push (seqObj "list" vs.toArray 0)).get? h1.objs.size = some (seqObj "list" vs.toArray 0) := Heap.get?_push_size _ rfl
  refine wpAny_bind (wpAny_holding (wpAny_call_entry_kw slot_list_sort ⟨_, hg, rfl⟩ entry_list_sort ?_ (ha2 _)))
  refine hsrt h1.objs.size { s with heap := h1.push (seqObj "list" vs.toArray 0) } _ 0 hg fun out ns' i1 i2 i3 => ⟨_, rfl, wpAny_pure ⟨_, rfl, ?_⟩⟩
  obtain ⟨e, he⟩ := sortedHeap_at (vs := vs) (out := out) hg
  refine h h1 _ out ns' e k1 (fun b o' q => ?_) he i1 i2 i3
  have hlt : b < h1.objs.size := Heap.lt_size q
  rw [sortedHeap_old (Nat.ne_of_lt hlt) (by rw [size_push']; exact Nat.lt_succ_of_lt hlt)]
  exact Heap.get?_push_of_some _ q
end
section
variable {X : Cx}
def rSrt (K : PySem.W.Frag) (b : Bool) : List V → Hp → VK → Prop := fun vs H Q => ∃ (a : Addr) (ns : List Int), vs = [V.ref a] ∧ (SqL K H a (ns.map V.int) ∨ SqT K H a (ns.map V.int)) ∧
  ∀ (ns' : List Int) (q : Addr), ns'.Perm ns → OrdB b ns' → H q = none → Q (.ref q) (upd H q (.lst (ns'.map V.int)))
theorem srt_run {b : Bool} {kw : List (Str × Value)} {pins : List (Addr × Obj)} {s : Shared} {σ : L2.St} {H : Hp} {a : Addr} {ns : List Int} {Q : VK} (I : Inv X pins σ H s) (hs : SqL X.K H a (ns.map V.int) ∨ SqT X.K H a (ns.map V.int))
    (hsrt : ∀ (a : Addr) (s : Shared) (R : PySem.Fin → Shared → Prop) (n : Nat) (vs : List Value), IntsAre vs ns → vs.length ≤ sizeLine → s.heap.get? a = some (seqObj "list" vs.toArray n) →
      (∀ (out : Array Value) (ns' : List Int), IntsAre out.toList ns' → ns'.Perm ns → OrdB b ns' → R (.done (.ret .none)) { s with heap := sortedHeap s.heap a vs out }) →
      wpAny (model X.prog X.w) X.A.in1.in1 (Builtin.«list.sort» ⟨[.ref a], kw⟩) R (fun e s => X.xe e s) s)
    (ha1 : argsOk "sorted" ⟨[.ref a], kw⟩) (ha2 : ∀ a, argsOk "list.sort" ⟨[a], kw⟩)
    (q : ∀ (ns' : List Int) (q : Addr), ns'.Perm ns → OrdB b ns' → H q = none → Q (.ref q) (upd H q (.lst (ns'.map V.int)))) : wpAny (model X.prog X.w) X.A (call (.builtin "sorted") [.ref a] kw) (EP X pins σ Q) X.xe s := by
  obtain ⟨T, its, o, n, hT, ho, hc, hd, rv, hz⟩ : ∃ T its o n, (T = "list" ∨ T = "tuple") ∧ s.heap.get? a = some o ∧ o.cls = .type T ∧ o.data = .seq (List.toArray its) n ∧ Vals (ns.map V.int) its ∧ (ns.map V.int).length ≤ sizeLine := by
    rcases hs with hs | hs
    · obtain ⟨its, rv, ⟨o, n, h1, h2, h3, h4⟩, hz⟩ := I.list hs
      exact ⟨"list", its, o, n, .inl rfl, h1, h2, h4, rv, hz⟩
    · obtain ⟨its, rv, ⟨o, h1, h2, n, h4⟩, hz⟩ := I.tuple hs
      exact ⟨"tuple", its, o, n, .inr rfl, h1, h2, h4, rv, hz⟩
  have hi := rv.ints
  have hz' : its.length ≤ sizeLine := by rw [← rv.length]; exact hz
  refine sorted_seq (b := b) (ns := ns) (fun a s R n h1 h2 => hsrt a s R n its hi hz' h1 h2) ha1 ha2 hT ho hc hd hz' fun h1 h' out ns' e k1 k2 hn i1 i2 i3 => ?_
  have hlen : (ns'.map V.int).length ≤ sizeLine := by
    rw [List.length_map, i2.length_eq]
    rw [List.length_map] at hz
    exact hz
  have I1 : Inv X pins σ H { s with heap := h1 } := I.kept (t' := s.toks) k1
  exact ⟨.ref _, upd H h1.objs.size (.lst (ns'.map V.int)), I1.laid (t' := s.toks) k2 (Nat.le_refl _) ⟨hlen, out.toList, e, vals_of_ints i1, hn⟩, rfl, q _ _ i2 i3 (I1.hok.fresh (Nat.le_refl _))⟩
theorem cr_srt : CallR X (.builtin "sorted") (rSrt X.K false) := by
  intro pins s σ H vs us Q I r h
  obtain ⟨a, ns, rfl, hs, q⟩ := h
  obtain rfl := Vals.ref1 r
  refine srt_run (b := false) (kw := []) I hs (fun a s R n vs hi hz ho k => ?_) (args_sorted1 _) (fun _ => args_list_sort _) q
  refine list_sort_ord swo_int ho hz (fun h2 => ints_sortable hi h2) fun out h1 h2 => ?_
  obtain ⟨k1, k2, k3⟩ := ints_out hi h1 h2
  exact k out.toArray _ (by simpa using k1) k2 k3
theorem cr_srtR {b : Bool} : CallRK X (.builtin "sorted") [Str.ofString "reverse"] (fun xs zs H Q => zs = [.bl b] ∧ rSrt X.K b xs H Q) := by
  intro pins s σ H vs zs us ws Q I r rz h
  obtain ⟨rfl, a, ns, rfl, hs, q⟩ := h
  obtain rfl := Vals.ref1 r
  obtain ⟨w1, rfl, e1⟩ := vals1 rz
  obtain rfl : w1 = Value.bool b := e1
  refine srt_run (b := b) I hs (fun a s R n vs hi hz ho k => ?_) (PyProof.Rows.args_sorted_rev _ _) (fun _ => PyProof.Rows.args_list_sort_rev _ _) q
  refine list_sort_ordR swo_int ho hz (fun h2 => ints_sortable hi h2) fun out h1 h2 => ?_
  obtain ⟨ns', k1, k2, k3⟩ := ints_outR hi h1 h2
  exact k _ ns' k1 k2 k3
end
end Dt

namespace Dt
open PySem PySem.Spec PyProof.Rows L2

abbrev D := PyData
/-- owned contents -/
inductive C where
  | lst (ds : List D)
  | dic (kvs : List (Key × D))
  | dcN (kvs : List (NK × D))
  | st (b : Nat)
/-- the program's exception classes -/
def exN : Nat → Str
  | 0 => "ShutError" | 1 => "ValueError" | 2 => "NotIn" | 3 => "NoText" | 4 => "NoRule" | 5 => "NoSum" | 6 => "NoPlace" | 7 => "NoPair" | 8 => "NotPaired" | 9 => "NotSoMany" | 10 => "NotStrict" | 11 => "LeftOver"
  | 12 => "NoBottom" | 13 => "NoLanes" | 14 => "TooGreat" | 15 => "NoLine" | 16 => "NothingLeft" | 17 => "NoHeap" | 18 => "NotKept" | 19 => "Unmatched" | 20 => "TooLong" | _ => "NoName"
/-- class a is class b or stands beneath it -/
def subX (a b : Nat) : Bool := a == b || b == 0 || b == 1
structure Exn where
  nm : Nat
  fs : List (Str × D)
/-- a slot -/
inductive S where
  | d (v : D)
  | own (c : C)
  | lent (a : Addr) (c : C)
  | exc (x : Exn)
/-- a result -/
inductive O where
  | d (v : D)
  | tmp (c : C)
  | loc (j : Nat)
  | exc (x : Exn)
abbrev Rho := List (Option S)
abbrev Lab := Addr → Option Nat
/-- what everything hangs on: the written part, the module's names, the exceptions that are in hand (value, class's name, own dict) -/
structure Pm where
  K : PySem.W.Frag
  mg : Str → Option Value
  G : V → Nat → Option Addr → Prop
abbrev noG : V → Nat → Option Addr → Prop := fun _ _ _ => False

/-! ### data in a heap that never changes -/
def keyD : Key → D
  | .inl i => .int i
  | .inr x => .str x
mutual
inductive Dd (p : Pm) (I : Hp) : V → D → Prop
  | non : Dd p I .non .none
  | bl (b : Bool) : Dd p I (.bl b) (.bool b)
  | int (i : Int) : Dd p I (.int i) (.int i)
  | str (x : Str) : Dd p I (.str x) (.str x)
  | lst {a : Addr} {xs : List V} {ds : List D} : I a = some (.lst xs) → DdAll p I xs ds → Dd p I (.ref a) (.list ds)
  | tup {a : Addr} {o : Obj} {xs : List V} {ds : List D} : I a = some (.frz o (.tup xs)) → o.dict = none → DdAll p I xs ds → Dd p I (.ref a) (.tuple ds)
  /-- an instance of the class named c -/
  | ins {a C dx : Addr} {c : Str} {fs : List (Str × V)} {ds : List (D × D)} : p.mg c = some (.ref C) → I a = some (.ins C dx fs) → DdFs p I fs ds → Dd p I (.ref a) (.dict ((.str c, .none) :: ds))
  /-- a dict that never changes -/
  | dic {a : Addr} {kv : List (Key × V)} {ds : List (D × D)} : I a = some (.dK kv) → DdKv p I kv ds → Dd p I (.ref a) (.dict ((.none, .none) :: ds))
inductive DdAll (p : Pm) (I : Hp) : List V → List D → Prop
  | nil : DdAll p I [] []
  | cons {v : V} {vs : List V} {d : D} {ds : List D} : Dd p I v d → DdAll p I vs ds → DdAll p I (v :: vs) (d :: ds)
inductive DdFs (p : Pm) (I : Hp) : List (Str × V) → List (D × D) → Prop
  | nil : DdFs p I [] []
  | cons {f : Str} {v : V} {vs : List (Str × V)} {d : D} {ds : List (D × D)} : Dd p I v d → DdFs p I vs ds → DdFs p I ((f, v) :: vs) ((.str f, d) :: ds)
inductive DdKv (p : Pm) (I : Hp) : List (Key × V) → List (D × D) → Prop
  | nil : DdKv p I [] []
  | cons {k : Key} {v : V} {vs : List (Key × V)} {d : D} {ds : List (D × D)} : Dd p I v d → DdKv p I vs ds → DdKv p I ((k, v) :: vs) ((keyD k, d) :: ds)
end
section
variable {p : Pm}
mutual
theorem Dd.mono {H H' : Hp} (e : Same H H') : ∀ {v : V} {d : D}, Dd p H v d → Dd p H' v d
  | _, _, .non => .non
  | _, _, .bl b => .bl b
  | _, _, .int i => .int i
  | _, _, .str x => .str x
  | _, _, .lst h hs => .lst (e _ _ h) (DdAll.mono e hs)
  | _, _, .tup h z hs => .tup (e _ _ h) z (DdAll.mono e hs)
  | _, _, .ins c h hs => .ins c (e _ _ h) (DdFs.mono e hs)
  | _, _, .dic h hs => .dic (e _ _ h) (DdKv.mono e hs)
theorem DdAll.mono {H H' : Hp} (e : Same H H') : ∀ {vs : List V} {ds : List D}, DdAll p H vs ds → DdAll p H' vs ds
  | _, _, .nil => .nil
  | _, _, .cons h hs => .cons (Dd.mono e h) (DdAll.mono e hs)
theorem DdFs.mono {H H' : Hp} (e : Same H H') : ∀ {vs : List (Str × V)} {ds : List (D × D)}, DdFs p H vs ds → DdFs p H' vs ds
  | _, _, .nil => .nil
  | _, _, .cons h hs => .cons (Dd.mono e h) (DdFs.mono e hs)
theorem DdKv.mono {H H' : Hp} (e : Same H H') : ∀ {vs : List (Key × V)} {ds : List (D × D)}, DdKv p H vs ds → DdKv p H' vs ds
  | _, _, .nil => .nil
  | _, _, .cons h hs => .cons (Dd.mono e h) (DdKv.mono e hs)
end
mutual
theorem Dd.dp0 {H : Hp} : ∀ {v : V} {d : D}, Dd p H v d → d.canLay0 = true → Dp p.K H v d
  | _, _, .non, _ => .non
  | _, _, .bl b, _ => .bl b
  | _, _, .int i, _ => .int i
  | _, _, .str x, _ => .str x
  | _, _, .lst h hs, c => .lst (SqL.of h) (DdAll.dp0 hs (by simpa [PyData.canLay0] using c))
  | _, _, .tup h z hs, c => .tup (.inl (.inr ⟨_, h⟩)) (DdAll.dp0 hs (by simpa [PyData.canLay0] using c))
  | _, _, .ins _ _ _, c => by simp [PyData.canLay0] at c
  | _, _, .dic _ _, c => by simp [PyData.canLay0] at c
theorem DdAll.dp0 {H : Hp} : ∀ {vs : List V} {ds : List D}, DdAll p H vs ds → PyData.canLayAll0 ds = true → DpAll p.K H vs ds
  | _, _, .nil, _ => .nil
  | _, _, .cons h hs, c => by
    have c2 := c
    simp only [PyData.canLayAll0, Bool.and_eq_true] at c2
    exact .cons (Dd.dp0 h c2.1) (DdAll.dp0 hs c2.2)
end
/-- plain data: no instance, no dict within -/
theorem Dd.dp {H : Hp} {v : V} {d : D} (h : Dd p H v d) (s : SeqAt.shaped d = true) : Dp p.K H v d := Dd.dp0 h (SeqAt.canLay_of_shaped s)
theorem DdAll.length {H : Hp} : ∀ {vs : List V} {ds : List D}, DdAll p H vs ds → vs.length = ds.length
  | _, _, .nil => rfl
  | _, _, .cons _ hs => by simp [DdAll.length hs]
theorem DdAll.get {H : Hp} : ∀ {vs : List V} {ds : List D} {i : Nat} {d : D}, DdAll p H vs ds → ds[i]? = some d → ∃ v, vs[i]? = some v ∧ Dd p H v d
  | _, _, _, _, .nil, h => by simp at h
  | _, _, 0, _, .cons h _, e => by simp at e; subst e; exact ⟨_, rfl, h⟩
  | _, _, i + 1, d, .cons _ hs, e => by
    obtain ⟨v, h1, h2⟩ := DdAll.get (i := i) (d := d) hs (by simpa using e)
    exact ⟨v, by simpa using h1, h2⟩
theorem DdAll.getV {H : Hp} : ∀ {vs : List V} {ds : List D} {i : Nat} {v : V}, DdAll p H vs ds → vs[i]? = some v → ∃ d, ds[i]? = some d ∧ Dd p H v d
  | _, _, _, _, .nil, h => by simp at h
  | _, _, 0, _, .cons h _, e => by simp at e; subst e; exact ⟨_, rfl, h⟩
  | _, _, i + 1, d, .cons _ hs, e => by
    obtain ⟨v, h1, h2⟩ := DdAll.getV (i := i) hs (by simpa using e)
    exact ⟨v, by simpa using h1, h2⟩
theorem DdAll.append {H : Hp} : ∀ {vs ws : List V} {ds es : List D}, DdAll p H vs ds → DdAll p H ws es → DdAll p H (vs ++ ws) (ds ++ es)
  | _, _, _, _, .nil, h => h
  | _, _, _, _, .cons h hs, h' => .cons h (DdAll.append hs h')
theorem DdAll.take {H : Hp} : ∀ {vs : List V} {ds : List D} (n : Nat), DdAll p H vs ds → DdAll p H (vs.take n) (ds.take n)
  | _, _, 0, _ => by simpa using DdAll.nil
  | _, _, n + 1, .nil => by simpa using DdAll.nil
  | _, _, n + 1, .cons h hs => by simpa using DdAll.cons h (DdAll.take n hs)
theorem DdAll.drop {H : Hp} : ∀ {vs : List V} {ds : List D} (n : Nat), DdAll p H vs ds → DdAll p H (vs.drop n) (ds.drop n)
  | _, _, 0, h => h
  | _, _, n + 1, .nil => by simpa using DdAll.nil
  | _, _, n + 1, .cons h hs => by simpa using DdAll.drop n hs
theorem DdAll.set {H : Hp} {v : V} {d : D} (h : Dd p H v d) : ∀ {vs : List V} {ds : List D} (n : Nat), DdAll p H vs ds → DdAll p H (vs.set n v) (ds.set n d)
  | _, _, _, .nil => .nil
  | _, _, 0, .cons _ hs => .cons h hs
  | _, _, n + 1, .cons h' hs => .cons h' (DdAll.set h n hs)
theorem DdAll.erase {H : Hp} : ∀ {vs : List V} {ds : List D} (n : Nat), DdAll p H vs ds → DdAll p H (vs.eraseIdx n) (ds.eraseIdx n)
  | _, _, _, .nil => .nil
  | _, _, 0, .cons _ hs => hs
  | _, _, n + 1, .cons h' hs => .cons h' (DdAll.erase n hs)
theorem DdAll.insert {H : Hp} {v : V} {d : D} (h : Dd p H v d) : ∀ {vs : List V} {ds : List D} (n : Nat), DdAll p H vs ds → DdAll p H (vs.insertIdx n v) (ds.insertIdx n d)
  | _, _, 0, hs => .cons h hs
  | _, _, n + 1, .nil => .nil
  | _, _, n + 1, .cons h' hs => .cons h' (DdAll.insert h n hs)
theorem DdAll.dropLast {H : Hp} {vs : List V} {ds : List D} (h : DdAll p H vs ds) : DdAll p H vs.dropLast ds.dropLast := by
  rw [List.dropLast_eq_take, List.dropLast_eq_take, h.length]; exact h.take _
theorem DdAll.reverse {H : Hp} : ∀ {vs : List V} {ds : List D}, DdAll p H vs ds → DdAll p H vs.reverse ds.reverse
  | _, _, .nil => .nil
  | _, _, .cons h hs => by
    rw [List.reverse_cons, List.reverse_cons]
    exact DdAll.append (DdAll.reverse hs) (.cons h .nil)
theorem DdAll.replicate {H : Hp} {vs : List V} {ds : List D} (h : DdAll p H vs ds) : ∀ n : Nat, DdAll p H (List.replicate n vs).flatten (List.replicate n ds).flatten
  | 0 => .nil
  | n + 1 => by
    rw [List.replicate_succ, List.replicate_succ, List.flatten_cons, List.flatten_cons]
    exact DdAll.append h (DdAll.replicate h n)
theorem DdAll.ints {H : Hp} : ∀ (ns : List Int), DdAll p H (ns.map V.int) (ns.map PyData.int)
  | [] => .nil
  | n :: ns => .cons (.int n) (DdAll.ints ns)
theorem DdAll.strs {H : Hp} : ∀ (ns : List Str), DdAll p H (ns.map V.str) (ns.map PyData.str)
  | [] => .nil
  | n :: ns => .cons (.str n) (DdAll.strs ns)
theorem DdAll.ofInts {H : Hp} : ∀ {vs : List V} {ns : List Int}, DdAll p H vs (ns.map PyData.int) → vs = ns.map V.int
  | _, [], .nil => rfl
  | _, n :: ns, .cons h hs => by
    cases h
    rw [DdAll.ofInts hs]; rfl
theorem DdAll.ofBools {H : Hp} : ∀ {vs : List V} {ns : List Bool}, DdAll p H vs (ns.map PyData.bool) → vs = ns.map V.bl
  | _, [], .nil => rfl
  | _, n :: ns, .cons h hs => by
    cases h
    rw [DdAll.ofBools hs]; rfl
theorem DdAll.ofStrs {H : Hp} : ∀ {vs : List V} {ns : List Str}, DdAll p H vs (ns.map PyData.str) → vs = ns.map V.str
  | _, [], .nil => rfl
  | _, n :: ns, .cons h hs => by
    cases h
    rw [DdAll.ofStrs hs]; rfl
end

/-! ### owned objects -/
/-- the draw state's inside -/
def StOk (b : Nat) (gs : List Int) (cur : Int) (cs : List Int) (cnt : Int) : Prop :=
  (∀ g ∈ gs, 0 < g) ∧ 0 ≤ cur ∧ (∀ c ∈ cs, 0 ≤ c ∧ c < 2147483629) ∧ 0 ≤ cnt ∧ cnt ≤ b ∧ cs.length ≤ 63 ∧ gs.length ≤ 63
/-- pairs -/
abbrev KD {κ : Type} (p : Pm) (I : Hp) : List (κ × V) → List (κ × D) → Prop := Paired fun (u : κ × V) (q : κ × D) => u.1 = q.1 ∧ Dd p I u.2 q.2
/-- the same of dicts whose keys are tuples (nested, to depth 8) -/
abbrev KN (p : Pm) (I : Hp) : List (NK × Addr × V) → List (NK × D) → Prop := Paired fun (u : NK × Addr × V) (q : NK × D) => u.1 = q.1 ∧ NkV I (.ref u.2.1) u.1 ∧ u.1.depth ≤ 8 ∧ Dd p I u.2.2 q.2
def OwnAt (p : Pm) (I H : Hp) (a : Addr) (fp : List Addr) : C → Prop
  | .lst ds => fp = [a] ∧ ∃ vs, H a = some (.lst vs) ∧ DdAll p I vs ds
  | .dic kvs => fp = [a] ∧ ∃ kv, H a = some (.dK kv) ∧ KD p I kv kvs
  | .dcN kvs => fp = [a] ∧ ∃ xs : List (NK × Addr × V), H a = some (nkO a xs) ∧ KN p I xs kvs
  | .st b => ∃ g c gs cur cs cnt, fp = [a, g, c] ∧ a ≠ g ∧ a ≠ c ∧ g ≠ c ∧ H a = some (.lst [.ref g, .int cur, .ref c, .int cnt]) ∧ H g = some (.lst (gs.map V.int)) ∧ H c = some (.lst (cs.map V.int)) ∧ StOk b gs cur cs cnt
def Own (p : Pm) (F : Lab) (I H : Hp) (j : Option Nat) (N : Addr → Prop) (a : Addr) (c : C) : Prop :=
  ∃ fp, OwnAt p I H a fp c ∧ ∀ b ∈ fp, F b = j ∧ I b = none ∧ N b ∧ H b ≠ none
/-- the own dict of an exception -/
abbrev XdOk (p : Pm) (I : Hp) (d : Option Addr) (fs : List (Str × D)) : Prop := (fs = [] ∧ d = none) ∨ ∃ dd fv, d = some dd ∧ I dd = some (.xd fv) ∧ Paired (fun (u : Str × V) (q : Str × D) => u.1 = q.1 ∧ Dd p I u.2 q.2) fv fs
theorem XdOk.mono {p : Pm} {I I' : Hp} {d : Option Addr} {fs : List (Str × D)} (e : Same I I') (h : XdOk p I d fs) : XdOk p I' d fs := by
  rcases h with h | ⟨dd, fv, h1, h2, h3⟩
  · exact .inl h
  · exact .inr ⟨dd, fv, h1, e _ _ h2, Paired.mapP h3 fun _ _ z => ⟨z.1, Dd.mono e z.2⟩⟩
/-- an exception in hand -/
def ExcV (p : Pm) (I : Hp) (v : V) (x : Exn) : Prop := ∃ d, p.G v x.nm d ∧ XdOk p I d x.fs
def SlotOk (p : Pm) (F : Lab) (I H : Hp) (i : Nat) (v : V) : S → Prop
  | .d d => Dd p I v d
  | .own c => ∃ a, v = .ref a ∧ Own p F I H (some i) (fun _ => True) a c
  | .lent a c => v = .ref a ∧ Own p F I H (some i) (fun _ => True) a c
  | .exc x => ExcV p I v x
/-- slots and heap bear the data environment: I is the part of the heap that never changes, F tells the owned addresses' slots -/
structure Rel (p : Pm) (F : Lab) (I H : Hp) (σ : L2.St) (ρ : Rho) : Prop where
  sub : Same I H
  lab : ∀ a j, F a = some j → I a = none ∧ H a ≠ none
  len : ρ.length = σ.length
  slot : ∀ i s, ρ[i]? = some (some s) → ∃ v, σ[i]? = some (some v) ∧ SlotOk p F I H i v s
/-- from one state to a later one -/
structure Step (F : Lab) (I H : Hp) (F' : Lab) (I' H' : Hp) : Prop where
  keep : ∀ a o, H a = some o → F a = none → H' a = some o
  inc : Same I I'
  newI : ∀ a, I' a ≠ none → I a ≠ none ∨ H a = none ∨ F a ≠ none
  lab : ∀ a j, F' a = some j → F a = some j ∨ H a = none
  there : ∀ a, H a ≠ none → H' a ≠ none
theorem Step.refl (F : Lab) (I H : Hp) : Step F I H F I H := ⟨fun _ _ e _ => e, fun _ _ e => e, fun _ e => .inl e, fun _ _ e => .inl e, fun _ e => e⟩
theorem Step.trans {F F' F'' : Lab} {I I' I'' H H' H'' : Hp} (a : Step F I H F' I' H') (b : Step F' I' H' F'' I'' H'') : Step F I H F'' I'' H'' where
  keep := fun x o e n => by
    refine b.keep x o (a.keep x o e n) ?_
    cases q : F' x with
    | none => rfl
    | some j =>
      rcases a.lab x j q with z | z
      · rw [n] at z; cases z
      · rw [e] at z; cases z
  inc := fun x o e => b.inc x o (a.inc x o e)
  newI := fun x e => by
    rcases b.newI x e with z | z | z
    · exact a.newI x z
    · refine .inr (.inl ?_)
      cases q : H x with
      | none => rfl
      | some o => exact absurd z (a.there x (by rw [q]; simp))
    · cases q : F' x with
      | none => exact absurd q z
      | some j =>
        rcases a.lab x j q with y | y
        · exact .inr (.inr (by rw [y]; simp))
        · exact .inr (.inl y)
  lab := fun x j e => by
    rcases b.lab x j e with z | z
    · exact a.lab x j z
    · refine .inr ?_
      cases q : H x with
      | none => rfl
      | some o => exact absurd z (a.there x (by rw [q]; simp))
  there := fun x e => b.there x (a.there x e)
theorem KD.mono {κ : Type} {p : Pm} {I I' : Hp} (e : Same I I') {kv : List (κ × V)} {kvs : List (κ × D)} (h : KD p I kv kvs) : KD p I' kv kvs := Paired.mapP h fun _ _ z => ⟨z.1, Dd.mono e z.2⟩
theorem KN.mono {p : Pm} {I I' : Hp} (e : Same I I') {kv : List (NK × Addr × V)} {kvs : List (NK × D)} (h : KN p I kv kvs) : KN p I' kv kvs := Paired.mapP h fun _ _ z => ⟨z.1, z.2.1.keep fun a o xs h => e a _ h, z.2.2.1, Dd.mono e z.2.2.2⟩
theorem OwnAt.mem {p : Pm} {I H : Hp} {a : Addr} {fp : List Addr} {c : C} (h : OwnAt p I H a fp c) : a ∈ fp := by
  cases c with
  | lst ds => obtain ⟨rfl, _⟩ := h; simp
  | dic ds => obtain ⟨rfl, _⟩ := h; simp
  | dcN ds => obtain ⟨rfl, _⟩ := h; simp
  | st b => obtain ⟨g, c, _, _, _, _, rfl, _⟩ := h; simp
/-- the objects at fp as they were, more data known -/
theorem OwnAt.keep {p : Pm} {I I' H H' : Hp} {a : Addr} {fp : List Addr} {c : C} (h : OwnAt p I H a fp c) (k : ∀ b ∈ fp, H' b = H b) (e : Same I I') : OwnAt p I' H' a fp c := by
  have ka := k a h.mem
  cases c with
  | lst ds => obtain ⟨rfl, vs, h1, h2⟩ := h; exact ⟨rfl, vs, ka.trans h1, DdAll.mono e h2⟩
  | dic ds => obtain ⟨rfl, vs, h1, h2⟩ := h; exact ⟨rfl, vs, ka.trans h1, KD.mono e h2⟩
  | dcN ds => obtain ⟨rfl, vs, h1, h2⟩ := h; exact ⟨rfl, vs, ka.trans h1, KN.mono e h2⟩
  | st b =>
    obtain ⟨g, c, gs, cur, cs, cnt, rfl, n1, n2, n3, h1, h2, h3, h4⟩ := h
    exact ⟨g, c, gs, cur, cs, cnt, rfl, n1, n2, n3, ka.trans h1, (k g (by simp)).trans h2, (k c (by simp)).trans h3, h4⟩
/-- a result -/
def ResOk (p : Pm) (F : Lab) (I H0 H : Hp) (σ : L2.St) (v : V) : O → Prop
  | .d d => Dd p I v d
  | .tmp c => ∃ a, v = .ref a ∧ Own p F I H none (fun b => H0 b = none) a c
  | .loc j => σ[j]? = some (some v)
  | .exc x => ExcV p I v x
section
variable {p : Pm} {F F' : Lab} {I I' H0 H1 H H' : Hp} {σ : L2.St} {v : V} {o : O} {a : Addr} {c : C} {N N' : Addr → Prop}
/-- what nobody has is as it was -/
theorem Own.stay (h : Own p F I H none N a c) (s : Step F I H F' I' H') : Own p F' I' H' none N a c := by
  obtain ⟨fp, h1, h2⟩ := h
  refine ⟨fp, h1.keep (fun b hb => ?_) s.inc, fun b hb => ?_⟩
  · obtain ⟨f, _, _, n⟩ := h2 b hb
    cases q : H b with
    | none => exact absurd q n
    | some o => exact s.keep b o q f
  · obtain ⟨f, i, z, n⟩ := h2 b hb
    refine ⟨?_, ?_, z, s.there b n⟩
    · cases q : F' b with
      | none => rfl
      | some j =>
        rcases s.lab b j q with y | y
        · rw [f] at y; cases y
        · exact absurd y n
    · cases q : I' b with
      | none => rfl
      | some j =>
        rcases s.newI b (by rw [q]; simp) with y | y | y
        · exact absurd i y
        · exact absurd y n
        · exact absurd f y
theorem Own.imp {j : Option Nat} (h : Own p F I H j N a c) (f : ∀ b, N b → N' b) : Own p F I H j N' a c := by
  obtain ⟨fp, h1, h2⟩ := h
  exact ⟨fp, h1, fun b hb => let ⟨x, y, z, w⟩ := h2 b hb; ⟨x, y, f b z, w⟩⟩
theorem ResOk.stay (h : ResOk p F I H0 H σ v o) (s : Step F I H F' I' H') : ResOk p F' I' H0 H' σ v o := by
  cases o with
  | d d => exact Dd.mono s.inc h
  | tmp c => obtain ⟨a, e, h⟩ := h; exact ⟨a, e, h.stay s⟩
  | loc j => exact h
  | exc x => obtain ⟨d, g, h⟩ := h; exact ⟨d, g, h.mono s.inc⟩
theorem ResOk.older (h : ResOk p F I H0 H σ v o) (n : ∀ b, H0 b = none → H1 b = none) : ResOk p F I H1 H σ v o := by
  cases o with
  | d d => exact h
  | tmp c => obtain ⟨a, e, h⟩ := h; exact ⟨a, e, h.imp n⟩
  | loc j => exact h
  | exc x => exact h
theorem Step.old (s : Step F I H F' I' H') {b : Addr} (e : H' b = none) : H b = none := by
  cases q : H b with
  | none => rfl
  | some o => exact absurd e (s.there b (by rw [q]; simp))
end

/-! ### readings made of data readings -/
abbrev DE := Rho → (O → Rho → Prop) → (Exn → Rho → Prop) → Prop
abbrev DT := Rho → (Bool → Rho → Prop) → (Exn → Rho → Prop) → Prop
abbrev DA := Rho → (List O → Rho → Prop) → (Exn → Rho → Prop) → Prop
structure DEnds where
  nx : Rho → Prop
  rt : O → Rho → Prop
  bk : Rho → Prop
  ct : Rho → Prop
  ex : Exn → Rho → Prop
abbrev DS := DEnds → Rho → Prop
/-- an exception as it flies -/
def ExOk (p : Pm) (I : Hp) (x : Exn) (cls : Value) (d : Option Addr) : Prop :=
  ∃ Cx, p.mg (exN x.nm) = some (.ref Cx) ∧ cls = .ref Cx ∧ XdOk p I d x.fs
abbrev ResAll (p : Pm) (F : Lab) (I H0 H : Hp) (σ : L2.St) : List V → List O → Prop := Paired (ResOk p F I H0 H σ)
section
variable (p : Pm) (W : WX)
/-- what is to be done with an exception -/
def XEnd (F : Lab) (I H : Hp) (σ : L2.St) (PX : Exn → Rho → Prop) : Prop :=
  ∀ x ρ' cls d F' I' H', PX x ρ' → Step F I H F' I' H' → Rel p F' I' H' σ ρ' → ExOk p I' x cls d → W cls d σ H'
def tE (f : DE) : TE := fun σ H Q => ∃ F I ρ P PX, Rel p F I H σ ρ ∧ f ρ P PX ∧
  (∀ o ρ' v F' I' H', P o ρ' → Step F I H F' I' H' → Rel p F' I' H' σ ρ' → ResOk p F' I' H H' σ v o → Q v H') ∧ XEnd p W F I H σ PX
def tT (f : DT) : TT := fun σ H Q => ∃ F I ρ P PX, Rel p F I H σ ρ ∧ f ρ P PX ∧
  (∀ b ρ' F' I' H', P b ρ' → Step F I H F' I' H' → Rel p F' I' H' σ ρ' → Q b H') ∧ XEnd p W F I H σ PX
def tA (f : DA) : TA := fun σ H Q => ∃ F I ρ P PX, Rel p F I H σ ρ ∧ f ρ P PX ∧
  (∀ os ρ' vs F' I' H', P os ρ' → Step F I H F' I' H' → Rel p F' I' H' σ ρ' → ResAll p F' I' H H' σ vs os → Q vs H') ∧ XEnd p W F I H σ PX
/-- a statement's ends -/
structure SEnd (F : Lab) (I H : Hp) (E : DEnds) (D : Ends) : Prop where
  nx : ∀ ρ' σ' F' I' H', E.nx ρ' → Step F I H F' I' H' → Rel p F' I' H' σ' ρ' → D.nx σ' H'
  bk : ∀ ρ' σ' F' I' H', E.bk ρ' → Step F I H F' I' H' → Rel p F' I' H' σ' ρ' → D.bk σ' H'
  ct : ∀ ρ' σ' F' I' H', E.ct ρ' → Step F I H F' I' H' → Rel p F' I' H' σ' ρ' → D.ct σ' H'
  rt : ∀ o ρ' v σ' F' I' H', E.rt o ρ' → Step F I H F' I' H' → Rel p F' I' H' σ' ρ' → ResOk p F' I' H H' σ' v o → D.rt v H'
  ex : ∀ x ρ' cls d σ' F' I' H', E.ex x ρ' → Step F I H F' I' H' → Rel p F' I' H' σ' ρ' → ExOk p I' x cls d → W cls d σ' H'
def tS (f : DS) : TS := fun D σ H => ∃ F I ρ E, Rel p F I H σ ρ ∧ f E ρ ∧ SEnd p W F I H E D
end
section
variable {p : Pm} {W : WX} {F F' : Lab} {I I' H H' : Hp} {σ : L2.St} {PX : Exn → Rho → Prop} {E : DEnds} {D : Ends}
theorem XEnd.later (h : XEnd p W F I H σ PX) (s : Step F I H F' I' H') : XEnd p W F' I' H' σ PX :=
  fun x ρ' cls d F'' I'' H'' p s' r e => h x ρ' cls d F'' I'' H'' p (s.trans s') r e
theorem SEnd.later (h : SEnd p W F I H E D) (s : Step F I H F' I' H') : SEnd p W F' I' H' E D :=
  ⟨fun ρ' σ' F'' I'' H'' p s' r => h.nx ρ' σ' F'' I'' H'' p (s.trans s') r, fun ρ' σ' F'' I'' H'' p s' r => h.bk ρ' σ' F'' I'' H'' p (s.trans s') r, fun ρ' σ' F'' I'' H'' p s' r => h.ct ρ' σ' F'' I'' H'' p (s.trans s') r,
    fun o ρ' v σ' F'' I'' H'' p s' r q => h.rt o ρ' v σ' F'' I'' H'' p (s.trans s') r (q.older fun b e => s.old e), fun x ρ' cls d σ' F'' I'' H'' p s' r e => h.ex x ρ' cls d σ' F'' I'' H'' p (s.trans s') r e⟩
theorem SEnd.xend (h : SEnd p W F I H E D) : XEnd p W F I H σ E.ex := fun x ρ' cls d F'' I'' H'' p s' r e => h.ex x ρ' cls d σ F'' I'' H'' p s' r e
end
/-! ### weaker readings -/
theorem PE.weak {X : Cx} {e : Expr} {t t' : TE} (h : PE X e t) (w : ∀ σ H Q, t' σ H Q → t σ H Q) : PE X e t' := ⟨fun pins s σ H Q I q => h.run pins s σ H Q I (w σ H Q q)⟩
theorem PT.weak {X : Cx} {e : Expr} {t t' : TT} (h : PT X e t) (w : ∀ σ H Q, t' σ H Q → t σ H Q) : PT X e t' := ⟨fun pins s σ H Q I q => h.run pins s σ H Q I (w σ H Q q)⟩
theorem PW.weak {X : Cx} {e : Expr} {t t' : TT} (h : PW X e t) (w : ∀ σ H Q, t' σ H Q → t σ H Q) : PW X e t' := ⟨fun wh pins s σ H Q I q => h.run wh pins s σ H Q I (w σ H Q q)⟩
theorem PA.weak {X : Cx} {es : List Expr} {t t' : TA} (h : PA X es t) (w : ∀ σ H Q, t' σ H Q → t σ H Q) : PA X es t' := ⟨fun pos pins s σ H Q I q => h.run pos pins s σ H Q I (w σ H Q q)⟩
theorem PS.weak {X : Cx} {st : Stmt} {t t' : TS} (h : PS X st t) (w : ∀ D σ H, t' D σ H → t D σ H) : PS X st t' := ⟨fun pins s σ H D I q => h.run pins s σ H D I (w D σ H q)⟩
theorem PSs.weak {X : Cx} {st : List Stmt} {t t' : TS} (h : PSs X st t) (w : ∀ D σ H, t' D σ H → t D σ H) : PSs X st t' := ⟨fun pins s σ H D I q => h.run pins s σ H D I (w D σ H q)⟩
end Dt

namespace Dt
open PySem PySem.Spec PyProof.Rows L2

abbrev pm (X : Cx) (G : V → Nat → Option Addr → Prop) : Pm := ⟨X.K, X.mg, G⟩
abbrev PEd (X : Cx) (G : V → Nat → Option Addr → Prop) (W : WX) (e : Expr) (f : DE) : Prop := PE X e (tE (pm X G) W f)
abbrev PTd (X : Cx) (G : V → Nat → Option Addr → Prop) (W : WX) (e : Expr) (f : DT) : Prop := PT X e (tT (pm X G) W f)
abbrev PWd (X : Cx) (G : V → Nat → Option Addr → Prop) (W : WX) (e : Expr) (f : DT) : Prop := PW X e (tT (pm X G) W f)
abbrev PAd (X : Cx) (G : V → Nat → Option Addr → Prop) (W : WX) (es : List Expr) (f : DA) : Prop := PA X es (tA (pm X G) W f)
abbrev PSd (X : Cx) (G : V → Nat → Option Addr → Prop) (W : WX) (s : Stmt) (f : DS) : Prop := PS X s (tS (pm X G) W f)
abbrev PSsd (X : Cx) (G : V → Nat → Option Addr → Prop) (W : WX) (s : List Stmt) (f : DS) : Prop := PSs X s (tS (pm X G) W f)

/-! ### views -/
def cst (ρ : Rho) (j : Nat) : Option C := match ρ[j]? with
  | some (some (.own c)) => some c
  | some (some (.lent _ c)) => some c
  | _ => none
def dat (ρ : Rho) (j : Nat) : Option D := match ρ[j]? with
  | some (some (.d d)) => some d
  | _ => none
def vw (ρ : Rho) : O → Option D
  | .d d => some d
  | .tmp (.lst ds) => some (.list ds)
  | .loc j => match cst ρ j with
    | some (.lst ds) => some (.list ds)
    | _ => dat ρ j
  | _ => none
def vw1 (ρ : Rho) (o : O) (k : D → Prop) : Prop := match vw ρ o with
  | some d => k d
  | none => False
def vws (ρ : Rho) : List O → Option (List D)
  | [] => some []
  | o :: os => match vw ρ o with
    | some d => match vws ρ os with
      | some ds => some (d :: ds)
      | none => none
    | none => none
def Dd1 (p : Pm) (I H : Hp) (v : V) (d : D) : Prop := Dd p I v d ∨ ∃ a vs ds, v = .ref a ∧ d = .list ds ∧ H a = some (.lst vs) ∧ DdAll p I vs ds
section
variable {p : Pm} {F F' : Lab} {I I' H0 H1 H H' : Hp} {σ : L2.St} {ρ : Rho} {v w : V} {o : O} {d e : D} {c : C}
theorem Rel.cst (R : Rel p F I H σ ρ) {j : Nat} (h : σ[j]? = some (some v)) (hc : cst ρ j = some c) : ∃ a, v = .ref a ∧ Own p F I H (some j) (fun _ => True) a c := by
  unfold Dt.cst at hc
  split at hc
  · rename_i q
    cases hc
    obtain ⟨u, h1, h2⟩ := R.slot j _ q
    rw [h] at h1; cases h1
    exact h2
  · rename_i a0 c0 q
    cases hc
    obtain ⟨u, h1, h2⟩ := R.slot j _ q
    rw [h] at h1; cases h1
    exact ⟨_, h2⟩
  · cases hc
theorem vw_ok (R : Rel p F I H σ ρ) (r : ResOk p F I H0 H σ v o) (h : vw ρ o = some d) : Dd1 p I H v d := by
  cases o with
  | d d' => unfold vw at h; cases h; exact .inl r
  | tmp c =>
    cases c with
    | lst ds =>
      unfold vw at h; cases h
      obtain ⟨a, e, fp, ⟨_, vs, h1, h2⟩, _⟩ := r
      exact .inr ⟨a, vs, ds, e, rfl, h1, h2⟩
    | _ => cases h
  | loc j =>
    have h : (match Dt.cst ρ j with | some (.lst ds) => some (PyData.list ds) | _ => dat ρ j) = some d := h
    split at h
    · rename_i ds q
      cases h
      obtain ⟨a, e, fp, ⟨_, vs, h1, h2⟩, _⟩ := R.cst r q
      exact .inr ⟨a, vs, ds, e, rfl, h1, h2⟩
    · unfold dat at h
      split at h
      · rename_i q
        cases h
        obtain ⟨u, h1, h2⟩ := R.slot j _ q
        have r : σ[j]? = some (some v) := r
        rw [r] at h1; cases h1
        exact .inl h2
      · cases h
  | exc x => cases h
theorem vws_ok (R : Rel p F I H σ ρ) : ∀ {vs : List V} {os : List O} {ds : List D}, ResAll p F I H0 H σ vs os → vws ρ os = some ds → Paired (Dd1 p I H) vs ds
  | _, _, _, .nil, h => by cases h; exact .nil
  | _, _, _, .cons (a := v) (b := o) r rs, h => by
    unfold vws at h
    split at h
    · rename_i d q
      split at h
      · rename_i ds q2
        cases h
        exact .cons (vw_ok R r q) (vws_ok R rs q2)
      · cases h
    · cases h
theorem Dd1.int {i : Int} (h : Dd1 p I H v (.int i)) : v = .int i := by
  rcases h with h | ⟨_, _, _, _, h, _⟩
  · cases h; rfl
  · cases h
theorem Dd1.bool {i : Bool} (h : Dd1 p I H v (.bool i)) : v = .bl i := by
  rcases h with h | ⟨_, _, _, _, h, _⟩
  · cases h; rfl
  · cases h
theorem Dd1.str {i : Str} (h : Dd1 p I H v (.str i)) : v = .str i := by
  rcases h with h | ⟨_, _, _, _, h, _⟩
  · cases h; rfl
  · cases h
theorem Dd1.none (h : Dd1 p I H v .none) : v = .non := by
  rcases h with h | ⟨_, _, _, _, h, _⟩
  · cases h; rfl
  · cases h
theorem Dd1.list {ds : List D} (h : Dd1 p I H v (.list ds)) (s : Same I H) : ∃ a vs, v = .ref a ∧ H a = some (.lst vs) ∧ DdAll p I vs ds := by
  rcases h with h | ⟨a, vs, _, e, h, h1, h2⟩
  · cases h with | lst h hs => exact ⟨_, _, rfl, s _ _ h, hs⟩
  · cases h; exact ⟨a, vs, e, h1, h2⟩
theorem Dd1.tuple {ds : List D} (h : Dd1 p I H v (.tuple ds)) : ∃ a o vs, v = .ref a ∧ I a = some (.frz o (.tup vs)) ∧ o.dict = .none ∧ DdAll p I vs ds := by
  rcases h with h | ⟨a, vs, _, e, h, h1, h2⟩
  · cases h with | tup h z hs => exact ⟨_, _, _, rfl, h, z, hs⟩
  · cases h
theorem sqF {K : PySem.W.Frag} {a : Addr} {b : Obj} {vs : List V} (h : H a = some (.frz b (.tup vs))) : SqT K H a vs := .inl (.inr ⟨b, h⟩)
theorem Dd1.dp (h : Dd1 p I H v d) (s : Same I H) (q : SeqAt.shaped d = true) : Dp p.K H v d := by
  rcases h with h | ⟨a, vs, ds, rfl, rfl, h1, h2⟩
  · exact (h.mono s).dp q
  · refine .lst (SqL.of h1) (DdAll.dp0 (DdAll.mono s h2) ?_)
    have := SeqAt.canLay_of_shaped q
    simpa [PyData.canLay0] using this
theorem Dd1.notNone (h : Dd1 p I H v d) : (v = .non) ↔ (d = .none) := by
  rcases h with h | ⟨a, vs, ds, rfl, rfl, h1, h2⟩
  · cases h <;> simp
  · simp

/-! ### states that grow -/
theorem Rel.more (R : Rel p F I H σ ρ) (h : Same H H') (i : Same I I') (s : Same I' H') (n : ∀ a, I' a ≠ .none → I a ≠ .none ∨ H a = .none) : Rel p F I' H' σ ρ := by
  have hl : ∀ a j, F a = some j → I' a = .none ∧ H' a = H a ∧ H' a ≠ .none := fun a j e => by
    obtain ⟨h1, h2⟩ := R.lab a j e
    refine ⟨?_, ?_, ?_⟩
    · cases q : I' a with
      | none => rfl
      | some x =>
        rcases n a (by rw [q]; simp) with z | z
        · exact absurd h1 z
        · exact absurd z h2
    · cases q : H a with
      | none => exact absurd q h2
      | some x => exact h a x q
    · cases q : H a with
      | none => exact absurd q h2
      | some x => rw [h a x q]; simp
  have own : ∀ {j : Nat} {a : Addr} {c : C}, Own p F I H (some j) (fun _ => True) a c → Own p F I' H' (some j) (fun _ => True) a c := fun {j a c} ⟨fp, h1, h2⟩ =>
    ⟨fp, h1.keep (fun b hb => (hl b j (h2 b hb).1).2.1) i, fun b hb => ⟨(h2 b hb).1, (hl b j (h2 b hb).1).1, trivial, (hl b j (h2 b hb).1).2.2⟩⟩
  refine ⟨s, fun a j e => ⟨(hl a j e).1, (hl a j e).2.2⟩, R.len, fun k sl e => ?_⟩
  obtain ⟨v, h1, h2⟩ := R.slot k sl e
  refine ⟨v, h1, ?_⟩
  cases sl with
  | d d => exact Dd.mono i h2
  | own c => obtain ⟨a, e, h2⟩ := h2; exact ⟨a, e, own h2⟩
  | lent a c => exact ⟨h2.1, own h2.2⟩
  | exc x => obtain ⟨d, g, h2⟩ := h2; exact ⟨d, g, h2.mono i⟩
theorem Step.more (R : Rel p F I H σ ρ) (h : Same H H') (i : Same I I') (n : ∀ a, I' a ≠ .none → I a ≠ .none ∨ H a = .none) : Step F I H F I' H' :=
  ⟨fun a o e _ => h a o e, i, fun a e => (n a e).elim .inl (fun z => .inr (.inl z)), fun _ _ e => .inl e, fun a e => by
    cases q : H a with
    | none => exact absurd q e
    | some x => rw [h a x q]; simp⟩
theorem same_upd {q : Addr} {x : HO} (h : H q = .none) : Same H (upd H q x) := fun b y e => by
  rw [upd_ne (ne_of_none e h)]; exact e
theorem Rel.fresh (R : Rel p F I H σ ρ) {q : Addr} (h : H q = .none) : I q = .none := by
  cases e : I q with
  | none => rfl
  | some x => rw [R.sub q x e] at h; cases h
theorem Rel.lab0 (R : Rel p F I H σ ρ) {q : Addr} (h : H q = .none) : F q = .none := by
  cases e : F q with
  | none => rfl
  | some x => exact absurd h (R.lab q x e).2
theorem same_updI (R : Rel p F I H σ ρ) {q : Addr} {x : HO} (h : H q = .none) : Same (upd I q x) (upd H q x) := fun b y e => by
  by_cases hb : b = q
  · subst hb; rw [upd_same] at e ⊢; exact e
  · rw [upd_ne hb] at e ⊢; exact R.sub b y e
theorem newI_upd {q : Addr} {x : HO} (h : H q = .none) : ∀ a, upd I q x a ≠ .none → I a ≠ .none ∨ H a = .none := fun a e => by
  by_cases hb : a = q
  · subst hb; exact .inr h
  · rw [upd_ne hb] at e; exact .inl e
/-- a new object that never changes -/
theorem Rel.newI (R : Rel p F I H σ ρ) {q : Addr} {x : HO} (h : H q = .none) : Rel p F (upd I q x) (upd H q x) σ ρ ∧ Step F I H F (upd I q x) (upd H q x) :=
  ⟨R.more (same_upd h) (same_upd (R.fresh h)) (same_updI R h) (newI_upd h), Step.more R (same_upd h) (same_upd (R.fresh h)) (newI_upd h)⟩
/-- a new object of ours -/
theorem Rel.newT (R : Rel p F I H σ ρ) {q : Addr} {x : HO} (h : H q = .none) : Rel p F I (upd H q x) σ ρ ∧ Step F I H F I (upd H q x) :=
  ⟨R.more (same_upd h) (fun _ _ e => e) (fun b y e => same_upd h _ _ (R.sub b y e)) (fun _ e => .inl e), Step.more R (same_upd h) (fun _ _ e => e) (fun _ e => .inl e)⟩
end

/-! ### what a plain operation hands on -/
def Kont (p : Pm) (F : Lab) (I H : Hp) (σ : L2.St) (ρ : Rho) (P : O → Prop) (Q : VK) : Prop :=
  ∀ o v' I' H', P o → Step F I H F I' H' → Rel p F I' H' σ ρ → ResOk p F I' H H' σ v' o → Q v' H'
section
variable {p : Pm} {F F' : Lab} {I I' H0 H1 H H' : Hp} {σ : L2.St} {ρ : Rho} {v w : V} {o : O} {d e : D} {c : C} {P : O → Prop} {Q : VK} {vs : List V} {ds : List D} {q : Addr}
theorem Kont.flat (k : Kont p F I H σ ρ P Q) (R : Rel p F I H σ ρ) (h : P (.d d)) (r : Dd p I v d) : Q v H := k _ _ _ _ h (Step.refl ..) R r
theorem Kont.tup (k : Kont p F I H σ ρ P Q) (R : Rel p F I H σ ρ) (h : P (.d (.tuple ds))) (r : DdAll p I vs ds) : NewT H Q vs := fun q o n z => by
  obtain ⟨R', S⟩ := R.newI (x := .frz o (.tup vs)) n
  exact k _ _ _ _ h S R' (Dd.tup upd_same z (DdAll.mono S.inc r))
theorem Kont.lst (k : Kont p F I H σ ρ P Q) (R : Rel p F I H σ ρ) (h : P (.tmp (.lst ds))) (r : DdAll p I vs ds) (n : H q = none) : Q (.ref q) (upd H q (.lst vs)) := by
  obtain ⟨R', S⟩ := R.newT (x := .lst vs) n
  refine k _ _ _ _ h S R' ⟨q, rfl, [q], ⟨rfl, vs, upd_same, r⟩, fun b hb => ?_⟩
  have e : b = q := by simpa using hb
  subst e
  exact ⟨R.lab0 n, R.fresh n, n, by rw [upd_same]; simp⟩
theorem Kont.dic0 (k : Kont p F I H σ ρ P Q) (R : Rel p F I H σ ρ) (h : P (.tmp (.dic []))) (n : H q = none) : Q (.ref q) (upd H q (.dK [])) := by
  obtain ⟨R', S⟩ := R.newT (x := .dK []) n
  refine k _ _ _ _ h S R' ⟨q, rfl, [q], ⟨rfl, [], upd_same, .nil⟩, fun b hb => ?_⟩
  have e : b = q := by simpa using hb
  subst e
  exact ⟨R.lab0 n, R.fresh n, n, by rw [upd_same]; simp⟩
theorem Kont.dcN0 (k : Kont p F I H σ ρ P Q) (R : Rel p F I H σ ρ) (h : P (.tmp (.dcN []))) (n : H q = none) : Q (.ref q) (upd H q (nkO q [])) := by
  obtain ⟨R', S⟩ := R.newT (x := nkO q []) n
  refine k _ _ _ _ h S R' ⟨q, rfl, [q], ⟨rfl, [], upd_same, .nil⟩, fun b hb => ?_⟩
  have e : b = q := by simpa using hb
  subst e
  exact ⟨R.lab0 n, R.fresh n, n, by rw [upd_same]; simp⟩
end
/-! ### names and constants -/
def dVar (i : Nat) : DE := fun ρ P _ => match ρ[i]? with
  | some (some (.d v)) => P (.d v) ρ
  | some (some (.own _)) => P (.loc i) ρ
  | some (some (.lent _ _)) => P (.loc i) ρ
  | some (some (.exc x)) => P (.exc x) ρ
  | _ => False
def dC (v : D) : DE := fun ρ P _ => P (.d v) ρ
section
variable {X : Cx} {G : V → Nat → Option Addr → Prop} {W : WX} {pos : Pos}
theorem e_var {i : Nat} {e : Expr} (h : PE X e (tVar i)) : PEd X G W e (dVar i) := PE.weak h fun σ H Q q => by
  obtain ⟨F, I, ρ, P, PX, R, f, k, _⟩ := q
  have f : (match ρ[i]? with | some (some (.d v)) => P (.d v) ρ | some (some (.own _)) => P (.loc i) ρ | some (some (.lent _ _)) => P (.loc i) ρ | some (some (.exc x)) => P (.exc x) ρ | _ => False) := f
  split at f
  · rename_i v e
    obtain ⟨u, h1, h2⟩ := R.slot _ _ e
    exact ⟨u, h1, k _ _ _ _ _ _ f (Step.refl ..) R h2⟩
  · rename_i c e
    obtain ⟨u, h1, h2⟩ := R.slot _ _ e
    exact ⟨u, h1, k _ _ _ _ _ _ f (Step.refl ..) R h1⟩
  · rename_i a c e
    obtain ⟨u, h1, h2⟩ := R.slot _ _ e
    exact ⟨u, h1, k _ _ _ _ _ _ f (Step.refl ..) R h1⟩
  · rename_i x e
    obtain ⟨u, h1, h2⟩ := R.slot _ _ e
    exact ⟨u, h1, k _ _ _ _ _ _ f (Step.refl ..) R h2⟩
  · exact f.elim
theorem e_const {e : Expr} {v : V} {d : D} (h : PE X e (tC v)) (r : ∀ I, Dd (pm X G) I v d) : PEd X G W e (dC d) := PE.weak h fun σ H Q q => by
  obtain ⟨F, I, ρ, P, PX, R, f, k, _⟩ := q
  exact k _ _ _ _ _ _ f (Step.refl ..) R (r I)
theorem e_int {i : Int} {j} : PEd X G W (.Constant (.int i) j pos) (dC (.int i)) := e_const pe_int fun _ => .int i
theorem e_bl {b j} : PEd X G W (.Constant (.bool b) j pos) (dC (.bool b)) := e_const pe_bl fun _ => .bl b
theorem e_non {j} : PEd X G W (.Constant .none j pos) (dC .none) := e_const pe_non fun _ => .non
theorem e_str {x j} : PEd X G W (.Constant (.str x) j pos) (dC (.str x)) := e_const pe_str fun _ => .str x
/-- a module's constant -/
theorem e_globI {x : Str} {i : Int} {t : Tok} (hg : Gl X x) (hm : X.mg x = some (.int i t)) (hd : (x == ("__debug__" : Str)) = false := by decide) : PEd X G W (.Name x pos) (dC (.int i)) := e_const (pe_glob (v := .int i) hg hm ⟨t, rfl⟩ hd) fun _ => .int i
theorem e_globS {x : Str} {i : Str} {t : Tok} (hg : Gl X x) (hm : X.mg x = some (.str i t)) (hd : (x == ("__debug__" : Str)) = false := by decide) : PEd X G W (.Name x pos) (dC (.str i)) := e_const (pe_glob (v := .str i) hg hm ⟨t, rfl⟩ hd) fun _ => .str i
end
/-! ### two operands -/
def vw2 (ρ : Rho) (o1 o2 : O) (k : D → D → Prop) : Prop := match vw ρ o1 with
  | some d1 => match vw ρ o2 with
    | some d2 => k d1 d2
    | none => False
  | none => False
theorem vw2_of {ρ : Rho} {o1 o2 : O} {k : D → D → Prop} (h : vw2 ρ o1 o2 k) : ∃ d1 d2, vw ρ o1 = some d1 ∧ vw ρ o2 = some d2 ∧ k d1 d2 := by
  unfold vw2 at h
  split at h
  · split at h
    · exact ⟨_, _, by assumption, by assumption, h⟩
    · exact h.elim
  · exact h.elim
theorem vw1_of {ρ : Rho} {o1 : O} {k : D → Prop} (h : vw1 ρ o1 k) : ∃ d1, vw ρ o1 = some d1 ∧ k d1 := by
  unfold vw1 at h
  split at h
  · exact ⟨_, by assumption, h⟩
  · exact h.elim
abbrev D2 := D → D → (O → Prop) → Prop
abbrev D1 := D → (O → Prop) → Prop
def OpS (p : Pm) (r : R2) (f : D2) : Prop := ∀ F I H σ ρ v w d e P Q, Rel p F I H σ ρ → Dd1 p I H v d → Dd1 p I H w e → f d e P → Kont p F I H σ ρ P Q → r v w H Q
def UnS (p : Pm) (r : V → Hp → VK → Prop) (f : D1) : Prop := ∀ F I H σ ρ v d P Q, Rel p F I H σ ρ → Dd1 p I H v d → f d P → Kont p F I H σ ρ P Q → r v H Q
theorem OpS.or {p : Pm} {r r' : R2} {f f' : D2} (a : OpS p r f) (b : OpS p r' f') : OpS p (fun x y H Q => r x y H Q ∨ r' x y H Q) (fun d e P => f d e P ∨ f' d e P) :=
  fun F I H σ ρ v w d e P Q R h1 h2 h k => h.elim (fun h => .inl (a F I H σ ρ v w d e P Q R h1 h2 h k)) fun h => .inr (b F I H σ ρ v w d e P Q R h1 h2 h k)
theorem OpS.of {p : Pm} {r r' : R2} {f : D2} (a : OpS p r f) (h : ∀ x y H Q, r x y H Q → r' x y H Q) : OpS p r' f := fun F I H σ ρ v w d e P Q R h1 h2 q k => h _ _ _ _ (a F I H σ ρ v w d e P Q R h1 h2 q k)
theorem OpS.imp {p : Pm} {r : R2} {f f' : D2} (a : OpS p r f) (h : ∀ d e P, f' d e P → f d e P) : OpS p r f' := fun F I H σ ρ v w d e P Q R h1 h2 q k => a F I H σ ρ v w d e P Q R h1 h2 (h _ _ _ q) k
def dOp (f : D2) (a b : DE) : DE := fun ρ P PX => a ρ (fun o1 ρ1 => b ρ1 (fun o2 ρ2 => vw2 ρ2 o1 o2 fun d1 d2 => f d1 d2 fun o => P o ρ2) PX) PX
def dUn (f : D1) (a : DE) : DE := fun ρ P PX => a ρ (fun o1 ρ1 => vw1 ρ1 o1 fun d1 => f d1 fun o => P o ρ1) PX
section
variable {p : Pm} {W : WX}
theorem w_op {r : R2} {f : D2} {a b : DE} (hs : OpS p r f) (σ : L2.St) (H : Hp) (Q : VK) (q : tE p W (dOp f a b) σ H Q) : tOp r (tE p W a) (tE p W b) σ H Q := by
  obtain ⟨F, I, ρ, P, PX, R, f1, k, x⟩ := q
  refine ⟨F, I, ρ, _, PX, R, f1, fun o1 ρ1 v F1 I1 H1 f2 s1 R1 r1 => ?_, x⟩
  refine ⟨F1, I1, ρ1, _, PX, R1, f2, fun o2 ρ2 w F2 I2 H2 f3 s2 R2 r2 => ?_, x.later s1⟩
  obtain ⟨d1, d2, e1, e2, f4⟩ := vw2_of f3
  refine hs F2 I2 H2 σ ρ2 v w d1 d2 _ Q R2 (vw_ok R2 (r1.stay s2) e1) (vw_ok R2 r2 e2) f4 fun o v' I' H' h s' R' r' => ?_
  exact k o ρ2 v' F2 I' H' h ((s1.trans s2).trans s') R' (r'.older fun b e => (s1.trans s2).old e)
theorem w_un {r : V → Hp → VK → Prop} {f : D1} {a : DE} (hs : UnS p r f) (σ : L2.St) (H : Hp) (Q : VK) (q : tE p W (dUn f a) σ H Q) : tUn r (tE p W a) σ H Q := by
  obtain ⟨F, I, ρ, P, PX, R, f1, k, x⟩ := q
  refine ⟨F, I, ρ, _, PX, R, f1, fun o1 ρ1 v F1 I1 H1 f2 s1 R1 r1 => ?_, x⟩
  obtain ⟨d1, e1, f4⟩ := vw1_of f2
  refine hs F1 I1 H1 σ ρ1 v d1 _ Q R1 (vw_ok R1 r1 e1) f4 fun o v' I' H' h s' R' r' => ?_
  exact k o ρ1 v' F1 I' H' h (s1.trans s') R' (r'.older fun b e => s1.old e)
end
section
variable {X : Cx} {G : V → Nat → Option Addr → Prop} {W : WX} {pos : Pos} {a b : Expr} {fa fb : DE}
theorem e_op {op : Operator} {r : R2} {f : D2} (ho : OpR X (binaryOp op) r) (hs : OpS (pm X G) r f) (ha : PEd X G W a fa) (hb : PEd X G W b fb) : PEd X G W (.BinOp a op b pos) (dOp f fa fb) := PE.weak (pe_op ho ha hb) (w_op hs)
theorem e_un {op : UnaryOp} {r : V → Hp → VK → Prop} {f : D1} (ho : UnR X (unaryOp op) r) (hs : UnS (pm X G) r f) (ha : PEd X G W a fa) : PEd X G W (.UnaryOp op a pos) (dUn f fa) := PE.weak (pe_un ho ha) (w_un hs)
theorem e_cmp {op : CmpOp} {r : R2} {f : D2} (ho : OpR X (compareOp op) r) (hs : OpS (pm X G) r f) (ha : PEd X G W a fa) (hb : PEd X G W b fb) (hm : behindInMarks op b = false) : PEd X G W (.Compare a [op] [b] pos) (dOp f fa fb) := PE.weak (pe_cmpR ho ha hb hm) (w_op hs)
end
end Dt

namespace Dt
open PySem PySem.Spec PyProof.Rows L2

/-! ### data as lists of ints, of texts -/
def asInts : List D → Option (List Int)
  | [] => some []
  | .int n :: ds => (asInts ds).map (n :: ·)
  | _ :: _ => none
def asStrs : List D → Option (List Str)
  | [] => some []
  | .str n :: ds => (asStrs ds).map (n :: ·)
  | _ :: _ => none
def asBools : List D → Option (List Bool)
  | [] => some []
  | .bool n :: ds => (asBools ds).map (n :: ·)
  | _ :: _ => none
@[simp] theorem asInts_map (ns : List Int) : asInts (ns.map PyData.int) = some ns := by
  induction ns with
  | nil => rfl
  | cons n ns ih => simp [asInts, ih]
@[simp] theorem asStrs_map (ns : List Str) : asStrs (ns.map PyData.str) = some ns := by
  induction ns with
  | nil => rfl
  | cons n ns ih => simp [asStrs, ih]
@[simp] theorem asBools_map (ns : List Bool) : asBools (ns.map PyData.bool) = some ns := by
  induction ns with
  | nil => rfl
  | cons n ns ih => simp [asBools, ih]
theorem asInts_eq : ∀ {ds : List D} {ns : List Int}, asInts ds = some ns → ds = ns.map PyData.int
  | [], ns, h => by simp [asInts] at h; subst h; rfl
  | d :: ds, ns, h => by
    cases d with
    | int n =>
      simp only [asInts, Option.map_eq_some_iff] at h
      obtain ⟨m, h1, h2⟩ := h
      subst h2
      rw [asInts_eq h1]; rfl
    | _ => simp [asInts] at h
theorem asStrs_eq : ∀ {ds : List D} {ns : List Str}, asStrs ds = some ns → ds = ns.map PyData.str
  | [], ns, h => by simp [asStrs] at h; subst h; rfl
  | d :: ds, ns, h => by
    cases d with
    | str n =>
      simp only [asStrs, Option.map_eq_some_iff] at h
      obtain ⟨m, h1, h2⟩ := h
      subst h2
      rw [asStrs_eq h1]; rfl
    | _ => simp [asStrs] at h
theorem asBools_eq : ∀ {ds : List D} {ns : List Bool}, asBools ds = some ns → ds = ns.map PyData.bool
  | [], ns, h => by simp [asBools] at h; subst h; rfl
  | d :: ds, ns, h => by
    cases d with
    | bool n =>
      simp only [asBools, Option.map_eq_some_iff] at h
      obtain ⟨m, h1, h2⟩ := h
      subst h2
      rw [asBools_eq h1]; rfl
    | _ => simp [asBools] at h
@[irreducible] def intsK (ds : List D) (k : List Int → Prop) : Prop := match asInts ds with
  | some ns => k ns
  | none => False
@[irreducible] def strsK (ds : List D) (k : List Str → Prop) : Prop := match asStrs ds with
  | some ns => k ns
  | none => False
@[irreducible] def boolsK (ds : List D) (k : List Bool → Prop) : Prop := match asBools ds with
  | some ns => k ns
  | none => False
@[simp] theorem intsK_map (ns : List Int) (k : List Int → Prop) : intsK (ns.map PyData.int) k = k ns := by unfold intsK; rw [asInts_map]
@[simp] theorem strsK_map (ns : List Str) (k : List Str → Prop) : strsK (ns.map PyData.str) k = k ns := by unfold strsK; rw [asStrs_map]
@[simp] theorem boolsK_map (ns : List Bool) (k : List Bool → Prop) : boolsK (ns.map PyData.bool) k = k ns := by unfold boolsK; rw [asBools_map]
theorem intsK_of {ds : List D} {k : List Int → Prop} (h : intsK ds k) : ∃ ns, ds = ns.map PyData.int ∧ k ns := by
  unfold intsK at h
  split at h
  · exact ⟨_, asInts_eq (by assumption), h⟩
  · exact h.elim
theorem strsK_of {ds : List D} {k : List Str → Prop} (h : strsK ds k) : ∃ ns, ds = ns.map PyData.str ∧ k ns := by
  unfold strsK at h
  split at h
  · exact ⟨_, asStrs_eq (by assumption), h⟩
  · exact h.elim
theorem boolsK_of {ds : List D} {k : List Bool → Prop} (h : boolsK ds k) : ∃ ns, ds = ns.map PyData.bool ∧ k ns := by
  unfold boolsK at h
  split at h
  · exact ⟨_, asBools_eq (by assumption), h⟩
  · exact h.elim

/-! ### arithmetic -/
def wideE : Nat := 20000
@[irreducible] def wideB : Nat := 2 ^ wideE
theorem wideB_eq : wideB = 2 ^ wideE := by unfold wideB; rfl
def mulOk (i j : Int) : Prop := (-(2 ^ 64) < i ∧ i < 2 ^ 64) ∨ (-(2 ^ 64) < j ∧ j < 2 ^ 64) ∨ (i.natAbs < wideB ∧ j.natAbs < wideB)
def addD : D2 := fun d e P => match d, e with
  | .int i, .int j => P (.d (.int (i + j)))
  | .list xs, .list ys => xs.length + ys.length ≤ 16000000 ∧ P (.tmp (.lst (xs ++ ys)))
  | .tuple xs, .tuple ys => xs.length + ys.length ≤ 16000000 ∧ P (.d (.tuple (xs ++ ys)))
  | .str x, .str y => x.length + y.length ≤ 16000000 ∧ P (.d (.str (x ++ y)))
  | _, _ => False
def subD : D2 := fun d e P => match d, e with
  | .int i, .int j => P (.d (.int (i - j)))
  | _, _ => False
def mulD : D2 := fun d e P => match d, e with
  | .int i, .int j => mulOk i j ∧ P (.d (.int (i * j)))
  | .list xs, .int k => k < 2 ^ 62 ∧ -(2 ^ 62) < k ∧ xs.length * k.toNat ≤ 16000000 ∧ P (.tmp (.lst (List.replicate k.toNat xs).flatten))
  | .tuple (x :: xs), .int k => (1 ≤ k ∧ k ≤ 1000 ∧ xs.length < 1000) ∧ P (.d (.tuple (List.replicate k.toNat (x :: xs)).flatten))
  | _, _ => False
def modD : D2 := fun d e P => match d, e with
  | .int i, .int j => 0 < j ∧ P (.d (.int (i % j)))
  | _, _ => False
def fdivD : D2 := fun d e P => match d, e with
  | .int i, .int j => (0 < j ∧ j.natAbs < 2 ^ 8000) ∧ P (.d (.int (i / j)))
  | _, _ => False
def powD : D2 := fun d e P => match d, e with
  | .int i, .int j => (0 ≤ j ∧ j ≤ 1000000 ∧ i.natAbs < 2 ^ 64) ∧ P (.d (.int (i ^ j.toNat)))
  | _, _ => False
def shlD : D2 := fun d e P => match d, e with
  | .int i, .int j => (0 ≤ j ∧ j ≤ 1000000 ∧ i.natAbs < 2 ^ 64) ∧ P (.d (.int (i * 2 ^ j.toNat)))
  | _, _ => False
def shrD : D2 := fun d e P => match d, e with
  | .int i, .int j => 0 ≤ j ∧ P (.d (.int (i / 2 ^ j.toNat)))
  | _, _ => False
def negD : D1 := fun d P => match d with
  | .int i => P (.d (.int (-i)))
  | _ => False
section
variable {p : Pm}
theorem s_intOp {f : D2} {g : Int → Int → Int} {C : Int → Int → Prop} (hf : ∀ d e P, f d e P → ∃ i j, d = .int i ∧ e = .int j ∧ C i j ∧ P (.d (.int (g i j)))) : OpS p (rI C fun i j => .int (g i j)) f := by
  intro F I H σ ρ v w d e P Q R h1 h2 h k
  obtain ⟨i, j, rfl, rfl, hc, q⟩ := hf d e P h
  exact ⟨i, j, h1.int, h2.int, hc, k.flat R q (.int _)⟩
theorem s_sub : OpS p (rI0 fun i j => .int (i - j)) subD := by
  intro F I H σ ρ v w d e P Q R h1 h2 h k
  unfold subD at h
  split at h
  · exact ⟨_, _, h1.int, h2.int, k.flat R h (.int _)⟩
  · exact h.elim
abbrev rAddD (K : PySem.W.Frag) : R2 := fun x y H Q => (∃ i j, x = .int i ∧ y = .int j ∧ Q (.int (i + j)) H) ∨ (rCat x y H Q ∨ (rCatF K x y H Q ∨ (∃ i j, x = .str i ∧ y = .str j ∧ i.length + j.length ≤ sizeLine ∧ Q (.str (i ++ j)) H)))
theorem op_addD {X : Cx} : OpR X (binaryOp .Add) (rAddD X.K) := op_add.or (op_cat.or (op_catF.or op_add_str))
theorem DdAll.nil_iff {I : Hp} {vs : List V} {ds : List D} (h : DdAll p I vs ds) : vs = [] ↔ ds = [] := by
  cases h <;> simp
theorem s_add : OpS p (rAddD p.K) addD := by
  intro F I H σ ρ v w d e P Q R h1 h2 h k
  have sl : (sizeLine : Nat) = 16777216 := sizeLine_eq
  unfold addD at h
  split at h
  · exact .inl ⟨_, _, h1.int, h2.int, k.flat R h (.int _)⟩
  · obtain ⟨a, vs, rfl, e1, r1⟩ := h1.list R.sub
    obtain ⟨b, ws, rfl, e2, r2⟩ := h2.list R.sub
    refine .inr (.inl ⟨a, b, vs, ws, rfl, rfl, e1, e2, ?_, fun q n => k.lst R h.2 (r1.append r2) n⟩)
    have := h.1; have := r1.length; have := r2.length; omega
  · obtain ⟨a, o1, vs, rfl, e1, z1, r1⟩ := h1.tuple
    obtain ⟨b, o2, ws, rfl, e2, z2, r2⟩ := h2.tuple
    refine .inr (.inr (.inl ⟨a, b, vs, ws, rfl, rfl, sqF (R.sub _ _ e1), sqF (R.sub _ _ e2), ?_, fun z => ?_, fun _ z => ?_, fun _ _ => k.tup R h.2 (r1.append r2)⟩))
    · have := h.1; have := r1.length; have := r2.length; omega
    · subst z
      cases r1
      exact k.flat R h.2 (Dd.tup e2 z2 r2)
    · subst z
      cases r2
      have q := h.2
      rw [List.append_nil] at q
      exact k.flat R q (Dd.tup e1 z1 r1)
  · exact .inr (.inr (.inr ⟨_, _, h1.str, h2.str, by have := h.1; omega, k.flat R h.2 (.str _)⟩))
  · exact h.elim
abbrev rMulD (K : PySem.W.Frag) : R2 := fun x y H Q => (∃ i j, x = .int i ∧ y = .int j ∧ CMul i j ∧ Q (.int (i * j)) H) ∨ ((∃ i j, x = .int i ∧ y = .int j ∧ CMulW i j ∧ Q (.int (i * j)) H) ∨ (rRep x y H Q ∨ rRepTF K x y H Q))
theorem op_mulD {X : Cx} : OpR X (binaryOp .Mult) (rMulD X.K) := op_mul.or (op_mulW.or (op_rep.or op_repTF))
theorem s_mul : OpS p (rMulD p.K) mulD := by
  intro F I H σ ρ v w d e P Q R h1 h2 h k
  have sl : (sizeLine : Nat) = 16777216 := sizeLine_eq
  unfold mulD at h
  split at h
  · rcases h.1 with c | c | c
    · exact .inl ⟨_, _, h1.int, h2.int, .inl c, k.flat R h.2 (.int _)⟩
    · exact .inl ⟨_, _, h1.int, h2.int, .inr c, k.flat R h.2 (.int _)⟩
    · exact .inr (.inl ⟨_, _, h1.int, h2.int, wide_mul (a := wideE) (b := wideE) (wideB_eq ▸ c.1) (wideB_eq ▸ c.2) (by decide) (by decide) (by decide), k.flat R h.2 (.int _)⟩)
  · obtain ⟨a, vs, rfl, e1, r1⟩ := h1.list R.sub
    obtain ⟨a1, a2, a3, q⟩ := h
    refine .inr (.inr (.inl ⟨a, _, vs, rfl, h2.int, e1, by omega, by omega, ?_, fun x n => k.lst R q (r1.replicate _) n⟩))
    rw [r1.length]; omega
  · obtain ⟨⟨a1, a2, a3⟩, q⟩ := h
    obtain ⟨a, o1, vs, rfl, e1, z1, r1⟩ := h1.tuple
    have hl := r1.length
    simp only [List.length_cons] at hl
    refine .inr (.inr (.inr ⟨a, _, vs, rfl, h2.int, sqF (R.sub _ _ e1), ?_, a1, a2, by omega, fun z => ?_, fun _ => k.tup R q (r1.replicate _)⟩))
    · intro e; rw [e] at hl; simp at hl
    · subst z
      have e2 : ∀ ds : List D, (List.replicate (Int.toNat 1) ds).flatten = ds := fun ds => by simp
      rw [e2] at q
      exact k.flat R q (Dd.tup e1 z1 r1)
  · exact h.elim
theorem s_mod : OpS p (rI (fun _ j => 0 < j) fun i j => .int (i % j)) modD := s_intOp fun d e P h => by
  unfold modD at h
  split at h
  · exact ⟨_, _, rfl, rfl, h.1, h.2⟩
  · exact h.elim
theorem s_fdiv : OpS p (rI CDivW fun i j => .int (i / j)) fdivD := s_intOp fun d e P h => by
  unfold fdivD at h
  split at h
  · exact ⟨_, _, rfl, rfl, wide_div (i := 0) h.1.1 h.1.2 (by omega) (by omega), h.2⟩
  · exact h.elim
theorem s_pow : OpS p (rI CPow fun i j => .int (i ^ j.toNat)) powD := s_intOp fun d e P h => by
  unfold powD at h
  split at h
  · exact ⟨_, _, rfl, rfl, h.1, h.2⟩
  · exact h.elim
theorem s_shl : OpS p (rI CPow fun i j => .int (i * 2 ^ j.toNat)) shlD := s_intOp fun d e P h => by
  unfold shlD at h
  split at h
  · exact ⟨_, _, rfl, rfl, h.1, h.2⟩
  · exact h.elim
theorem s_shr : OpS p (rI (fun _ j => 0 ≤ j) fun i j => .int (i / 2 ^ j.toNat)) shrD := s_intOp fun d e P h => by
  unfold shrD at h
  split at h
  · exact ⟨_, _, rfl, rfl, h.1, h.2⟩
  · exact h.elim
theorem s_neg : UnS p (rU fun i => .int (-i)) negD := by
  intro F I H σ ρ v d P Q R h1 h k
  unfold negD at h
  split at h
  · exact ⟨_, h1.int, k.flat R h (.int _)⟩
  · exact h.elim
end

/-! ### comparisons -/
def eqD : D2 := fun d e P => SeqAt.shaped d = true ∧ SeqAt.shaped e = true ∧ P (.d (.bool (PyData.eqv d e)))
def neD : D2 := fun d e P => SeqAt.shaped d = true ∧ SeqAt.shaped e = true ∧ P (.d (.bool (!PyData.eqv d e)))
def ltD : D2 := fun d e P => match d, e with
  | .int i, .int j => P (.d (.bool (decide (i < j))))
  | .tuple xs, .tuple ys => (SeqAt.shaped (.tuple xs) = true ∧ SeqAt.shaped (.tuple ys) = true ∧ PySem.W.alike (.tuple xs) (.tuple ys) = true ∧ PyData.depth (.tuple xs) ≤ 64) ∧ P (.d (.bool (PySem.W.dataLt (.tuple xs) (.tuple ys))))
  | _, _ => False
def leD : D2 := fun d e P => match d, e with
  | .int i, .int j => P (.d (.bool (decide (i ≤ j))))
  | _, _ => False
def gtD : D2 := fun d e P => match d, e with
  | .int i, .int j => P (.d (.bool (decide (j < i))))
  | .tuple xs, .tuple ys => (SeqAt.shaped (.tuple xs) = true ∧ SeqAt.shaped (.tuple ys) = true ∧ PySem.W.alike (.tuple xs) (.tuple ys) = true ∧ PyData.depth (.tuple xs) ≤ 64) ∧ P (.d (.bool (PySem.W.dataLt (.tuple ys) (.tuple xs))))
  | _, _ => False
def geD : D2 := fun d e P => match d, e with
  | .int i, .int j => P (.d (.bool (decide (j ≤ i))))
  | _, _ => False
def isBl (b : Bool) : D → Bool
  | .bool c => decide (c = b)
  | _ => false
def isNone : D → Bool
  | .none => true
  | _ => false
/-- is None | is True | is False (of bools) -/
def isD : D2 := fun d e P => match e with
  | .none => P (.d (.bool (isNone d)))
  | .bool b => P (.d (.bool (isBl b d)))
  | _ => False
def isNotD : D2 := fun d e P => match e with
  | .none => P (.d (.bool (!isNone d)))
  | .bool b => P (.d (.bool (!isBl b d)))
  | _ => False
def itemsOf : D → Option (List D)
  | .list ds => some ds
  | .tuple ds => some ds
  | _ => none
/-- tuples of ints in a list -/
def asRow : D → Option (List Int)
  | .tuple ds => asInts ds
  | _ => none
def asRows : List D → Option (List (List Int))
  | [] => some []
  | d :: ds => match asRow d, asRows ds with | some h, some hs => some (h :: hs) | _, _ => none
def rowsK (ds : List D) (k : List (List Int) → Prop) : Prop := match asRows ds with | some hs => k hs | none => False
abbrev rowOf (h : List Int) : D := .tuple (h.map PyData.int)
theorem asRow_eq {d : D} {h : List Int} (e : asRow d = some h) : d = rowOf h := by
  unfold asRow at e
  split at e
  · rw [asInts_eq e]
  · cases e
theorem asRows_eq : ∀ {ds : List D} {hs : List (List Int)}, asRows ds = some hs → ds = hs.map rowOf
  | [], hs, e => by cases e; rfl
  | d :: ds, hs, e => by
    unfold asRows at e
    split at e
    · rename_i h hs' e1 e2
      cases e
      rw [asRow_eq e1, asRows_eq e2]
      rfl
    · cases e
theorem asRows_map : ∀ hs : List (List Int), asRows (hs.map rowOf) = some hs
  | [] => rfl
  | h :: hs => by
    have e : asRow (rowOf h) = some h := asInts_map h
    rw [List.map_cons, asRows, e, asRows_map hs]
theorem rowsK_of {ds : List D} {k : List (List Int) → Prop} (h : rowsK ds k) : ∃ hs : List (List Int), ds = hs.map rowOf ∧ k hs := by
  unfold rowsK at h
  split at h
  · rename_i hs e
    exact ⟨hs, asRows_eq e, h⟩
  · exact h.elim
theorem rowsK_in {hs : List (List Int)} {k : List (List Int) → Prop} (h : k hs) : rowsK (hs.map rowOf) k := by
  unfold rowsK
  rw [asRows_map]
  exact h
theorem plain_is : ∀ ns : List Int, PyData.plainAll (ns.map PyData.int) = true
  | [] => rfl
  | n :: ns => by
    have := plain_is ns
    simp [PyData.plainAll, PyData.plain, this]
theorem plain_row (ns : List Int) : PyData.plain (rowOf ns) = true := by
  unfold PyData.plain
  exact plain_is ns
theorem plain_rows : ∀ hs : List (List Int), PyData.plainAll (hs.map rowOf) = true
  | [] => rfl
  | h :: hs => by
    rw [List.map_cons]
    unfold PyData.plainAll
    rw [plain_row, plain_rows hs]
    rfl
theorem depth_row : ∀ a : List Int, PyData.depthAll (a.map PyData.int) ≤ 1
  | [] => by simp [PyData.depthAll]
  | x :: a => by
    have := depth_row a
    simp only [List.map_cons, PyData.depthAll, PyData.depth]
    omega
theorem lay_is : ∀ ns : List Int, PyData.canLayAll0 (ns.map PyData.int) = true
  | [] => by simp [PyData.canLayAll0]
  | n :: ns => by
    have := lay_is ns
    simp [PyData.canLayAll0, PyData.canLay0, this]
theorem lay_row (ns : List Int) : PyData.canLay0 (rowOf ns) = true := by
  unfold PyData.canLay0
  exact lay_is ns
theorem lay_rows : ∀ hs : List (List Int), PyData.canLayAll0 (hs.map rowOf) = true
  | [] => by simp [PyData.canLayAll0]
  | h :: hs => by
    have h1 := lay_row h
    have h2 := lay_rows hs
    rw [List.map_cons]
    unfold PyData.canLayAll0
    rw [h1, h2]
    rfl
theorem depth_rows : ∀ hs : List (List Int), PyData.depthAll (hs.map rowOf) ≤ 2
  | [] => by simp [PyData.depthAll]
  | h :: hs => by
    have h1 := depth_row h
    have h2 := depth_rows hs
    simp only [List.map_cons, PyData.depthAll, PyData.depth]
    omega
theorem shaped_row (ns : List Int) : SeqAt.shaped (rowOf ns) = true := by
  unfold SeqAt.shaped
  have h := depth_row ns
  rw [lay_row, decide_eq_true (by simp only [PyData.depth]; omega)]
  rfl
theorem shaped_rows (hs : List (List Int)) : SeqAt.shaped (.list (hs.map rowOf)) = true := by
  unfold SeqAt.shaped
  have h := depth_rows hs
  have e : PyData.canLay0 (.list (hs.map rowOf)) = true := by
    unfold PyData.canLay0
    exact lay_rows hs
  rw [e, decide_eq_true (by simp only [PyData.depth]; omega)]
  rfl
theorem eqv_rowAll : ∀ a b : List Int, PyData.eqvAll (a.map PyData.int) (b.map PyData.int) = decide (a = b)
  | [], [] => rfl
  | [], y :: b => rfl
  | x :: a, [] => rfl
  | x :: a, y :: b => by
    rw [List.map_cons, List.map_cons]
    unfold PyData.eqvAll
    rw [eqv_rowAll a b]
    by_cases e : x = y
    · subst e; by_cases e2 : a = b <;> simp [PyData.eqv, e2]
    · have : PyData.eqv (.int x) (.int y) = false := by simp [PyData.eqv, e]
      rw [this]; simp [e]
theorem any_rows (ns : List Int) (hs : List (List Int)) : ((hs.map rowOf).any fun y => PyData.eqv y (rowOf ns)) = decide (ns ∈ hs) := by
  rw [List.any_map, Bool.eq_iff_iff, List.any_eq_true]
  constructor
  · rintro ⟨x, hx, e⟩
    have e : PyData.eqv (rowOf x) (rowOf ns) = true := e
    unfold PyData.eqv at e
    rw [eqv_rowAll] at e
    exact decide_eq_true ((of_decide_eq_true e) ▸ hx)
  · intro h
    refine ⟨ns, of_decide_eq_true h, ?_⟩
    show PyData.eqv (rowOf ns) (rowOf ns) = true
    unfold PyData.eqv
    rw [eqv_rowAll]
    exact decide_eq_true rfl
/-- in: ints among ints, texts among texts, one sign in a text -/
def inB (k : Bool → Prop) : D → D → Prop := fun d e => match d, e with
  | .int n, .list ds => intsK ds fun ns => k (decide (n ∈ ns))
  | .int n, .tuple ds => intsK ds fun ns => k (decide (n ∈ ns))
  | .str n, .list ds => strsK ds fun ns => k (decide (n ∈ ns))
  | .str n, .tuple ds => strsK ds fun ns => k (decide (n ∈ ns))
  | .tuple t, .list ds => intsK t fun h => rowsK ds fun hs => k (decide (h ∈ hs))
  | .str n, .str z => (∃ c, n = ⟨#[c]⟩) ∧ k (decide (n.cps[0]! ∈ z.cps.toList))
  | _, _ => False
def inD : D2 := fun d e P => inB (fun b => P (.d (.bool b))) d e
def notInD : D2 := fun d e P => inB (fun b => P (.d (.bool (!b)))) d e
section
variable {p : Pm}
theorem s_eq : OpS p (rEqD p.K) eqD := by
  intro F I H σ ρ v w d e P Q R h1 h2 h k
  exact ⟨d, e, h1.dp R.sub h.1, h2.dp R.sub h.2.1, h.1, h.2.1, k.flat R h.2.2 (.bl _)⟩
theorem s_ne : OpS p (rNeD p.K) neD := by
  intro F I H σ ρ v w d e P Q R h1 h2 h k
  exact ⟨d, e, h1.dp R.sub h.1, h2.dp R.sub h.2.1, h.1, h.2.1, k.flat R h.2.2 (.bl _)⟩
theorem s_cmp {f : D2} {g : Int → Int → Bool} (hf : ∀ d e P, f d e P → ∃ i j, d = .int i ∧ e = .int j ∧ P (.d (.bool (g i j)))) : OpS p (rI0 fun i j => .bl (g i j)) f := by
  intro F I H σ ρ v w d e P Q R h1 h2 h k
  obtain ⟨i, j, rfl, rfl, q⟩ := hf d e P h
  exact ⟨i, j, h1.int, h2.int, k.flat R q (.bl _)⟩
/-- < and > of ints and of tuples -/
def rOrdD (K : PySem.W.Frag) (f : Int → Int → Bool) (g : D → D → Bool) : R2 := fun x y H Q => (∃ i j, x = .int i ∧ y = .int j ∧ Q (.bl (f i j)) H) ∨ (∃ d e, Dp K H x d ∧ Dp K H y e ∧ PySem.W.alike d e = true ∧ d ≠ .none ∧ PyData.depth d ≤ 64 ∧ Q (.bl (g d e)) H)
theorem op_ltD {X : Cx} (hu : X.A.units + 64 < cLine) : OpR X (compareOp .Lt) (rOrdD X.K (fun i j => decide (i < j)) PySem.W.dataLt) := by
  refine OpR.or op_lt (fun pins s σ H x y v u Q I rx ry h => ?_)
  obtain ⟨d, e, h1, h2, h3, h4, h5, q⟩ := h
  obtain ⟨as, r1⟩ := h1.reads I d x v rx
  obtain ⟨bs, r2⟩ := h2.reads I e y u ry
  exact PySem.W.lt_data r1 r2 h3 h4 (by omega) ⟨.bl _, H, I, rfl, q⟩
theorem op_gtD {X : Cx} (hu : X.A.units + 64 < cLine) : OpR X (compareOp .Gt) (rOrdD X.K (fun i j => decide (j < i)) fun d e => PySem.W.dataLt e d) := by
  refine OpR.or op_gt (fun pins s σ H x y v u Q I rx ry h => ?_)
  obtain ⟨d, e, h1, h2, h3, h4, h5, q⟩ := h
  obtain ⟨as, r1⟩ := h1.reads I d x v rx
  obtain ⟨bs, r2⟩ := h2.reads I e y u ry
  exact PySem.W.gt_data r1 r2 h3 h4 (by omega) ⟨.bl _, H, I, rfl, q⟩
theorem s_lt : OpS p (rOrdD p.K (fun i j => decide (i < j)) PySem.W.dataLt) ltD := by
  intro F I H σ ρ v w d e P Q R h1 h2 h k
  unfold ltD at h
  split at h
  · exact .inl ⟨_, _, h1.int, h2.int, k.flat R h (.bl _)⟩
  · obtain ⟨⟨g1, g2, g3, g4⟩, h⟩ := h
    exact .inr ⟨_, _, h1.dp R.sub g1, h2.dp R.sub g2, g3, by simp, g4, k.flat R h (.bl _)⟩
  · exact h.elim
theorem s_gt : OpS p (rOrdD p.K (fun i j => decide (j < i)) fun d e => PySem.W.dataLt e d) gtD := by
  intro F I H σ ρ v w d e P Q R h1 h2 h k
  unfold gtD at h
  split at h
  · exact .inl ⟨_, _, h1.int, h2.int, k.flat R h (.bl _)⟩
  · obtain ⟨⟨g1, g2, g3, g4⟩, h⟩ := h
    exact .inr ⟨_, _, h1.dp R.sub g1, h2.dp R.sub g2, g3, by simp, g4, k.flat R h (.bl _)⟩
  · exact h.elim
theorem s_le : OpS p (rI0 fun i j => .bl (decide (i ≤ j))) leD := s_cmp fun d e P h => by
  unfold leD at h
  split at h
  · exact ⟨_, _, rfl, rfl, h⟩
  · exact h.elim
theorem s_ge : OpS p (rI0 fun i j => .bl (decide (j ≤ i))) geD := s_cmp fun d e P h => by
  unfold geD at h
  split at h
  · exact ⟨_, _, rfl, rfl, h⟩
  · exact h.elim
theorem isNone_eq {I H : Hp} {v : V} {d : D} (h : Dd1 p I H v d) : decide (v = .non) = isNone d := by
  have e := h.notNone
  by_cases hv : v = .non
  · rw [decide_eq_true hv, e.mp hv]; rfl
  · rw [decide_eq_false hv]
    cases d <;> first | rfl | exact absurd (e.mpr rfl) hv
theorem isBl_eq {I H : Hp} {v : V} {d : D} {b : Bool} (h : Dd1 p I H v d) : decide (v = .bl b) = isBl b d := by
  cases d with
  | bool c =>
    rw [h.bool]
    show decide (V.bl c = V.bl b) = decide (c = b)
    by_cases e : c = b
    · simp [e]
    · rw [decide_eq_false e, decide_eq_false fun z => e (V.bl.inj z)]
  | _ =>
    refine decide_eq_false fun z => ?_
    subst z
    rcases h with h | ⟨_, _, _, h, _⟩
    · cases h
    · cases h
/-- x is b: x any thing, b a truth -/
abbrev rIsBW : R2 := fun x y H Q => ∃ b : Bool, y = .bl b ∧ Q (.bl (decide (x = .bl b))) H
abbrev rNotBW : R2 := fun x y H Q => ∃ b : Bool, y = .bl b ∧ Q (.bl (!decide (x = .bl b))) H
theorem plain_bl {x : V} {v : Value} {b : Bool} (r : RelV x v) : plainIs v (.bool b) = true ∧ (v == Value.bool b) = decide (x = .bl b) := by
  cases x with
  | bl c =>
    cases r
    refine ⟨rfl, ?_⟩
    by_cases e : c = b
    · subst e; simp
    · rw [decide_eq_false fun z => e (V.bl.inj z)]
      exact beq_eq_false_iff_ne.mpr fun z => e (Value.bool.inj z)
  | non => cases r; exact ⟨rfl, rfl⟩
  | int i => obtain ⟨t, rfl⟩ := r; exact ⟨rfl, rfl⟩
  | str i => obtain ⟨t, rfl⟩ := r; exact ⟨rfl, rfl⟩
  | byt i => obtain ⟨t, rfl⟩ := r; exact ⟨rfl, rfl⟩
  | flt i => obtain ⟨t, rfl⟩ := r; exact ⟨rfl, rfl⟩
  | ref i => cases r; exact ⟨rfl, rfl⟩
  | ty i => cases r; exact ⟨rfl, rfl⟩
theorem op_isBW {X : Cx} : OpR X (compareOp .Is) rIsBW := by
  intro pins s σ H x y v u Q I rx ry h
  obtain ⟨b, rfl, q⟩ := h
  cases (show u = Value.bool b from ry)
  obtain ⟨h1, h2⟩ := plain_bl (b := b) rx
  exact wpAny_is_plain h1 (by rw [h2]; exact ⟨.bl _, H, I, rfl, q⟩)
theorem op_notBW {X : Cx} : OpR X (compareOp .IsNot) rNotBW := by
  intro pins s σ H x y v u Q I rx ry h
  obtain ⟨b, rfl, q⟩ := h
  cases (show u = Value.bool b from ry)
  obtain ⟨h1, h2⟩ := plain_bl (b := b) rx
  exact wpAny_isNot_plain h1 (by rw [h2]; exact ⟨.bl _, H, I, rfl, q⟩)
abbrev rIsD : R2 := fun x y H Q => (y = .non ∧ Q (.bl (decide (x = .non))) H) ∨ rIsBW x y H Q
abbrev rIsNotD : R2 := fun x y H Q => (y = .non ∧ Q (.bl (!decide (x = .non))) H) ∨ rNotBW x y H Q
theorem op_isD {X : Cx} : OpR X (compareOp .Is) rIsD := op_isN.or op_isBW
theorem op_isNotD {X : Cx} : OpR X (compareOp .IsNot) rIsNotD := op_notN.or op_notBW
theorem s_is : OpS p rIsD isD := by
  intro F I H σ ρ v w d e P Q R h1 h2 h k
  unfold isD at h
  split at h
  · exact .inl ⟨h2.none, by rw [isNone_eq h1]; exact k.flat R h (.bl _)⟩
  · exact .inr ⟨_, h2.bool, by rw [isBl_eq h1]; exact k.flat R h (.bl _)⟩
  · exact h.elim
theorem s_isNot : OpS p rIsNotD isNotD := by
  intro F I H σ ρ v w d e P Q R h1 h2 h k
  unfold isNotD at h
  split at h
  · exact .inl ⟨h2.none, by rw [isNone_eq h1]; exact k.flat R h (.bl _)⟩
  · exact .inr ⟨_, h2.bool, by rw [isBl_eq h1]; exact k.flat R h (.bl _)⟩
  · exact h.elim
theorem inV_ints (n : Int) (ns : List Int) : inV (.int n) (ns.map V.int) = decide (n ∈ ns) := by
  unfold inV
  induction ns with
  | nil => simp
  | cons m ns ih =>
    rw [List.map_cons, List.any_cons, ih]
    show ((m == n) || decide (n ∈ ns)) = _
    by_cases e : m = n
    · subst e; simp
    · have e2 : (m == n) = false := by simpa using e
      rw [e2]
      have e3 : ¬ n = m := fun z => e z.symm
      simp [e3]
theorem inV_strs (n : Str) (ns : List Str) : inV (.str n) (ns.map V.str) = decide (n ∈ ns) := by
  unfold inV
  induction ns with
  | nil => simp
  | cons m ns ih =>
    rw [List.map_cons, List.any_cons, ih]
    show ((m == n) || decide (n ∈ ns)) = _
    by_cases e : m = n
    · subst e; simp
    · have e2 : (m == n) = false := by simpa using e
      rw [e2]
      have e3 : ¬ n = m := fun z => e z.symm
      simp [e3]
theorem flat_ints (ns : List Int) : (ns.map V.int).all flatV = true := by simp [List.all_eq_true, flatV]
theorem flat_strs (ns : List Str) : (ns.map V.str).all flatV = true := by simp [List.all_eq_true, flatV]
def rInData (K : PySem.W.Frag) (neg : Bool) : R2 := fun x y H Q => ∃ (d : D) (xs : List D), Dp K H x d ∧ Dp K H y (.list xs) ∧ PyData.plainAll xs = true ∧ d.plain = true ∧ d.depth ≤ 50 ∧ Q (.bl (if neg then !(xs.any fun y => PyData.eqv y d) else xs.any fun y => PyData.eqv y d)) H
theorem op_in_data {X : Cx} (hu : X.A.units + 64 < cLine) : OpR X (compareOp .In) (rInData X.K false) := by
  intro pins s σ H x y v u Q I rx ry h
  obtain ⟨d, xs, hx, hy, p1, p2, dp, k⟩ := h
  obtain ⟨as, ra⟩ := Dp.reads I (.list xs) y u hy ry
  obtain ⟨bs, rb⟩ := Dp.reads I d x v hx rx
  exact SeqAt.in_list_data ra rb p1 p2 (by omega) ⟨.bl _, H, I, rfl, k⟩
theorem op_notIn_data {X : Cx} (hu : X.A.units + 64 < cLine) : OpR X (compareOp .NotIn) (rInData X.K true) := by
  intro pins s σ H x y v u Q I rx ry h
  obtain ⟨d, xs, hx, hy, p1, p2, dp, k⟩ := h
  obtain ⟨as, ra⟩ := Dp.reads I (.list xs) y u hy ry
  obtain ⟨bs, rb⟩ := Dp.reads I d x v hx rx
  exact SeqAt.notIn_list_data ra rb p1 p2 (by omega) ⟨.bl _, H, I, rfl, k⟩
abbrev rInD (K : PySem.W.Frag) (neg : Bool) : R2 := fun x y H Q => rInData K neg x y H Q ∨ rIn K neg x y H Q ∨ (∃ (c : Nat) (z : Str), x = .str ⟨#[c]⟩ ∧ y = .str z ∧ Q (.bl (if neg then !decide (c ∈ z.cps.toList) else decide (c ∈ z.cps.toList))) H)
theorem op_inD {X : Cx} (hu : X.A.units + 64 < cLine) : OpR X (compareOp .In) (rInD X.K false) := (op_in_data hu).or (op_in_seq.or op_in_sign)
theorem op_notInD {X : Cx} (hu : X.A.units + 64 < cLine) : OpR X (compareOp .NotIn) (rInD X.K true) := (op_notIn_data hu).or (op_notIn_seq.or op_notIn_sign)
theorem s_in0 {neg : Bool} {f : D2} (hf : ∀ d e P, f d e P → inB (fun b => P (.d (.bool (if neg then !b else b)))) d e) : OpS p (rInD p.K neg) f := by
  intro F I H σ ρ v w d e P Q R h1 h2 h k
  have h := hf d e P h
  have fin : ∀ (c : Bool), P (.d (.bool (if neg = true then !c else c))) → Q (.bl (if neg = true then !c else c)) H := fun c q => k.flat R q (.bl _)
  unfold inB at h
  split at h
  · obtain ⟨ns, rfl, q⟩ := intsK_of h
    obtain ⟨b, ws, rfl, e2, r2⟩ := h2.list R.sub
    rw [r2.ofInts] at e2
    exact .inr (.inl ⟨b, _, rfl, .inl (SqL.of e2), by rw [h1.int]; rfl, flat_ints _, by rw [h1.int, inV_ints]; exact fin _ q⟩)
  · obtain ⟨ns, rfl, q⟩ := intsK_of h
    obtain ⟨b, o2, ws, rfl, e2, _, r2⟩ := h2.tuple
    rw [r2.ofInts] at e2
    exact .inr (.inl ⟨b, _, rfl, .inr (sqF (R.sub _ _ e2)), by rw [h1.int]; rfl, flat_ints _, by rw [h1.int, inV_ints]; exact fin _ q⟩)
  · obtain ⟨ns, rfl, q⟩ := strsK_of h
    obtain ⟨b, ws, rfl, e2, r2⟩ := h2.list R.sub
    rw [r2.ofStrs] at e2
    exact .inr (.inl ⟨b, _, rfl, .inl (SqL.of e2), by rw [h1.str]; rfl, flat_strs _, by rw [h1.str, inV_strs]; exact fin _ q⟩)
  · obtain ⟨ns, rfl, q⟩ := strsK_of h
    obtain ⟨b, o2, ws, rfl, e2, _, r2⟩ := h2.tuple
    rw [r2.ofStrs] at e2
    exact .inr (.inl ⟨b, _, rfl, .inr (sqF (R.sub _ _ e2)), by rw [h1.str]; rfl, flat_strs _, by rw [h1.str, inV_strs]; exact fin _ q⟩)
  · obtain ⟨ns, rfl, h7⟩ := intsK_of h
    obtain ⟨hs, rfl, q⟩ := rowsK_of h7
    refine .inl ⟨_, _, h1.dp R.sub (shaped_row ns), h2.dp R.sub (shaped_rows hs), plain_rows hs, plain_row ns, ?_, ?_⟩
    · have := depth_row ns
      simp only [PyData.depth]; omega
    · rw [any_rows]
      exact fin _ q
  · obtain ⟨⟨c, rfl⟩, q⟩ := h
    exact .inr (.inr ⟨c, _, h1.str, h2.str, fin _ q⟩)
  · exact h.elim
theorem s_in : OpS p (rInD p.K false) inD := s_in0 fun d e P h => by simpa [inD] using h
theorem s_notIn : OpS p (rInD p.K true) notInD := s_in0 fun d e P h => by simpa [notInD] using h
end
end Dt

namespace Dt
open PySem PySem.Spec PyProof.Rows L2

/-! ### truth -/
def truD (k : Bool → Prop) : D → Prop
  | .none => k false
  | .bool b => k b
  | .int i => k (i != 0)
  | .str s => s.length ≤ 16000000 ∧ k (s.length != 0)
  | .list ds => k (!ds.isEmpty)
  | .tuple ds => k (!ds.isEmpty)
  | .dict _ => False
def truK (ρ : Rho) (o : O) (k : Bool → Prop) : Prop := match vw ρ o with
  | some d => truD k d
  | none => match o with
    | .tmp (.dic kvs) => k (!kvs.isEmpty)
    | .loc j => (match cst ρ j with
      | some (.dic kvs) => k (!kvs.isEmpty)
      | _ => False)
    | _ => False
def dTru (f : DE) : DT := fun ρ P PX => f ρ (fun o ρ1 => truK ρ1 o fun b => P b ρ1) PX
def dBl (f : DE) : DT := fun ρ P PX => f ρ (fun o ρ1 => match o with
  | .d (.bool b) => P b ρ1
  | _ => False) PX
section
variable {p : Pm} {F F' : Lab} {I I' H0 H1 H H' : Hp} {σ : L2.St} {ρ : Rho} {v w : V} {o : O} {d e : D} {c : C} {W : WX}
theorem DdAll.isEmpty {vs : List V} {ds : List D} (h : DdAll p I vs ds) : vs.isEmpty = ds.isEmpty := by cases h <;> rfl
theorem KD.isEmpty {κ : Type} {vs : List (κ × V)} {ds : List (κ × D)} (h : KD p I vs ds) : vs.isEmpty = ds.isEmpty := by cases h <;> rfl
theorem truD_ok {k : Bool → Prop} (s : Same I H) (h : Dd1 p I H v d) (t : truD k d) : ∃ b, TruV p.K v H b ∧ k b := by
  have sl : (sizeLine : Nat) = 16777216 := sizeLine_eq
  cases d with
  | none => rw [h.none]; exact ⟨_, rfl, t⟩
  | bool b => rw [h.bool]; exact ⟨_, rfl, t⟩
  | int i => rw [h.int]; exact ⟨_, rfl, t⟩
  | str x =>
    rw [h.str]
    refine ⟨_, ⟨by have := t.1; omega, ?_⟩, t.2⟩
    rw [Bool.eq_iff_iff, bne_iff_ne, bne_iff_ne]
    omega
  | list ds => obtain ⟨a, vs, rfl, e, r⟩ := h.list s; exact ⟨_, .inl ⟨vs, SqL.of e, by rw [r.isEmpty]⟩, t⟩
  | tuple ds => obtain ⟨a, o, vs, rfl, e, z, r⟩ := h.tuple; exact ⟨_, .inr (.inl ⟨vs, sqF (s _ _ e), by rw [r.isEmpty]⟩), t⟩
  | dict kvs => exact t.elim
theorem truK_ok {k : Bool → Prop} (R : Rel p F I H σ ρ) (r : ResOk p F I H0 H σ v o) (t : truK ρ o k) : ∃ b, TruV p.K v H b ∧ k b := by
  unfold truK at t
  split at t
  · exact truD_ok R.sub (vw_ok R r (by assumption)) t
  · split at t
    · obtain ⟨a, rfl, fp, ⟨_, kv, e, q⟩, _⟩ := r
      exact ⟨_, .inr (.inr ⟨kv, e, by rw [q.isEmpty]⟩), t⟩
    · split at t
      · rename_i e
        obtain ⟨a, rfl, fp, ⟨_, kv, e, q⟩, _⟩ := R.cst r e
        exact ⟨_, .inr (.inr ⟨kv, e, by rw [q.isEmpty]⟩), t⟩
      · exact t.elim
    · exact t.elim
theorem w_tru {f : DE} (σ : L2.St) (H : Hp) (Q : Bool → Hp → Prop) (q : tT p W (dTru f) σ H Q) : tE p W f σ H fun x H' => ∃ k, TruV p.K x H' k ∧ Q k H' := by
  obtain ⟨F, I, ρ, P, PX, R, f1, k, x⟩ := q
  refine ⟨F, I, ρ, _, PX, R, f1, fun o1 ρ1 v F1 I1 H1 f2 s1 R1 r1 => ?_, x⟩
  obtain ⟨b, h1, h2⟩ := truK_ok R1 r1 f2
  exact ⟨b, h1, k b ρ1 F1 I1 H1 h2 s1 R1⟩
theorem w_bl {f : DE} {t : TE} (h : ∀ σ H Q, tE p W f σ H Q → t σ H Q) (σ : L2.St) (H : Hp) (Q : Bool → Hp → Prop) (q : tT p W (dBl f) σ H Q) : tTest t σ H Q := by
  obtain ⟨F, I, ρ, P, PX, R, f1, k, x⟩ := q
  refine h σ H _ ⟨F, I, ρ, _, PX, R, f1, fun o1 ρ1 v F1 I1 H1 f2 s1 R1 r1 => ?_, x⟩
  split at f2
  · cases r1
    exact ⟨_, rfl, k _ ρ1 F1 I1 H1 f2 s1 R1⟩
  · exact f2.elim
end
def dNotT (t : DT) : DT := fun ρ P PX => t ρ (fun b ρ1 => P (!b) ρ1) PX
def dAndT (a b : DT) : DT := fun ρ P PX => a ρ (fun c ρ1 => (c = true → b ρ1 P PX) ∧ (c = false → P false ρ1)) PX
def dOrT (a b : DT) : DT := fun ρ P PX => a ρ (fun c ρ1 => (c = true → P true ρ1) ∧ (c = false → b ρ1 P PX)) PX
def dIfE (t : DT) (a b : DE) : DE := fun ρ P PX => t ρ (fun c ρ1 => (c = true → a ρ1 P PX) ∧ (c = false → b ρ1 P PX)) PX
def blK (o : O) (k : Bool → Prop) : Prop := match o with
  | .d (.bool c) => k c
  | _ => False
def dAndV (a b : DE) : DE := fun ρ P PX => a ρ (fun o ρ1 => blK o fun c => (c = true → b ρ1 P PX) ∧ (c = false → P (.d (.bool false)) ρ1)) PX
def dOrV (a b : DE) : DE := fun ρ P PX => a ρ (fun o ρ1 => blK o fun c => (c = true → P (.d (.bool true)) ρ1) ∧ (c = false → b ρ1 P PX)) PX
def dNotV (a : DE) : DE := fun ρ P PX => a ρ (fun o ρ1 => blK o fun c => P (.d (.bool (!c))) ρ1) PX
theorem blK_of {o : O} {k : Bool → Prop} (h : blK o k) : ∃ c, o = .d (.bool c) ∧ k c := by
  unfold blK at h
  split at h
  · exact ⟨_, rfl, h⟩
  · exact h.elim
section
variable {p : Pm} {W : WX}
theorem w_notT {t : DT} (σ : L2.St) (H : Hp) (Q : Bool → Hp → Prop) (q : tT p W (dNotT t) σ H Q) : tNot (tT p W t) σ H Q := by
  obtain ⟨F, I, ρ, P, PX, R, f1, k, x⟩ := q
  exact ⟨F, I, ρ, _, PX, R, f1, fun c ρ1 F1 I1 H1 f2 s1 R1 => k (!c) ρ1 F1 I1 H1 f2 s1 R1, x⟩
theorem w_andT {a b : DT} (σ : L2.St) (H : Hp) (Q : Bool → Hp → Prop) (q : tT p W (dAndT a b) σ H Q) : tAnd (tT p W a) (tT p W b) σ H Q := by
  obtain ⟨F, I, ρ, P, PX, R, f1, k, x⟩ := q
  refine ⟨F, I, ρ, _, PX, R, f1, fun c ρ1 F1 I1 H1 f2 s1 R1 => ?_, x⟩
  cases c with
  | true => exact iteT ⟨F1, I1, ρ1, P, PX, R1, f2.1 rfl, fun b ρ' F' I' H' h s' R' => k b ρ' F' I' H' h (s1.trans s') R', x.later s1⟩
  | false => exact iteF (k false ρ1 F1 I1 H1 (f2.2 rfl) s1 R1)
theorem w_orT {a b : DT} (σ : L2.St) (H : Hp) (Q : Bool → Hp → Prop) (q : tT p W (dOrT a b) σ H Q) : tOr (tT p W a) (tT p W b) σ H Q := by
  obtain ⟨F, I, ρ, P, PX, R, f1, k, x⟩ := q
  refine ⟨F, I, ρ, _, PX, R, f1, fun c ρ1 F1 I1 H1 f2 s1 R1 => ?_, x⟩
  cases c with
  | true => exact iteT (k true ρ1 F1 I1 H1 (f2.1 rfl) s1 R1)
  | false => exact iteF ⟨F1, I1, ρ1, P, PX, R1, f2.2 rfl, fun b ρ' F' I' H' h s' R' => k b ρ' F' I' H' h (s1.trans s') R', x.later s1⟩
theorem Rtrans {F F1 : Lab} {I I1 H H1 : Hp} {σ : L2.St} {P : O → Rho → Prop} {Q : VK} (s1 : Step F I H F1 I1 H1)
    (k : ∀ o ρ' v F' I' H', P o ρ' → Step F I H F' I' H' → Rel p F' I' H' σ ρ' → ResOk p F' I' H H' σ v o → Q v H') :
    ∀ o ρ' v F' I' H', P o ρ' → Step F1 I1 H1 F' I' H' → Rel p F' I' H' σ ρ' → ResOk p F' I' H1 H' σ v o → Q v H' :=
  fun o ρ' v F' I' H' h s' R' r' => k o ρ' v F' I' H' h (s1.trans s') R' (r'.older fun b e => s1.old e)
theorem w_ifE {t : DT} {a b : DE} (σ : L2.St) (H : Hp) (Q : VK) (q : tE p W (dIfE t a b) σ H Q) : tIf (tT p W t) (tE p W a) (tE p W b) σ H Q := by
  obtain ⟨F, I, ρ, P, PX, R, f1, k, x⟩ := q
  refine ⟨F, I, ρ, _, PX, R, f1, fun c ρ1 F1 I1 H1 f2 s1 R1 => ?_, x⟩
  cases c with
  | true => exact iteT ⟨F1, I1, ρ1, P, PX, R1, f2.1 rfl, Rtrans s1 k, x.later s1⟩
  | false => exact iteF ⟨F1, I1, ρ1, P, PX, R1, f2.2 rfl, Rtrans s1 k, x.later s1⟩
theorem w_andV {a b : DE} (σ : L2.St) (H : Hp) (Q : VK) (q : tE p W (dAndV a b) σ H Q) : tAndV (tE p W a) (tE p W b) σ H Q := by
  obtain ⟨F, I, ρ, P, PX, R, f1, k, x⟩ := q
  refine ⟨F, I, ρ, _, PX, R, f1, fun o ρ1 v F1 I1 H1 f2 s1 R1 r1 => ?_, x⟩
  obtain ⟨c, rfl, f2⟩ := blK_of f2
  cases r1
  refine ⟨c, rfl, ?_⟩
  cases c with
  | true => exact iteT ⟨F1, I1, ρ1, P, PX, R1, f2.1 rfl, Rtrans s1 k, x.later s1⟩
  | false => exact iteF (k _ ρ1 _ F1 I1 H1 (f2.2 rfl) s1 R1 (Dd.bl _))
theorem w_orV {a b : DE} (σ : L2.St) (H : Hp) (Q : VK) (q : tE p W (dOrV a b) σ H Q) : tOrV (tE p W a) (tE p W b) σ H Q := by
  obtain ⟨F, I, ρ, P, PX, R, f1, k, x⟩ := q
  refine ⟨F, I, ρ, _, PX, R, f1, fun o ρ1 v F1 I1 H1 f2 s1 R1 r1 => ?_, x⟩
  obtain ⟨c, rfl, f2⟩ := blK_of f2
  cases r1
  refine ⟨c, rfl, ?_⟩
  cases c with
  | true => exact iteT (k _ ρ1 _ F1 I1 H1 (f2.1 rfl) s1 R1 (Dd.bl _))
  | false => exact iteF ⟨F1, I1, ρ1, P, PX, R1, f2.2 rfl, Rtrans s1 k, x.later s1⟩
theorem w_notV {a : DE} (σ : L2.St) (H : Hp) (Q : VK) (q : tE p W (dNotV a) σ H Q) : tNotV (tE p W a) σ H Q := by
  obtain ⟨F, I, ρ, P, PX, R, f1, k, x⟩ := q
  refine ⟨F, I, ρ, _, PX, R, f1, fun o ρ1 v F1 I1 H1 f2 s1 R1 r1 => ?_, x⟩
  obtain ⟨c, rfl, f2⟩ := blK_of f2
  cases r1
  exact ⟨c, rfl, k _ ρ1 _ F1 I1 H1 f2 s1 R1 (Dd.bl _)⟩
end
section
variable {X : Cx} {G : V → Nat → Option Addr → Prop} {W : WX} {pos : Pos} {a b c : Expr} {fa fb fc : DE} {ta tb : DT} {rest : List Expr}
theorem t_tru (ha : PEd X G W a fa) (he : ∀ whole, isTrue a X.env whole = (do let v ← whole; standAt a.pos; holding [v] (truthy v)) := by intro _; rfl) : PTd X G W a (dTru fa) := PT.weak (pt_truth ha he) w_tru
theorem t_cmp {op : CmpOp} {r : R2} {f : D2} (ho : OpR X (compareOp op) r) (hs : OpS (pm X G) r f) (ha : PEd X G W a fa) (hb : PEd X G W b fb) (hm : behindInMarks op b = false) : PTd X G W (.Compare a [op] [b] pos) (dBl (dOp f fa fb)) := PT.weak (pt_cmpR ho ha hb hm) (w_bl (w_op hs))
theorem t_not (ha : PTd X G W a ta) : PTd X G W (.UnaryOp .Not a pos) (dNotT ta) := PT.weak (pt_not ha) w_notT
theorem t_and1 (ha : PTd X G W a ta) : PWd X G W (.BoolOp .And [a] pos) ta := pw_and1 ha
theorem t_or1 (ha : PTd X G W a ta) : PWd X G W (.BoolOp .Or [a] pos) ta := pw_or1 ha
theorem t_and (ha : PTd X G W a ta) (hb : PWd X G W (.BoolOp .And (b :: rest) pos) tb) : PWd X G W (.BoolOp .And (a :: b :: rest) pos) (dAndT ta tb) := PW.weak (pw_and ha hb) w_andT
theorem t_or (ha : PTd X G W a ta) (hb : PWd X G W (.BoolOp .Or (b :: rest) pos) tb) : PWd X G W (.BoolOp .Or (a :: b :: rest) pos) (dOrT ta tb) := PW.weak (pw_or ha hb) w_orT
theorem e_ifE (hc : PTd X G W c ta) (ha : PEd X G W a fa) (hb : PEd X G W b fb) : PEd X G W (.IfExp c a b pos) (dIfE ta fa fb) := PE.weak (pe_ifExp hc ha hb) w_ifE
theorem e_one {op} (h : PEd X G W a fa) : PEd X G W (.BoolOp op [a] pos) fa := pe_one h
theorem e_and (ha : PEd X G W a fa) (hb : PEd X G W (.BoolOp .And (b :: rest) pos) fb) : PEd X G W (.BoolOp .And (a :: b :: rest) pos) (dAndV fa fb) := PE.weak (pe_and ha hb) w_andV
theorem e_or (ha : PEd X G W a fa) (hb : PEd X G W (.BoolOp .Or (b :: rest) pos) fb) : PEd X G W (.BoolOp .Or (a :: b :: rest) pos) (dOrV fa fb) := PE.weak (pe_or ha hb) w_orV
theorem e_not (ha : PEd X G W a fa) : PEd X G W (.UnaryOp .Not a pos) (dNotV fa) := PE.weak (pe_not ha) w_notV
end
/-! ### an int chain a <= b < c -/
def dChain (f g : D2) (a b c : DE) : DE := fun ρ P PX => a ρ (fun o1 ρ1 => b ρ1 (fun o2 ρ2 => vw2 ρ2 o1 o2 fun d1 d2 => f d1 d2 fun o => blK o fun k =>
  (k = true → c ρ2 (fun o3 ρ3 => vw2 ρ3 o2 o3 fun d2' d3 => g d2' d3 fun o => P o ρ3) PX) ∧ (k = false → P (.d (.bool false)) ρ2)) PX) PX
section
variable {p : Pm} {W : WX}
theorem w_chain {r r' : R2} {f g : D2} {a b c : DE} (hs : OpS p r f) (hs' : OpS p r' g) (σ : L2.St) (H : Hp) (Q : VK) (q : tE p W (dChain f g a b c) σ H Q) : tChain r r' (tE p W a) (tE p W b) (tE p W c) σ H Q := by
  obtain ⟨F, I, ρ, P, PX, R, f1, k, x⟩ := q
  refine ⟨F, I, ρ, _, PX, R, f1, fun o1 ρ1 v F1 I1 H1 f2 s1 R1 r1 => ?_, x⟩
  refine ⟨F1, I1, ρ1, _, PX, R1, f2, fun o2 ρ2 w F2 I2 H2 f3 s2 R2 r2 => ?_, x.later s1⟩
  obtain ⟨d1, d2, e1, e2, f4⟩ := vw2_of f3
  refine hs F2 I2 H2 σ ρ2 v w d1 d2 _ _ R2 (vw_ok R2 (r1.stay s2) e1) (vw_ok R2 r2 e2) f4 fun o v' I' H' h s' R' r' => ?_
  obtain ⟨c, rfl, h⟩ := blK_of h
  cases r'
  refine ⟨c, rfl, ?_⟩
  have s3 := (s1.trans s2).trans s'
  cases c with
  | false => exact iteF (k _ ρ2 _ F2 I' H' (h.2 rfl) s3 R' (Dd.bl _))
  | true =>
    refine iteT ⟨F2, I', ρ2, _, PX, R', h.1 rfl, fun o3 ρ3 u F4 I4 H4 g1 s4 R4 r4 => ?_, x.later s3⟩
    obtain ⟨d2', d3, e3, e4, g2⟩ := vw2_of g1
    refine hs' F4 I4 H4 σ ρ3 w u d2' d3 _ Q R4 (vw_ok R4 ((r2.stay s').stay s4) e3) (vw_ok R4 r4 e4) g2 fun o v' I' H' h s5 R5 r5 => ?_
    exact k o ρ3 v' F4 I' H' h ((s3.trans s4).trans s5) R5 (r5.older fun b e => (s3.trans s4).old e)
end
section
variable {X : Cx} {G : V → Nat → Option Addr → Prop} {W : WX} {pos : Pos} {a b c : Expr} {fa fb fc : DE}
theorem e_chain {op op' : CmpOp} {r r' : R2} {f g : D2} (ho : OpR X (compareOp op) r) (hs : OpS (pm X G) r f) (ho' : OpR X (compareOp op') r') (hs' : OpS (pm X G) r' g) (ha : PEd X G W a fa) (hb : PEd X G W b fb) (hc : PEd X G W c fc)
    (hm : lastMarks [op, op'] [b, c] = false := by with_unfolding_all rfl) : PEd X G W (.Compare a [op, op'] [b, c] pos) (dChain f g fa fb fc) := PE.weak (pe_chain ho ho' ha hb hc hm) (w_chain hs hs')
theorem t_chain {op op' : CmpOp} {r r' : R2} {f g : D2} (ho : OpR X (compareOp op) r) (hs : OpS (pm X G) r f) (ho' : OpR X (compareOp op') r') (hs' : OpS (pm X G) r' g) (ha : PEd X G W a fa) (hb : PEd X G W b fb) (hc : PEd X G W c fc)
    (hm : lastMarks [op, op'] [b, c] = false := by with_unfolding_all rfl) : PTd X G W (.Compare a [op, op'] [b, c] pos) (dBl (dChain f g fa fb fc)) := PT.weak (pt_chain ho ho' ha hb hc hm) (w_bl (w_chain hs hs'))
end
/-! ### owned lists handed over -/
def frz (ρ : Rho) : O → Option (D × Rho)
  | .d d => some (d, ρ)
  | .tmp (.lst ds) => some (.list ds, ρ)
  | .loc j => (match ρ[j]? with
    | some (some (.own (.lst ds))) => some (.list ds, ρ.set j (some (.d (.list ds))))
    | some (some (.d d)) => some (d, ρ)
    | _ => none)
  | _ => none
def frzK (ρ : Rho) (o : O) (k : D → Rho → Prop) : Prop := match frz ρ o with
  | some (d, ρ') => k d ρ'
  | none => False
def dFrz (f : DE) : DE := fun ρ P PX => f ρ (fun o ρ1 => frzK ρ1 o fun d ρ2 => P (.d d) ρ2) PX
section
variable {p : Pm} {F F' F0 : Lab} {I I' I0 H0 H1 H H' : Hp} {σ : L2.St} {ρ ρ' : Rho} {v w : V} {o : O} {d e : D} {c : C} {W : WX}
theorem Rel.lt {j : Nat} {s : S} (R : Rel p F I H σ ρ) (h : ρ[j]? = some (some s)) : j < ρ.length := (List.getElem?_eq_some_iff.mp h).1
/-- an object of nobody's, or of slot j's, is from now on data -/
theorem freezeAt {a : Addr} {vs : List V} {ds : List D} (R : Rel p F I H σ ρ) (h : H a = some (.lst vs)) (hi : I a = none) (r : DdAll p I vs ds) :
    Same I (upd I a (.lst vs)) ∧ Same (upd I a (.lst vs)) H ∧ Dd p (upd I a (.lst vs)) (.ref a) (.list ds) := by
  have s1 : Same I (upd I a (.lst vs)) := same_upd hi
  refine ⟨s1, fun b y e => ?_, .lst upd_same (DdAll.mono s1 r)⟩
  by_cases hb : b = a
  · subst hb; rw [upd_same] at e; cases e; exact h
  · rw [upd_ne hb] at e; exact R.sub b y e
theorem freeze (S : Step F0 I0 H0 F I H) (R : Rel p F I H σ ρ) (r : ResOk p F I H0 H σ v o) (h : frz ρ o = some (d, ρ')) :
    ∃ F' I', Step F0 I0 H0 F' I' H ∧ Rel p F' I' H σ ρ' ∧ Dd p I' v d := by
  cases o with
  | d d' => cases h; exact ⟨F, I, S, R, r⟩
  | exc x => cases h
  | tmp c =>
    cases c with
    | lst ds =>
      cases h
      obtain ⟨a, rfl, fp, ⟨rfl, vs, e, q⟩, hf⟩ := r
      obtain ⟨f1, f2, f3, f4⟩ := hf a (by simp)
      obtain ⟨s1, s2, s3⟩ := freezeAt R e f2 q
      have hne : ∀ b, (∃ j, F b = some j) → b ≠ a := fun b ⟨j, z⟩ q => by rw [q, f1] at z; cases z
      refine ⟨F, upd I a (.lst vs), ⟨S.keep, fun b y z => s1 _ _ (S.inc b y z), fun b z => ?_, S.lab, S.there⟩, ⟨s2, fun b j z => ?_, R.len, fun i sl z => ?_⟩, s3⟩
      · by_cases hb : b = a
        · subst hb; exact .inr (.inl f3)
        · rw [upd_ne hb] at z; exact S.newI b z
      · rw [upd_ne (hne b ⟨j, z⟩)]; exact R.lab b j z
      · obtain ⟨u, h1, h2⟩ := R.slot i sl z
        have own : ∀ {b : Addr} {c : C}, Own p F I H (some i) (fun _ => True) b c → Own p F (upd I a (.lst vs)) H (some i) (fun _ => True) b c := fun {b c} ⟨fp, g1, g2⟩ =>
          ⟨fp, g1.keep (fun _ _ => rfl) s1, fun x hx => ⟨(g2 x hx).1, by rw [upd_ne (hne x ⟨i, (g2 x hx).1⟩)]; exact (g2 x hx).2.1, trivial, (g2 x hx).2.2.2⟩⟩
        refine ⟨u, h1, ?_⟩
        cases sl with
        | d d => exact Dd.mono s1 h2
        | own c => obtain ⟨b, e, h2⟩ := h2; exact ⟨b, e, own h2⟩
        | lent b c => exact ⟨h2.1, own h2.2⟩
        | exc x => obtain ⟨d, g, h2⟩ := h2; exact ⟨d, g, h2.mono s1⟩
    | _ => cases h
  | loc j =>
    have h : (match ρ[j]? with | some (some (.own (.lst ds))) => some (PyData.list ds, ρ.set j (some (.d (.list ds)))) | some (some (.d d)) => some (d, ρ) | _ => none) = some (d, ρ') := h
    split at h
    rotate_left
    · rename_i d0 q0
      cases h
      obtain ⟨u, h1, h2⟩ := R.slot j _ q0
      have r : σ[j]? = some (some v) := r
      rw [r] at h1; cases h1
      exact ⟨F, I, S, R, h2⟩
    rotate_left
    · rename_i ds q0
      cases h
      obtain ⟨u, h1, a, rfl, fp, ⟨rfl, vs, e, q⟩, hf⟩ := R.slot j _ q0
      have hv : v = .ref a := by
        have r : σ[j]? = some (some v) := r
        rw [r] at h1; cases h1; rfl
      subst hv
      obtain ⟨f1, f2, f3, f4⟩ := hf a (by simp)
      obtain ⟨s1, s2, s3⟩ := freezeAt R e f2 q
      let F2 : Lab := fun b => if F b = some j then none else F b
      have hF : ∀ b i, F2 b = some i → F b = some i ∧ i ≠ j := fun b i z => by
        show F b = some i ∧ i ≠ j
        have z : (if F b = some j then none else F b) = some i := z
        split at z
        · cases z
        · rename_i n
          exact ⟨z, fun y => n (by rw [z, y])⟩
      have hF2 : ∀ b i, F b = some i → i ≠ j → F2 b = some i := fun b i z n => by
        show (if F b = some j then none else F b) = some i
        rw [if_neg (by rw [z]; intro y; cases y; exact n rfl)]; exact z
      have hne : ∀ b i, F b = some i → i ≠ j → b ≠ a := fun b i z n y => by rw [y, f1] at z; cases z; exact n rfl
      refine ⟨F2, upd I a (.lst vs), ⟨fun b y z n => ?_, fun b y z => s1 _ _ (S.inc b y z), fun b z => ?_, fun b i z => S.lab b i (hF b i z).1, S.there⟩, ⟨s2, fun b i z => ?_, by simpa using R.len, fun i sl z => ?_⟩, s3⟩
      · exact S.keep b y z n
      · by_cases hb : b = a
        · subst hb
          rcases S.lab b j f1 with y | y
          · exact .inr (.inr (by rw [y]; simp))
          · exact .inr (.inl y)
        · rw [upd_ne hb] at z; exact S.newI b z
      · obtain ⟨z1, z2⟩ := hF b i z
        rw [upd_ne (hne b i z1 z2)]
        exact R.lab b i z1
      · by_cases hij : i = j
        · subst hij
          rw [List.getElem?_set_self (R.lt q0)] at z
          cases z
          exact ⟨.ref a, h1, s3⟩
        · rw [List.getElem?_set_ne (Ne.symm hij)] at z
          obtain ⟨u, h1, h2⟩ := R.slot i sl z
          have own : ∀ {b : Addr} {c : C}, Own p F I H (some i) (fun _ => True) b c → Own p F2 (upd I a (.lst vs)) H (some i) (fun _ => True) b c := fun {b c} ⟨fp, g1, g2⟩ =>
            ⟨fp, g1.keep (fun _ _ => rfl) s1, fun x hx => ⟨hF2 x i (g2 x hx).1 hij, by rw [upd_ne (hne x i (g2 x hx).1 hij)]; exact (g2 x hx).2.1, trivial, (g2 x hx).2.2.2⟩⟩
          refine ⟨u, h1, ?_⟩
          cases sl with
          | d d => exact Dd.mono s1 h2
          | own c => obtain ⟨b, e, h2⟩ := h2; exact ⟨b, e, own h2⟩
          | lent b c => exact ⟨h2.1, own h2.2⟩
          | exc x => obtain ⟨d, g, h2⟩ := h2; exact ⟨d, g, h2.mono s1⟩
    · cases h
theorem frzK_of {k : D → Rho → Prop} (h : frzK ρ o k) : ∃ d ρ', frz ρ o = some (d, ρ') ∧ k d ρ' := by
  unfold frzK at h
  split at h
  · exact ⟨_, _, by assumption, h⟩
  · exact h.elim
theorem w_frz {f : DE} (σ : L2.St) (H : Hp) (Q : VK) (q : tE p W (dFrz f) σ H Q) : tE p W f σ H Q := by
  obtain ⟨F, I, ρ, P, PX, R, f1, k, x⟩ := q
  refine ⟨F, I, ρ, _, PX, R, f1, fun o ρ1 v F1 I1 H1 f2 s1 R1 r1 => ?_, x⟩
  obtain ⟨d, ρ2, e, f3⟩ := frzK_of f2
  obtain ⟨F', I', s', R', r'⟩ := freeze s1 R1 r1 e
  exact k (.d d) ρ2 v F' I' H1 f3 s' R' r'
end
section
variable {X : Cx} {G : V → Nat → Option Addr → Prop} {W : WX} {a : Expr} {fa : DE}
theorem e_frz (h : PEd X G W a fa) : PEd X G W a (dFrz fa) := PE.weak h w_frz
end
/-! ### arguments -/
def dNil : DA := fun ρ P _ => P [] ρ
def dCons (f : DE) (g : DA) : DA := fun ρ P PX => f ρ (fun o ρ1 => g ρ1 (fun os ρ2 => P (o :: os) ρ2) PX) PX
section
variable {p : Pm} {F F' F0 : Lab} {I I' I0 H0 H1 H H' : Hp} {σ : L2.St} {W : WX}
theorem ResAll.stay {vs : List V} {os : List O} (h : ResAll p F I H0 H σ vs os) (s : Step F I H F' I' H') : ResAll p F' I' H0 H' σ vs os := Paired.mapP h fun _ _ z => z.stay s
theorem ResAll.older {vs : List V} {os : List O} (h : ResAll p F I H0 H σ vs os) (n : ∀ b, H0 b = none → H1 b = none) : ResAll p F I H1 H σ vs os := Paired.mapP h fun _ _ z => z.older n
theorem w_nil (σ : L2.St) (H : Hp) (Q : List V → Hp → Prop) (q : tA p W dNil σ H Q) : tNil σ H Q := by
  obtain ⟨F, I, ρ, P, PX, R, f1, k, x⟩ := q
  exact k [] ρ [] F I H f1 (Step.refl ..) R .nil
theorem w_cons {f : DE} {g : DA} (σ : L2.St) (H : Hp) (Q : List V → Hp → Prop) (q : tA p W (dCons f g) σ H Q) : tCons (tE p W f) (tA p W g) σ H Q := by
  obtain ⟨F, I, ρ, P, PX, R, f1, k, x⟩ := q
  refine ⟨F, I, ρ, _, PX, R, f1, fun o ρ1 v F1 I1 H1 f2 s1 R1 r1 => ?_, x⟩
  refine ⟨F1, I1, ρ1, _, PX, R1, f2, fun os ρ2 vs F2 I2 H2 f3 s2 R2 r2 => ?_, x.later s1⟩
  exact k (o :: os) ρ2 (v :: vs) F2 I2 H2 f3 (s1.trans s2) R2 (.cons (r1.stay s2) (ResAll.older r2 fun b e => s1.old e))
end
def vwsK (ρ : Rho) (os : List O) (k : List D → Prop) : Prop := match vws ρ os with
  | some ds => k ds
  | none => False
theorem vwsK_of {ρ : Rho} {os : List O} {k : List D → Prop} (h : vwsK ρ os k) : ∃ ds, vws ρ os = some ds ∧ k ds := by
  unfold vwsK at h
  split at h
  · exact ⟨_, by assumption, h⟩
  · exact h.elim
/-- a call by values -/
def CallS (p : Pm) (r : List V → Hp → VK → Prop) (f : List D → (O → Prop) → Prop) : Prop := ∀ F I H σ ρ vs ds P Q, Rel p F I H σ ρ → Paired (Dd1 p I H) vs ds → f ds P → Kont p F I H σ ρ P Q → r vs H Q
def dCB (f : List D → (O → Prop) → Prop) (g : DA) : DE := fun ρ P PX => g ρ (fun os ρ1 => vwsK ρ1 os fun ds => f ds fun o => P o ρ1) PX
def onlyD : List O → Option (List D)
  | [] => some []
  | .d d :: os => (match onlyD os with
    | some ds => some (d :: ds)
    | none => none)
  | _ :: _ => none
def onlyK (os : List O) (k : List D → Prop) : Prop := match onlyD os with
  | some ds => k ds
  | none => False
/-- displays: the items are data (owned lists were handed over before: dFrz) -/
def dTup (g : DA) : DE := fun ρ P PX => g ρ (fun os ρ1 => onlyK os fun ds => ds.length ≤ 16000000 ∧ P (.d (.tuple ds)) ρ1) PX
def dLst (g : DA) : DE := fun ρ P PX => g ρ (fun os ρ1 => onlyK os fun ds => ds.length ≤ 16000000 ∧ P (.tmp (.lst ds)) ρ1) PX
section
variable {p : Pm} {F F' F0 : Lab} {I I' I0 H0 H1 H H' : Hp} {σ : L2.St} {W : WX}
theorem onlyD_ok : ∀ {vs : List V} {os : List O} {ds : List D}, ResAll p F I H0 H σ vs os → onlyD os = some ds → DdAll p I vs ds
  | _, _, _, .nil, h => by cases h; exact .nil
  | _, _, _, .cons (b := o) r rs, h => by
    cases o with
    | d d =>
      unfold onlyD at h
      split at h
      · cases h
        exact .cons r (onlyD_ok rs (by assumption))
      · cases h
    | _ => cases h
theorem onlyK_of {os : List O} {k : List D → Prop} (h : onlyK os k) : ∃ ds, onlyD os = some ds ∧ k ds := by
  unfold onlyK at h
  split at h
  · exact ⟨_, by assumption, h⟩
  · exact h.elim
theorem w_cb {r : List V → Hp → VK → Prop} {f : List D → (O → Prop) → Prop} {g : DA} (hs : CallS p r f) (σ : L2.St) (H : Hp) (Q : VK) (q : tE p W (dCB f g) σ H Q) : tCB r (tA p W g) σ H Q := by
  obtain ⟨F, I, ρ, P, PX, R, f1, k, x⟩ := q
  refine ⟨F, I, ρ, _, PX, R, f1, fun os ρ1 vs F1 I1 H1 f2 s1 R1 r1 => ?_, x⟩
  obtain ⟨ds, e, f3⟩ := vwsK_of f2
  exact hs F1 I1 H1 σ ρ1 vs ds _ Q R1 (vws_ok R1 r1 e) f3 fun o v' I' H' h s' R' r' => k o ρ1 v' F1 I' H' h (s1.trans s') R' (r'.older fun b e => s1.old e)
theorem w_tup {g : DA} (σ : L2.St) (H : Hp) (Q : VK) (q : tE p W (dTup g) σ H Q) : tTupF (tA p W g) σ H Q := by
  obtain ⟨F, I, ρ, P, PX, R, f1, k, x⟩ := q
  refine ⟨F, I, ρ, _, PX, R, f1, fun os ρ1 vs F1 I1 H1 f2 s1 R1 r1 => ?_, x⟩
  have sl : (sizeLine : Nat) = 16777216 := sizeLine_eq
  obtain ⟨ds, e, f3⟩ := onlyK_of f2
  have r := onlyD_ok r1 e
  refine ⟨by have := f3.1; have := r.length; omega, ?_⟩
  exact Kont.tup (P := fun o => P o ρ1) (fun o v' I' H' h s' R' r' => k o ρ1 v' F1 I' H' h (s1.trans s') R' (r'.older fun b e => s1.old e)) R1 f3.2 r
theorem w_lst {g : DA} (σ : L2.St) (H : Hp) (Q : VK) (q : tE p W (dLst g) σ H Q) : tLst (tA p W g) σ H Q := by
  obtain ⟨F, I, ρ, P, PX, R, f1, k, x⟩ := q
  refine ⟨F, I, ρ, _, PX, R, f1, fun os ρ1 vs F1 I1 H1 f2 s1 R1 r1 => ?_, x⟩
  have sl : (sizeLine : Nat) = 16777216 := sizeLine_eq
  obtain ⟨ds, e, f3⟩ := onlyK_of f2
  have r := onlyD_ok r1 e
  refine ⟨by have := f3.1; have := r.length; omega, fun q n => ?_⟩
  exact Kont.lst (P := fun o => P o ρ1) (fun o v' I' H' h s' R' r' => k o ρ1 v' F1 I' H' h (s1.trans s') R' (r'.older fun b e => s1.old e)) R1 f3.2 r n
end
section
variable {X : Cx} {G : V → Nat → Option Addr → Prop} {W : WX} {pos pos' : Pos} {a : Expr} {fa : DE} {es : List Expr} {g : DA}
theorem a_nil : PAd X G W [] dNil := PA.weak pa_nil w_nil
theorem a_cons (ha : PEd X G W a fa) (hr : PAd X G W es g) (hs : starEach (a :: es) X.env = (false, eval a X.env) :: starEach es X.env := by rfl) : PAd X G W (a :: es) (dCons fa g) := PA.weak (pa_cons ha hr hs) w_cons
theorem e_tup {x1} (h : PAd X G W es g) : PEd X G W (.Tuple es x1 pos) (dTup g) := PE.weak (pe_tupF h) w_tup
theorem e_lst (h : PAd X G W es g) : PEd X G W (.List es pos) (dLst g) := PE.weak (pe_lst h) w_lst
theorem e_cb {id : String} {x : Str} {r : List V → Hp → VK → Prop} {f : List D → (O → Prop) → Prop} (hc : CallR X (.builtin id) r) (hs : CallS (pm X G) r f) (hg : Gl X x) (hm : X.mg x = none) (hv : bootBuiltins x = some (.builtin id)) (ha : PAd X G W (a :: es) g)
    (hn : x ≠ "__name__" := by decide) (hdb : (x == ("__debug__" : Str)) = false := by decide)
    (he : starEach (a :: es) X.env = (false, eval a X.env) :: starEach es X.env := by rfl) (hpl : (backTo pos (starEach es X.env)).any (·.1) = false := by rfl) : PEd X G W (.Call (.Name x pos') (a :: es) [] pos) (dCB f g) := PE.weak (pe_callB hc hg hm hv ha hn hdb he hpl) (w_cb hs)
theorem e_cty {T : String} {x : Str} {r : List V → Hp → VK → Prop} {f : List D → (O → Prop) → Prop} (hc : CallR X (.type T) r) (hs : CallS (pm X G) r f) (hg : Gl X x) (hm : X.mg x = none) (hv : bootBuiltins x = some (.type T)) (ha : PAd X G W (a :: es) g)
    (hn : x ≠ "__name__" := by decide) (hdb : (x == ("__debug__" : Str)) = false := by decide)
    (he : starEach (a :: es) X.env = (false, eval a X.env) :: starEach es X.env := by rfl) (hpl : (backTo pos (starEach es X.env)).any (·.1) = false := by rfl) : PEd X G W (.Call (.Name x pos') (a :: es) [] pos) (dCB f g) := PE.weak (pe_callTy hc hg hm hv ha hn hdb he hpl) (w_cb hs)
end
end Dt

namespace Dt
open PySem PySem.Spec PyProof.Rows L2

/-! ### sorting, greatest, least: plain -/
def ins (x : Int) : List Int → List Int
  | [] => [x]
  | y :: ys => if x ≤ y then x :: y :: ys else y :: ins x ys
def srt : List Int → List Int
  | [] => []
  | x :: xs => ins x (srt xs)
theorem ins_perm (x : Int) : ∀ ys : List Int, (ins x ys).Perm (x :: ys)
  | [] => List.Perm.refl _
  | y :: ys => by
    unfold ins
    split
    · exact List.Perm.refl _
    · exact ((ins_perm x ys).cons y).trans (List.Perm.swap x y ys)
theorem srt_perm : ∀ xs : List Int, (srt xs).Perm xs
  | [] => List.Perm.refl _
  | x :: xs => (ins_perm x _).trans ((srt_perm xs).cons x)
theorem ins_up (x : Int) : ∀ ys : List Int, ys.Pairwise (· ≤ ·) → (ins x ys).Pairwise (· ≤ ·)
  | [], _ => by simp [ins]
  | y :: ys, h => by
    unfold ins
    rw [List.pairwise_cons] at h
    split
    · rename_i e
      rw [List.pairwise_cons]
      refine ⟨fun z hz => ?_, List.pairwise_cons.mpr h⟩
      rcases List.mem_cons.mp hz with rfl | hz
      · exact e
      · have := h.1 z hz; omega
    · rename_i e
      rw [List.pairwise_cons]
      refine ⟨fun z hz => ?_, ins_up x ys h.2⟩
      rcases List.mem_cons.mp ((ins_perm x ys).mem_iff.mp hz) with rfl | hz
      · omega
      · exact h.1 z hz
theorem srt_up : ∀ xs : List Int, (srt xs).Pairwise (· ≤ ·)
  | [] => List.Pairwise.nil
  | x :: xs => ins_up x _ (srt_up xs)
theorem up_unique : ∀ {xs ys : List Int}, xs.Perm ys → xs.Pairwise (· ≤ ·) → ys.Pairwise (· ≤ ·) → xs = ys
  | [], ys, p, _, _ => (List.nil_perm.mp p).symm ▸ rfl
  | x :: xs, [], p, _, _ => absurd (List.perm_nil.mp p) (by simp)
  | x :: xs, y :: ys, p, h1, h2 => by
    rw [List.pairwise_cons] at h1 h2
    have e : x = y := by
      have a : x ∈ y :: ys := p.mem_iff.mp List.mem_cons_self
      have b : y ∈ x :: xs := p.mem_iff.mpr List.mem_cons_self
      rcases List.mem_cons.mp a with a | a
      · exact a
      · rcases List.mem_cons.mp b with b | b
        · exact b.symm
        · have := h1.1 y b; have := h2.1 x a; omega
    subst e
    rw [up_unique (List.Perm.cons_inv p) h1.2 h2.2]
theorem srt_eq {xs ys : List Int} (p : ys.Perm xs) (h : ys.Pairwise (· ≤ ·)) : ys = srt xs := up_unique (p.trans (srt_perm xs).symm) h (srt_up xs)
theorem srtR_eq {xs ys : List Int} (p : ys.Perm xs) (h : ys.Pairwise (· ≥ ·)) : ys = (srt xs).reverse := by
  have e : ys.reverse = srt xs := srt_eq ((List.reverse_perm ys).trans p) (by rw [List.pairwise_reverse]; exact h)
  rw [← e, List.reverse_reverse]
def mxL : List Int → Int
  | [] => 0
  | [x] => x
  | x :: xs => max x (mxL xs)
def mnL : List Int → Int
  | [] => 0
  | [x] => x
  | x :: xs => min x (mnL xs)
theorem mxL_mem : ∀ {xs : List Int}, xs ≠ [] → mxL xs ∈ xs ∧ ∀ y ∈ xs, y ≤ mxL xs
  | [], h => absurd rfl h
  | [x], _ => by simp [mxL]
  | x :: y :: r, _ => by
    obtain ⟨h1, h2⟩ := mxL_mem (xs := y :: r) (by simp)
    have e : mxL (x :: y :: r) = max x (mxL (y :: r)) := rfl
    refine ⟨?_, fun z hz => ?_⟩
    · rw [e]
      rcases Int.le_total x (mxL (y :: r)) with q | q
      · rw [Int.max_eq_right q]; exact List.mem_cons_of_mem _ h1
      · rw [Int.max_eq_left q]; exact List.mem_cons_self
    · rw [e]
      rcases List.mem_cons.mp hz with rfl | hz
      · omega
      · have := h2 z hz; omega
theorem mnL_mem : ∀ {xs : List Int}, xs ≠ [] → mnL xs ∈ xs ∧ ∀ y ∈ xs, mnL xs ≤ y
  | [], h => absurd rfl h
  | [x], _ => by simp [mnL]
  | x :: y :: r, _ => by
    obtain ⟨h1, h2⟩ := mnL_mem (xs := y :: r) (by simp)
    have e : mnL (x :: y :: r) = min x (mnL (y :: r)) := rfl
    refine ⟨?_, fun z hz => ?_⟩
    · rw [e]
      rcases Int.le_total x (mnL (y :: r)) with q | q
      · rw [Int.min_eq_left q]; exact List.mem_cons_self
      · rw [Int.min_eq_right q]; exact List.mem_cons_of_mem _ h1
    · rw [e]
      rcases List.mem_cons.mp hz with rfl | hz
      · omega
      · have := h2 z hz; omega
theorem mxL_eq {xs : List Int} {m : Int} (h : m ∈ xs) (k : ∀ y ∈ xs, y ≤ m) : m = mxL xs := by
  obtain ⟨h1, h2⟩ := mxL_mem (xs := xs) (List.ne_nil_of_mem h)
  have := h2 m h; have := k _ h1; omega
theorem mnL_eq {xs : List Int} {m : Int} (h : m ∈ xs) (k : ∀ y ∈ xs, m ≤ y) : m = mnL xs := by
  obtain ⟨h1, h2⟩ := mnL_mem (xs := xs) (List.ne_nil_of_mem h)
  have := h2 m h; have := k _ h1; omega

/-! ### built-in functions by data -/
abbrev DF := List D → (O → Prop) → Prop
def lenF : DF := fun ds P => match ds with
  | [.list xs] => P (.d (.int xs.length))
  | [.tuple xs] => P (.d (.int xs.length))
  | [.str s] => s.length ≤ 16000000 ∧ P (.d (.int s.length))
  | _ => False
def sumF : DF := fun ds P => match ds with
  | [.list xs] => intsK xs fun ns => P (.d (.int ns.sum))
  | [.tuple xs] => intsK xs fun ns => P (.d (.int ns.sum))
  | _ => False
def maxF : DF := fun ds P => match ds with
  | [.list xs] => intsK xs fun ns => ns ≠ [] ∧ P (.d (.int (mxL ns)))
  | _ => False
def minF : DF := fun ds P => match ds with
  | [.list xs] => intsK xs fun ns => ns ≠ [] ∧ P (.d (.int (mnL ns)))
  | _ => False
def max2F : DF := fun ds P => match ds with
  | [.int i, .int j] => P (.d (.int (max i j)))
  | _ => False
def min2F : DF := fun ds P => match ds with
  | [.int i, .int j] => P (.d (.int (min i j)))
  | _ => False
def allF : DF := fun ds P => match ds with
  | [.list xs] => boolsK xs fun bs => P (.d (.bool (bs.all id)))
  | _ => False
def anyF : DF := fun ds P => match ds with
  | [.list xs] => boolsK xs fun bs => P (.d (.bool (bs.any id)))
  | _ => False
def absF : DF := fun ds P => match ds with
  | [.int i] => P (.d (.int (if i < 0 then -i else i)))
  | _ => False
def sortF : DF := fun ds P => match ds with
  | [.list xs] => intsK xs fun ns => P (.tmp (.lst ((srt ns).map PyData.int)))
  | [.tuple xs] => intsK xs fun ns => P (.tmp (.lst ((srt ns).map PyData.int)))
  | _ => False
def sortRF : DF := fun ds P => match ds with
  | [.list xs] => intsK xs fun ns => P (.tmp (.lst ((srt ns).reverse.map PyData.int)))
  | [.tuple xs] => intsK xs fun ns => P (.tmp (.lst ((srt ns).reverse.map PyData.int)))
  | _ => False
def listF : DF := fun ds P => match ds with
  | [.list xs] => P (.tmp (.lst xs))
  | [.tuple xs] => P (.tmp (.lst xs))
  | _ => False
def tupleF : DF := fun ds P => match ds with
  | [.list xs] => P (.d (.tuple xs))
  | [.tuple xs] => P (.d (.tuple xs))
  | _ => False
def strF : DF := fun ds P => match ds with
  | [.int i] => i.natAbs.log2 < 1920 ∧ P (.d (.str (Str.ofString (toString i))))
  | _ => False
def intF : DF := fun ds P => match ds with
  | [.str s] => s.length ≤ 640 ∧ (match PySem.intText? s with
    | some n => P (.d (.int n))
    | none => False)
  | [.bool b] => P (.d (.int (if b then 1 else 0)))
  | _ => False
section
variable {p : Pm} {I H : Hp} {vs : List V}
theorem args1 {d : D} (h : Paired (Dd1 p I H) vs [d]) : ∃ v, vs = [v] ∧ Dd1 p I H v d := by
  cases h with
  | cons r rr => cases rr; exact ⟨_, rfl, r⟩
theorem args2 {d e : D} (h : Paired (Dd1 p I H) vs [d, e]) : ∃ v w, vs = [v, w] ∧ Dd1 p I H v d ∧ Dd1 p I H w e := by
  cases h with
  | cons r rr => cases rr with
    | cons r' rr => cases rr; exact ⟨_, _, rfl, r, r'⟩
theorem s_len : CallS p (fun xs H Q => ∃ x n, xs = [x] ∧ LenV p.K x H n ∧ Q (.int n) H) lenF := by
  intro F I H σ ρ vs ds P Q R hv h k
  have sl : (sizeLine : Nat) = 16777216 := sizeLine_eq
  unfold lenF at h
  split at h
  · obtain ⟨v, rfl, r⟩ := args1 hv
    obtain ⟨a, ws, rfl, e, r⟩ := r.list R.sub
    exact ⟨_, _, rfl, .inl ⟨ws, SqL.of e, rfl⟩, by rw [r.length]; exact k.flat R h (.int _)⟩
  · obtain ⟨v, rfl, r⟩ := args1 hv
    obtain ⟨a, o, ws, rfl, e, _, r⟩ := r.tuple
    exact ⟨_, _, rfl, .inr ⟨ws, sqF (R.sub _ _ e), rfl⟩, by rw [r.length]; exact k.flat R h (.int _)⟩
  · obtain ⟨v, rfl, r⟩ := args1 hv
    rw [r.str]
    exact ⟨_, _, rfl, ⟨by have := h.1; omega, rfl⟩, k.flat R h.2 (.int _)⟩
  · exact h.elim
theorem listInts {v : V} {ns : List Int} (R : Same I H) (h : Dd1 p I H v (.list (ns.map PyData.int))) : ∃ a, v = .ref a ∧ SqL p.K H a (ns.map V.int) := by
  obtain ⟨a, ws, rfl, e, r⟩ := h.list R
  rw [r.ofInts] at e
  exact ⟨a, rfl, SqL.of e⟩
theorem tupInts {v : V} {ns : List Int} (R : Same I H) (h : Dd1 p I H v (.tuple (ns.map PyData.int))) : ∃ a, v = .ref a ∧ SqT p.K H a (ns.map V.int) := by
  obtain ⟨a, o, ws, rfl, e, _, r⟩ := h.tuple
  rw [r.ofInts] at e
  exact ⟨a, rfl, sqF (R _ _ e)⟩
/-- sum of a list or of a tuple -/
def rSumD (K : PySem.W.Frag) : List V → Hp → VK → Prop := fun vs H Q => ∃ (a : Addr) (ns : List Int), vs = [V.ref a] ∧ (SqL K H a (ns.map V.int) ∨ SqT K H a (ns.map V.int)) ∧ Q (.int ns.sum) H
theorem cr_sumD {X : Cx} (hc : X.calm = true) : CallR X (.builtin "sum") (rSumD X.K) := by
  intro pins s σ H vs us Q I r h
  obtain ⟨a, ns, rfl, hs | hs, q⟩ := h
  · exact cr_sum hc pins s σ H _ us Q I r ⟨a, ns, rfl, hs, q⟩
  · obtain ⟨its, rv, ht, _⟩ := I.tuple hs
    obtain ⟨xs, e⟩ := rv.ints.allInts.items
    have hn : numsOf (intItems xs).toList = ns := by rw [← e]; exact rv.ints.numsOf
    rw [nums_intItems] at hn
    rw [e] at ht
    rw [Vals.ref1 r]
    refine PySem.W.ktm_sumG (I.ok.hd hc) ht fun h' tk t' hk => ?_
    rw [preSum_eq, List.take_of_length_le (by simp), hn]
    exact ⟨.int _, H, I.kept hk, ⟨_, rfl⟩, q⟩
theorem s_sum : CallS p (rSumD p.K) sumF := by
  intro F I H σ ρ vs ds P Q R hv h k
  unfold sumF at h
  split at h
  · obtain ⟨ns, rfl, hh⟩ := intsK_of h
    obtain ⟨v, rfl, r⟩ := args1 hv
    obtain ⟨a, rfl, e⟩ := listInts R.sub r
    exact ⟨a, ns, rfl, .inl e, k.flat R hh (.int _)⟩
  · obtain ⟨ns, rfl, hh⟩ := intsK_of h
    obtain ⟨v, rfl, r⟩ := args1 hv
    obtain ⟨a, rfl, e⟩ := tupInts R.sub r
    exact ⟨a, ns, rfl, .inr e, k.flat R hh (.int _)⟩
  · exact h.elim
theorem s_max : CallS p (rMax p.K) maxF := by
  intro F I H σ ρ vs ds P Q R hv h k
  unfold maxF at h
  split at h
  · obtain ⟨ns, rfl, h0, h⟩ := intsK_of h
    obtain ⟨v, rfl, r⟩ := args1 hv
    obtain ⟨a, rfl, e⟩ := listInts R.sub r
    exact ⟨a, ns, rfl, e, List.length_pos_iff.mpr h0, fun m h1 h2 => by rw [mxL_eq h1 h2]; exact k.flat R h (.int _)⟩
  · exact h.elim
theorem s_min : CallS p (rMin p.K) minF := by
  intro F I H σ ρ vs ds P Q R hv h k
  unfold minF at h
  split at h
  · obtain ⟨ns, rfl, h0, h⟩ := intsK_of h
    obtain ⟨v, rfl, r⟩ := args1 hv
    obtain ⟨a, rfl, e⟩ := listInts R.sub r
    exact ⟨a, ns, rfl, e, List.length_pos_iff.mpr h0, fun m h1 h2 => by rw [mnL_eq h1 h2]; exact k.flat R h (.int _)⟩
  · exact h.elim
theorem s_max2 : CallS p (fun xs H Q => ∃ i j, xs = [.int i, .int j] ∧ Q (.int (if j > i then j else i)) H) max2F := by
  intro F I H σ ρ vs ds P Q R hv h k
  unfold max2F at h
  split at h
  · rename_i i j
    obtain ⟨v, w, rfl, r1, r2⟩ := args2 hv
    rw [r1.int, r2.int]
    refine ⟨_, _, rfl, ?_⟩
    have e : (if j > i then j else i) = max i j := by omega
    rw [e]
    exact k.flat R h (.int _)
  · exact h.elim
theorem s_min2 : CallS p (fun xs H Q => ∃ i j, xs = [.int i, .int j] ∧ Q (.int (if j < i then j else i)) H) min2F := by
  intro F I H σ ρ vs ds P Q R hv h k
  unfold min2F at h
  split at h
  · rename_i i j
    obtain ⟨v, w, rfl, r1, r2⟩ := args2 hv
    rw [r1.int, r2.int]
    refine ⟨_, _, rfl, ?_⟩
    have e : (if j < i then j else i) = min i j := by omega
    rw [e]
    exact k.flat R h (.int _)
  · exact h.elim
theorem s_all : CallS p (rAll p.K) allF := by
  intro F I H σ ρ vs ds P Q R hv h k
  unfold allF at h
  split at h
  · obtain ⟨ns, rfl, hh⟩ := boolsK_of h
    obtain ⟨v, rfl, r⟩ := args1 hv
    obtain ⟨a, ws, rfl, e, r⟩ := r.list R.sub
    rw [r.ofBools] at e
    exact ⟨a, ns, rfl, SqL.of e, k.flat R hh (.bl _)⟩
  · exact h.elim
theorem s_any : CallS p (rAny p.K) anyF := by
  intro F I H σ ρ vs ds P Q R hv h k
  unfold anyF at h
  split at h
  · obtain ⟨ns, rfl, hh⟩ := boolsK_of h
    obtain ⟨v, rfl, r⟩ := args1 hv
    obtain ⟨a, ws, rfl, e, r⟩ := r.list R.sub
    rw [r.ofBools] at e
    exact ⟨a, ns, rfl, SqL.of e, k.flat R hh (.bl _)⟩
  · exact h.elim
theorem s_abs : CallS p (fun xs H Q => ∃ i, xs = [.int i] ∧ Q (.int (if i < 0 then -i else i)) H) absF := by
  intro F I H σ ρ vs ds P Q R hv h k
  unfold absF at h
  split at h
  · obtain ⟨v, rfl, r⟩ := args1 hv
    rw [r.int]
    exact ⟨_, rfl, k.flat R h (.int _)⟩
  · exact h.elim
theorem s_sort : CallS p (rSrt p.K false) sortF := by
  intro F I H σ ρ vs ds P Q R hv h k
  unfold sortF at h
  split at h
  · obtain ⟨ns, rfl, hh⟩ := intsK_of h
    obtain ⟨v, rfl, r⟩ := args1 hv
    obtain ⟨a, rfl, e⟩ := listInts R.sub r
    exact ⟨a, ns, rfl, .inl e, fun ns' q h1 h2 n => k.lst R (by rw [srt_eq h1 h2] at *; exact hh) (DdAll.ints _) n⟩
  · obtain ⟨ns, rfl, hh⟩ := intsK_of h
    obtain ⟨v, rfl, r⟩ := args1 hv
    obtain ⟨a, rfl, e⟩ := tupInts R.sub r
    exact ⟨a, ns, rfl, .inr e, fun ns' q h1 h2 n => k.lst R (by rw [srt_eq h1 h2] at *; exact hh) (DdAll.ints _) n⟩
  · exact h.elim
theorem s_sortR : CallS p (rSrt p.K true) sortRF := by
  intro F I H σ ρ vs ds P Q R hv h k
  unfold sortRF at h
  split at h
  · obtain ⟨ns, rfl, hh⟩ := intsK_of h
    obtain ⟨v, rfl, r⟩ := args1 hv
    obtain ⟨a, rfl, e⟩ := listInts R.sub r
    exact ⟨a, ns, rfl, .inl e, fun ns' q h1 h2 n => k.lst R (by rw [srtR_eq h1 h2] at *; exact hh) (DdAll.ints _) n⟩
  · obtain ⟨ns, rfl, hh⟩ := intsK_of h
    obtain ⟨v, rfl, r⟩ := args1 hv
    obtain ⟨a, rfl, e⟩ := tupInts R.sub r
    exact ⟨a, ns, rfl, .inr e, fun ns' q h1 h2 n => k.lst R (by rw [srtR_eq h1 h2] at *; exact hh) (DdAll.ints _) n⟩
  · exact h.elim
theorem s_list : CallS p (fun xs H Q => ∃ q ys, xs = [.ref q] ∧ (SqL p.K H q ys ∨ SqT p.K H q ys) ∧ ∀ l, H l = none → Q (.ref l) (upd H l (.lst ys))) listF := by
  intro F I H σ ρ vs ds P Q R hv h k
  unfold listF at h
  split at h
  · obtain ⟨v, rfl, r⟩ := args1 hv
    obtain ⟨a, ws, rfl, e, r⟩ := r.list R.sub
    exact ⟨a, ws, rfl, .inl (SqL.of e), fun l n => k.lst R h r n⟩
  · obtain ⟨v, rfl, r⟩ := args1 hv
    obtain ⟨a, o, ws, rfl, e, _, r⟩ := r.tuple
    exact ⟨a, ws, rfl, .inr (sqF (R.sub _ _ e)), fun l n => k.lst R h r n⟩
  · exact h.elim
theorem s_tuple : CallS p (fun xs H Q => ∃ q ys, xs = [.ref q] ∧ ((SqL p.K H q ys ∧ NewT H Q ys) ∨ (SqT p.K H q ys ∧ Q (.ref q) H))) tupleF := by
  intro F I H σ ρ vs ds P Q R hv h k
  unfold tupleF at h
  split at h
  · obtain ⟨v, rfl, r⟩ := args1 hv
    obtain ⟨a, ws, rfl, e, r⟩ := r.list R.sub
    exact ⟨a, ws, rfl, .inl ⟨SqL.of e, k.tup R h r⟩⟩
  · obtain ⟨v, rfl, r⟩ := args1 hv
    obtain ⟨a, o, ws, rfl, e, z, r⟩ := r.tuple
    exact ⟨a, ws, rfl, .inr ⟨sqF (R.sub _ _ e), k.flat R h (.tup e z r)⟩⟩
  · exact h.elim
theorem s_str : CallS p (fun xs H Q => ∃ i, xs = [.int i] ∧ i.natAbs.log2 < 1920 ∧ Q (.str (toString i)) H) strF := by
  intro F I H σ ρ vs ds P Q R hv h k
  unfold strF at h
  split at h
  · obtain ⟨v, rfl, r⟩ := args1 hv
    rw [r.int]
    exact ⟨_, rfl, h.1, k.flat R h.2 (.str _)⟩
  · exact h.elim
abbrev rIntD : List V → Hp → VK → Prop := fun xs H Q => (∃ a n, xs = [.str a] ∧ PySem.intText? a = some n ∧ a.length ≤ 640 ∧ Q (.int n) H) ∨ ((∃ i, xs = [.int i] ∧ Q (.int i) H) ∨ ∃ k, xs = [.bl k] ∧ Q (.int (if k then 1 else 0)) H)
theorem s_int : CallS p rIntD intF := by
  intro F I H σ ρ vs ds P Q R hv h k
  unfold intF at h
  split at h
  · obtain ⟨v, rfl, r⟩ := args1 hv
    rw [r.str]
    obtain ⟨h1, h⟩ := h
    split at h
    · exact .inl ⟨_, _, rfl, by assumption, h1, k.flat R h (.int _)⟩
    · exact h.elim
  · obtain ⟨v, rfl, r⟩ := args1 hv
    rw [r.bool]
    exact .inr (.inr ⟨_, rfl, k.flat R h (.int _)⟩)
  · exact h.elim
end

/-! ### isinstance of built-in types -/
def tyName : D → String
  | .none => "NoneType"
  | .bool _ => "bool"
  | .int _ => "int"
  | .str _ => "str"
  | .list _ => "list"
  | .tuple _ => "tuple"
  | .dict _ => "dict"
def isT (T : String) : D → Bool
  | .none => T == "NoneType"
  | .bool _ => T == "bool" || T == "int"
  | .int _ => T == "int"
  | .str _ => T == "str"
  | .list _ => T == "list"
  | .tuple _ => T == "tuple"
  | .dict _ => false
def okT (T : String) : Prop := ∀ n ∈ ["NoneType", "bool", "int", "str", "list", "tuple"], kitB n T = some (T == n || (n == "bool" && T == "int"))
def noInst : D → Prop
  | .dict _ => False
  | _ => True
def isiD (T : String) : D1 := fun d P => noInst d ∧ P (.d (.bool (isT T d)))
def isi2D (T U : String) : D1 := fun d P => noInst d ∧ P (.d (.bool (isT T d || isT U d)))
section
variable {p : Pm} {I H : Hp}
theorem tyX_of {v : V} {d : D} (s : Same I H) (h : Dd1 p I H v d) (n : noInst d) : TyX p.K H v (.type (tyName d)) := by
  cases d with
  | none => rw [h.none]; exact .base .non
  | bool b => rw [h.bool]; exact .base (.bl _)
  | int b => rw [h.int]; exact .base (.int _)
  | str b => rw [h.str]; exact .base (.str _)
  | list ds => obtain ⟨a, ws, rfl, e, r⟩ := h.list s; exact .base (.lst e)
  | tuple ds => obtain ⟨a, o, ws, rfl, e, _, r⟩ := h.tuple; exact .fTuple (s _ _ e)
  | dict ds => exact n.elim
theorem isT_of {T : String} {d : D} (hT : okT T) (n : noInst d) : PySem.W.kitOne p.K (.type (tyName d)) (.type T) = some (isT T d) := by
  refine kit_ty ?_
  cases d with
  | none => rw [show tyName PyData.none = "NoneType" from rfl, hT "NoneType" (by simp)]; simp [isT]
  | bool b => rw [show tyName (PyData.bool b) = "bool" from rfl, hT "bool" (by simp)]; simp [isT]
  | int b => rw [show tyName (PyData.int b) = "int" from rfl, hT "int" (by simp)]; simp [isT]
  | str b => rw [show tyName (PyData.str b) = "str" from rfl, hT "str" (by simp)]; simp [isT]
  | list ds => rw [show tyName (PyData.list ds) = "list" from rfl, hT "list" (by simp)]; simp [isT]
  | tuple ds => rw [show tyName (PyData.tuple ds) = "tuple" from rfl, hT "tuple" (by simp)]; simp [isT]
  | dict ds => exact n.elim
end
section
variable {X : Cx} {G : V → Nat → Option Addr → Prop} {W : WX} {pos pos' tp : Pos} {a : Expr} {fa : DE}
theorem e_isi {T : String} {x : Str} {n : Str} (hn : n = "isinstance") (hT : okT T) (hg : Gl X n) (hm : X.mg n = none) (hg2 : Gl X x) (hm2 : X.mg x = none) (hv2 : bootBuiltins x = some (.type T)) (ha : PEd X G W a fa)
    (hn2 : x ≠ "__name__" := by decide) (hd2 : (x == ("__debug__" : Str)) = false := by decide)
    (h1 : starEach [.Name x tp] X.env = (false, eval (.Name x tp) X.env) :: starEach [] X.env := by rfl) (h2 : starEach [a, .Name x tp] X.env = (false, eval a X.env) :: starEach [.Name x tp] X.env := by rfl)
    (hpl : (backTo pos (starEach [.Name x tp] X.env)).any (·.1) = false := by rfl) : PEd X G W (.Call (.Name n pos') [a, .Name x tp] [] pos) (dUn (isiD T) fa) := by
  subst hn
  refine PE.weak (pe_callB call_isi hg hm (by decide +kernel) (pa_cons ha (pa_cons (pe_bltn (v := .ty T) hg2 hm2 hv2 rfl hn2 hd2) pa_nil h1) h2) (by decide) (by decide) h2 hpl) fun σ H Q q => ?_
  obtain ⟨F, I, ρ, P, PX, R, f1, k, x⟩ := q
  refine ⟨F, I, ρ, _, PX, R, f1, fun o ρ1 v F1 I1 H1 f2 s1 R1 r1 => ?_, x⟩
  obtain ⟨d, e, nd, f3⟩ := vw1_of f2
  have hd := vw_ok R1 r1 e
  exact (show rIsi X.K [v, .ty T] H1 Q from ⟨v, .ty T, _, _, _, rfl, .ty T, tyX_of R1.sub hd nd, isT_of (p := pm X G) hT nd, k _ _ _ _ _ _ f3 s1 R1 (Dd.bl _)⟩)
end

/-! ### subscripts and slices -/
@[irreducible] def getK {α : Type} (o : Option α) (k : α → Prop) : Prop := match o with
  | some d => k d
  | none => False
theorem getK_of {α : Type} {o : Option α} {k : α → Prop} (h : getK o k) : ∃ d, o = some d ∧ k d := by
  unfold getK at h
  split at h
  · exact ⟨_, rfl, h⟩
  · exact h.elim
theorem getK_mk {α : Type} {o : Option α} {k : α → Prop} (d : α) (e : o = some d) (h : k d) : getK o k := by unfold getK; rw [e]; exact h
def ixD : D2 := fun d e P => match d, e with
  | .list ds, .int i => getK (atI ds i) fun d => P (.d d)
  | .tuple ds, .int i => getK (atI ds i) fun d => P (.d d)
  | .str z, .int i => z.length ≤ 16000000 ∧ (match atI z.cps.toList i with
    | some c => P (.d (.str ⟨#[c]⟩))
    | none => False)
  | _, _ => False
def cut {α : Type} (xs : List α) (lo hi : Option Int) : List α := (xs.drop (HT.sIx xs.length 0 lo)).take (HT.sIx xs.length xs.length hi - HT.sIx xs.length 0 lo)
theorem cutV_cut (vs : List V) (lo hi : Option Int) : cutV vs lo hi = cut vs lo hi := rfl
section
variable {p : Pm} {I H : Hp}
theorem atI_ok {vs : List V} {ds : List D} {i : Int} {d : D} (r : DdAll p I vs ds) (h : atI ds i = some d) : ∃ v, atI vs i = some v ∧ Dd p I v d := by
  unfold atI at h ⊢
  rw [r.length]
  cases e : ixN ds.length i with
  | none => rw [e] at h; cases h
  | some j => rw [e] at h; exact r.get h
theorem s_ix : OpS p (rIx p.K) ixD := by
  intro F I H σ ρ v w d e P Q R h1 h2 h k
  have sl : (sizeLine : Nat) = 16777216 := sizeLine_eq
  unfold ixD at h
  split at h
  · obtain ⟨d0, e0, h⟩ := getK_of h
    obtain ⟨a, ws, rfl, e, r⟩ := h1.list R.sub
    obtain ⟨u, h3, h4⟩ := atI_ok r e0
    exact .inl ⟨a, ws, _, u, rfl, h2.int, SqL.of e, h3, k.flat R h h4⟩
  · obtain ⟨d0, e0, h⟩ := getK_of h
    obtain ⟨a, o, ws, rfl, e, _, r⟩ := h1.tuple
    obtain ⟨u, h3, h4⟩ := atI_ok r e0
    exact .inr (.inl ⟨a, ws, _, u, rfl, h2.int, sqF (R.sub _ _ e), h3, k.flat R h h4⟩)
  · obtain ⟨hl, h⟩ := h
    split at h
    · exact .inr (.inr ⟨_, _, _, h1.str, h2.int, by omega, by assumption, k.flat R h (.str _)⟩)
    · exact h.elim
  · exact h.elim
theorem DdAll.cut {vs : List V} {ds : List D} (r : DdAll p I vs ds) (lo hi : Option Int) : DdAll p I (cut vs lo hi) (cut ds lo hi) := by
  unfold Dt.cut
  rw [r.length]
  exact (r.drop _).take _
end
abbrev DO := Rho → (Option Int → Rho → Prop) → (Exn → Rho → Prop) → Prop
def dNoPart : DO := fun ρ P _ => P none ρ
def dPart (f : DE) : DO := fun ρ P PX => f ρ (fun o ρ1 => match o with
  | .d (.int i) => P (some i) ρ1
  | _ => False) PX
def slD (d : D) (lo hi : Option Int) (P : O → Prop) : Prop := match d with
  | .list ds => P (.tmp (.lst (cut ds lo hi)))
  | .tuple ds => P (.d (.tuple (cut ds lo hi)))
  | .str s => s.length ≤ 16000000 ∧ P (.d (.str (cutS s lo hi)))
  | _ => False
def dSl (f : DE) (l h : DO) : DE := fun ρ P PX => f ρ (fun o ρ1 => l ρ1 (fun lo ρ2 => h ρ2 (fun hi ρ3 => vw1 ρ3 o fun d => slD d lo hi fun o => P o ρ3) PX) PX) PX
def dRev (f : DE) : DE := dUn (fun d P => match d with
  | .list ds => P (.tmp (.lst ds.reverse))
  | _ => False) f
def tO (p : Pm) (W : WX) (f : DO) : TO := fun σ H Q => ∃ F I ρ P PX, Rel p F I H σ ρ ∧ f ρ P PX ∧
  (∀ b ρ' F' I' H', P b ρ' → Step F I H F' I' H' → Rel p F' I' H' σ ρ' → Q b H') ∧ XEnd p W F I H σ PX
abbrev POd (X : Cx) (G : V → Nat → Option Addr → Prop) (W : WX) (e : Option Expr) (f : DO) : Prop := PO X e (tO (pm X G) W f)
abbrev rSlD (K : PySem.W.Frag) : V → Option Int → Option Int → Hp → VK → Prop := fun x lo hi H Q => rSlL K x lo hi H Q ∨ (rSlF K x lo hi H Q ∨ rSlS x lo hi H Q)
section
variable {X : Cx} {G : V → Nat → Option Addr → Prop} {W : WX} {pos pos' p2 : Pos} {a b : Expr} {fa fb : DE} {lo hi : Option Expr} {fl fh : DO}
theorem PO.weak {e : Option Expr} {t t' : TO} (h : PO X e t) (w : ∀ σ H Q, t' σ H Q → t σ H Q) : PO X e t' := ⟨fun pins s σ H Q I q => h.run pins s σ H Q I (w σ H Q q)⟩
theorem o_none : POd X G W none dNoPart := PO.weak po_none fun σ H Q q => by
  obtain ⟨F, I, ρ, P, PX, R, f1, k, x⟩ := q
  exact k none ρ F I H f1 (Step.refl ..) R
theorem o_some (h : PEd X G W a fa) : POd X G W (some a) (dPart fa) := PO.weak (po_some h) fun σ H Q q => by
  obtain ⟨F, I, ρ, P, PX, R, f1, k, x⟩ := q
  refine ⟨F, I, ρ, _, PX, R, f1, fun o ρ1 v F1 I1 H1 f2 s1 R1 r1 => ?_, x⟩
  split at f2
  · cases r1
    exact ⟨_, rfl, k _ ρ1 F1 I1 H1 f2 s1 R1⟩
  · exact f2.elim
theorem e_ix (ha : PEd X G W a fa) (hb : PEd X G W b fb) (hs : PlainIx b := by exact fun _ _ => rfl) : PEd X G W (.Subscript a b pos) (dOp ixD fa fb) := PE.weak (pe_ix ix_seq ha hb hs) (w_op s_ix)
theorem e_sl (ha : PEd X G W a fa) (hl : POd X G W lo fl) (hh : POd X G W hi fh) : PEd X G W (.Subscript a (.Slice lo hi none p2) pos) (dSl fa fl fh) := PE.weak (pe_slice (r := rSlD X.K) (sl_list.or (sl_tupF.or sl_str)) ha hl hh) fun σ H Q q => by
  obtain ⟨F, I, ρ, P, PX, R, f1, k, x⟩ := q
  have sl : (sizeLine : Nat) = 16777216 := sizeLine_eq
  refine ⟨F, I, ρ, _, PX, R, f1, fun o ρ1 v F1 I1 H1 f2 s1 R1 r1 => ?_, x⟩
  refine ⟨F1, I1, ρ1, _, PX, R1, f2, fun lo ρ2 F2 I2 H2 f3 s2 R2 => ?_, x.later s1⟩
  refine ⟨F2, I2, ρ2, _, PX, R2, f3, fun hi ρ3 F3 I3 H3 f4 s3 R3 => ?_, x.later (s1.trans s2)⟩
  obtain ⟨d, e, f5⟩ := vw1_of f4
  have hd := vw_ok R3 ((r1.stay s2).stay s3) e
  have s4 := (s1.trans s2).trans s3
  have K : Kont (pm X G) F3 I3 H3 σ ρ3 (fun o => P o ρ3) Q := fun o v' I' H' h s' R' r' => k o ρ3 v' F3 I' H' h (s4.trans s') R' (r'.older fun b e => s4.old e)
  unfold slD at f5
  split at f5
  · obtain ⟨a, ws, rfl, e, r⟩ := hd.list R3.sub
    exact .inl ⟨a, ws, rfl, SqL.of e, fun q n => K.lst R3 f5 (r.cut lo hi) n⟩
  · obtain ⟨a, o, ws, rfl, e, z, r⟩ := hd.tuple
    refine .inr (.inl ⟨a, ws, rfl, sqF (R3.sub _ _ e), fun hw => ?_, fun _ => K.tup R3 f5 (r.cut lo hi)⟩)
    have ec : ∀ {α : Type} (xs : List α), xs.length = ws.length → cut xs lo hi = xs := fun xs hx => by
      unfold cut
      rw [hx, hw.1, hw.2]
      simp [← hx]
    rw [ec _ r.length.symm] at f5
    exact K.flat R3 f5 (.tup e z r)
  · exact .inr (.inr ⟨_, hd.str, by have := f5.1; omega, K.flat R3 f5.2 (.str _)⟩)
  · exact f5.elim
theorem e_rev {k : Nat} {q1 q2 q3 : Pos} (ha : PEd X G W a fa) : PEd X G W (.Subscript a (.Slice none none (some (.UnaryOp .USub (.Constant (.int 1) k q1) q2)) q3) pos) (dRev fa) := PE.weak (pe_revL ha) fun σ H Q q => by
  obtain ⟨F, I, ρ, P, PX, R, f1, k, x⟩ := q
  refine ⟨F, I, ρ, _, PX, R, f1, fun o ρ1 v F1 I1 H1 f2 s1 R1 r1 => ?_, x⟩
  obtain ⟨d, e, f3⟩ := vw1_of f2
  have hd := vw_ok R1 r1 e
  split at f3
  · obtain ⟨a, ws, rfl, e, r⟩ := hd.list R1.sub
    have K : Kont (pm X G) F1 I1 H1 σ ρ1 (fun o => P o ρ1) Q := fun o v' I' H' h s' R' r' => k o ρ1 v' F1 I' H' h (s1.trans s') R' (r'.older fun b e => s1.old e)
    exact ⟨a, ws, rfl, SqL.of e, fun q n => K.lst R1 f3 r.reverse n⟩
  · exact f3.elim
end

/-! ### methods that read -/
def MtS (p : Pm) (T : String) (r : V → List V → Hp → VK → Prop) (f : D → DF) : Prop := ∀ F I H σ ρ v vs d ds P Q, Rel p F I H σ ρ → Dd1 p I H v d → Paired (Dd1 p I H) vs ds → f d ds P → Kont p F I H σ ρ P Q → r v vs H Q
def okTy (T : String) : D → Prop
  | .list _ => T = "list"
  | .tuple _ => T = "tuple"
  | .str _ => T = "str"
  | _ => False
def dMt (T : String) (f : D → DF) (a : DE) (g : DA) : DE := fun ρ P PX => a ρ (fun o ρ1 => vw1 ρ1 o (okTy T) ∧ g ρ1 (fun os ρ2 => vw1 ρ2 o fun d => vwsK ρ2 os fun ds => f d ds fun o => P o ρ2) PX) PX
def countF : D → DF := fun d ds P => match d, ds with
  | .list xs, [e] => PyData.plainAll xs = true ∧ e.plain = true ∧ e.depth ≤ 50 ∧ P (.d (.int ((xs.countP fun y => PyData.eqv y e : Nat) : Int)))
  | .tuple xs, [e] => PyData.plainAll xs = true ∧ e.plain = true ∧ e.depth ≤ 50 ∧ P (.d (.int ((xs.countP fun y => PyData.eqv y e : Nat) : Int)))
  | _, _ => False
section
variable {p : Pm} {I H : Hp}
theorem okTy_of {T : String} {v : V} {d : D} (s : Same I H) (h : Dd1 p I H v d) (t : okTy T d) : tyW p.K T v H := by
  cases d with
  | list ds => cases t; obtain ⟨a, ws, rfl, e, r⟩ := h.list s; exact .inl (.inl ⟨rfl, ws, SqL.of e⟩)
  | tuple ds => cases t; obtain ⟨a, o, ws, rfl, e, z, r⟩ := h.tuple; exact .inr ⟨rfl, a, o, ws, rfl, s _ _ e, z⟩
  | str x => cases t; rw [h.str]; exact .inl rfl
  | _ => exact t.elim
end
section
variable {X : Cx} {G : V → Nat → Option Addr → Prop} {W : WX} {apos cpos : Pos} {a e : Expr} {fa : DE} {es : List Expr} {g : DA} {name : Str} {T id : String} {r : V → List V → Hp → VK → Prop} {f : D → DF}
theorem e_mt (pa : PlainAttrs T) (slot : Slot T name id) (hty : typeOf (.builtin id) = pure (.type "method_descriptor")) (hm : MtR X id r) (hs : MtS (pm X G) T r f) (ho : PEd X G W a fa) (ha : PAd X G W (e :: es) g)
    (hbase : attributeBase a name X.env (eval a X.env) = eval a X.env := by rfl)
    (hfew : ((backTo cpos (starEach (e :: es) X.env)).all (fun x => !x.1) && (backToKw cpos (keywordEach [] X.env)).all (fun x => x.1.isSome)
      && decide ((e :: es).length + ([] : List Keyword).length + (if ([] : List Keyword).isEmpty then 0 else 1) < 30)) = true := by rfl)
    (hline : (apos.endLine == cpos.line) = true := by rfl) (h1 : starEach (e :: es) X.env = (false, eval e X.env) :: starEach es X.env := by rfl) (hplain : (backTo cpos (starEach es X.env)).any (·.1) = false := by rfl) :
    PEd X G W (.Call (.Attribute a name apos) (e :: es) [] cpos) (dMt T f fa g) := PE.weak (pe_bw pa slot hty hm ho ha hbase hfew hline h1 hplain) fun σ H Q q => by
  obtain ⟨F, I, ρ, P, PX, R, f1, k, x⟩ := q
  refine ⟨F, I, ρ, _, PX, R, f1, fun o ρ1 v F1 I1 H1 f2 s1 R1 r1 => ?_, x⟩
  obtain ⟨t, f2⟩ := f2
  obtain ⟨d, e, t⟩ := vw1_of t
  refine ⟨okTy_of R1.sub (vw_ok R1 r1 e) t, F1, I1, ρ1, _, PX, R1, f2, fun os ρ2 vs F2 I2 H2 f3 s2 R2 r2 => ?_, x.later s1⟩
  obtain ⟨d2, e2, f3⟩ := vw1_of f3
  obtain ⟨ds, e3, f4⟩ := vwsK_of f3
  have s3 := s1.trans s2
  exact hs F2 I2 H2 σ ρ2 v vs d2 ds _ Q R2 (vw_ok R2 (r1.stay s2) e2) (vws_ok R2 r2 e3) f4 fun o v' I' H' h s' R' r' => k o ρ2 v' F2 I' H' h (s3.trans s') R' (r'.older fun b e => s3.old e)
theorem PE.or {e : Expr} {t t' : TE} (h : PE X e t) (h' : PE X e t') : PE X e (fun σ H Q => t σ H Q ∨ t' σ H Q) := ⟨fun pins s σ H Q I q => q.elim (h.run pins s σ H Q I) (h'.run pins s σ H Q I)⟩
end
section
variable {p : Pm}
theorem dpAll_of {I H : Hp} {vs : List V} {ds : List D} (r : DdAll p I vs ds) (s : Same I H) (h : PyData.canLayAll0 ds = true) : DpAll p.K H vs ds := DdAll.dp0 (DdAll.mono s r) h
end
end Dt

namespace Dt
open PySem PySem.Spec PyProof.Rows L2

/-! ### storing in a slot -/
def setK (ρ : Rho) (i : Nat) (o : O) (k : Rho → Prop) : Prop := match o with
  | .d d => k (ρ.set i (some (.d d)))
  | .tmp c => k (ρ.set i (some (.own c)))
  | .exc x => k (ρ.set i (some (.exc x)))
  | .loc j => frzK ρ (.loc j) fun d ρ' => k (ρ'.set i (some (.d d)))
section
variable {p : Pm} {F F' F0 : Lab} {I I' I0 H0 H1 H H' : Hp} {σ : L2.St} {ρ ρ' : Rho} {v w : V} {o : O} {d e : D} {c : C} {W : WX}
theorem Rel.setD {i : Nat} {s : S} (R : Rel p F I H σ ρ) (h : SlotOk p F I H i v s) : Rel p F I H (σ.set i (some v)) (ρ.set i (some s)) := by
  refine ⟨R.sub, R.lab, by simpa using R.len, fun k sl e => ?_⟩
  by_cases hk : k = i
  · subst hk
    have hl : k < ρ.length := by
      have := (List.getElem?_eq_some_iff.mp e).1
      simpa using this
    rw [List.getElem?_set_self hl] at e
    cases e
    exact ⟨v, List.getElem?_set_self (by rw [← R.len]; exact hl), h⟩
  · rw [List.getElem?_set_ne (Ne.symm hk)] at e
    obtain ⟨u, h1, h2⟩ := R.slot k sl e
    exact ⟨u, by rw [List.getElem?_set_ne (Ne.symm hk)]; exact h1, h2⟩
/-- an object of nobody's becomes slot i's -/
theorem Rel.give {i : Nat} {a : Addr} (S : Step F0 I0 H0 F I H) (R : Rel p F I H σ ρ) (h : Own p F I H none (fun b => H0 b = none) a c) :
    ∃ F', Step F0 I0 H0 F' I H ∧ Rel p F' I H (σ.set i (some (.ref a))) (ρ.set i (some (.own c))) := by
  obtain ⟨fp, h1, h2⟩ := h
  let F2 : Lab := fun b => if b ∈ fp then some i else F b
  have e1 : ∀ b ∈ fp, F2 b = some i := fun b hb => if_pos hb
  have e2 : ∀ b, b ∉ fp → F2 b = F b := fun b hb => if_neg hb
  have old : ∀ b k, F b = some k → b ∉ fp := fun b k z hb => by rw [(h2 b hb).1] at z; cases z
  have R2 : Rel p F2 I H σ ρ := by
    refine ⟨R.sub, fun b j z => ?_, R.len, fun k sl z => ?_⟩
    · by_cases hb : b ∈ fp
      · exact ⟨(h2 b hb).2.1, (h2 b hb).2.2.2⟩
      · rw [e2 b hb] at z; exact R.lab b j z
    · obtain ⟨u, g1, g2⟩ := R.slot k sl z
      refine ⟨u, g1, ?_⟩
      have own : ∀ {b : Addr} {c : C}, Own p F I H (some k) (fun _ => True) b c → Own p F2 I H (some k) (fun _ => True) b c := fun {b c} ⟨fp', y1, y2⟩ =>
        ⟨fp', y1, fun x hx => ⟨by rw [e2 x (old x k (y2 x hx).1)]; exact (y2 x hx).1, (y2 x hx).2⟩⟩
      cases sl with
      | d d => exact g2
      | own c => obtain ⟨b, e, g2⟩ := g2; exact ⟨b, e, own g2⟩
      | lent b c => exact ⟨g2.1, own g2.2⟩
      | exc x => exact g2
  refine ⟨F2, ⟨S.keep, S.inc, S.newI, fun b j z => ?_, S.there⟩, R2.setD (s := .own c) ⟨a, rfl, fp, h1, fun b hb => ⟨e1 b hb, (h2 b hb).2.1, trivial, (h2 b hb).2.2.2⟩⟩⟩
  by_cases hb : b ∈ fp
  · exact .inr (h2 b hb).2.2.1
  · rw [e2 b hb] at z; exact S.lab b j z
theorem setK_ok {i : Nat} {k : Rho → Prop} (S : Step F0 I0 H0 F I H) (R : Rel p F I H σ ρ) (r : ResOk p F I H0 H σ v o) (h : setK ρ i o k) :
    ∃ F' I' ρ', Step F0 I0 H0 F' I' H ∧ Rel p F' I' H (σ.set i (some v)) ρ' ∧ k ρ' := by
  cases o with
  | d d => exact ⟨F, I, _, S, R.setD (s := .d d) r, h⟩
  | exc x => exact ⟨F, I, _, S, R.setD (s := .exc x) r, h⟩
  | tmp c =>
    obtain ⟨a, rfl, r⟩ := r
    obtain ⟨F', s', R'⟩ := R.give (i := i) S r
    exact ⟨F', I, _, s', R', h⟩
  | loc j =>
    obtain ⟨d, ρ', e, h⟩ := frzK_of h
    obtain ⟨F', I', s', R', r'⟩ := freeze S R r e
    exact ⟨F', I', _, s', R'.setD (s := .d d) r', h⟩
end

/-! ### statements -/
def dNext : DS := fun E ρ => E.nx ρ
def dSeq (f g : DS) : DS := fun E ρ => f { E with nx := fun ρ' => g E ρ' } ρ
def dExpr (f : DE) : DS := fun E ρ => f ρ (fun _ ρ1 => E.nx ρ1) E.ex
def dRet (f : DE) : DS := fun E ρ => f ρ (fun o ρ1 => E.rt o ρ1) E.ex
def dRetN : DS := fun E ρ => E.rt (.d .none) ρ
def dIf (t : DT) (f g : DS) : DS := fun E ρ => t ρ (fun c ρ1 => (c = true → f E ρ1) ∧ (c = false → g E ρ1)) E.ex
def dSet (i : Nat) (f : DE) : DS := fun E ρ => f ρ (fun o ρ1 => setK ρ1 i o E.nx) E.ex
def dBreak : DS := fun E ρ => E.bk ρ
def dCont : DS := fun E ρ => E.ct ρ
/-- x op= e of an int (a text, a list: as the operation says) -/
def dAug (i : Nat) (op : D2) (f : DE) : DS := fun E ρ => match ρ[i]? with
  | some (some (.d d)) => f ρ (fun o ρ1 => vw1 ρ1 o fun e => op d e fun o2 => setK ρ1 i o2 E.nx) E.ex
  | _ => False
def iaddD : D2 := fun d e P => match d, e with
  | .int i, .int j => P (.d (.int (i + j)))
  | _, _ => False
def isubD : D2 := fun d e P => match d, e with
  | .int i, .int j => P (.d (.int (i - j)))
  | _, _ => False
section
variable {p : Pm} {W : WX}
theorem w_next (D : Ends) (σ : L2.St) (H : Hp) (q : tS p W dNext D σ H) : tNext D σ H := by
  obtain ⟨F, I, ρ, E, R, f, k⟩ := q
  exact k.nx ρ σ F I H f (Step.refl ..) R
theorem w_seq {f g : DS} (D : Ends) (σ : L2.St) (H : Hp) (q : tS p W (dSeq f g) D σ H) : tSeq (tS p W f) (tS p W g) D σ H := by
  obtain ⟨F, I, ρ, E, R, f, k⟩ := q
  exact ⟨F, I, ρ, _, R, f, ⟨fun ρ' σ' F' I' H' h s' R' => ⟨F', I', ρ', E, R', h, k.later s'⟩, k.bk, k.ct, k.rt, k.ex⟩⟩
theorem w_expr {f : DE} (D : Ends) (σ : L2.St) (H : Hp) (q : tS p W (dExpr f) D σ H) : tDrop (tE p W f) D σ H := by
  obtain ⟨F, I, ρ, E, R, f, k⟩ := q
  exact ⟨F, I, ρ, _, E.ex, R, f, fun o ρ' v F' I' H' h s' R' r' => k.nx ρ' σ F' I' H' h s' R', k.xend⟩
theorem w_ret {f : DE} (D : Ends) (σ : L2.St) (H : Hp) (q : tS p W (dRet f) D σ H) : tRet (tE p W f) D σ H := by
  obtain ⟨F, I, ρ, E, R, f, k⟩ := q
  exact ⟨F, I, ρ, _, E.ex, R, f, fun o ρ' v F' I' H' h s' R' r' => k.rt o ρ' v σ F' I' H' h s' R' r', k.xend⟩
theorem w_retN (D : Ends) (σ : L2.St) (H : Hp) (q : tS p W dRetN D σ H) : tRetN D σ H := by
  obtain ⟨F, I, ρ, E, R, f, k⟩ := q
  exact k.rt (.d .none) ρ .non σ F I H f (Step.refl ..) R .non
theorem w_if {t : DT} {f g : DS} (D : Ends) (σ : L2.St) (H : Hp) (q : tS p W (dIf t f g) D σ H) : tIfS (tT p W t) (tS p W f) (tS p W g) D σ H := by
  obtain ⟨F, I, ρ, E, R, f, k⟩ := q
  refine ⟨F, I, ρ, _, E.ex, R, f, fun c ρ' F' I' H' h s' R' => ?_, k.xend⟩
  cases c with
  | true => exact iteT ⟨F', I', ρ', E, R', h.1 rfl, k.later s'⟩
  | false => exact iteF ⟨F', I', ρ', E, R', h.2 rfl, k.later s'⟩
theorem w_set {i : Nat} {f : DE} (D : Ends) (σ : L2.St) (H : Hp) (q : tS p W (dSet i f) D σ H) : tAsg (tE p W f) (gName i) D σ H := by
  obtain ⟨F, I, ρ, E, R, f, k⟩ := q
  refine ⟨F, I, ρ, _, E.ex, R, f, fun o ρ' v F' I' H' h s' R' r' => ?_, k.xend⟩
  obtain ⟨F2, I2, ρ2, s2, R2, h2⟩ := setK_ok s' R' r' h
  exact k.nx ρ2 _ F2 I2 H' h2 s2 R2
theorem w_break (D : Ends) (σ : L2.St) (H : Hp) (q : tS p W dBreak D σ H) : tBreak D σ H := by
  obtain ⟨F, I, ρ, E, R, f, k⟩ := q
  exact k.bk ρ σ F I H f (Step.refl ..) R
theorem w_cont (D : Ends) (σ : L2.St) (H : Hp) (q : tS p W dCont D σ H) : tCont D σ H := by
  obtain ⟨F, I, ρ, E, R, f, k⟩ := q
  exact k.ct ρ σ F I H f (Step.refl ..) R
/-- an in-place operation by values -/
def IpS (p : Pm) (r : TIp) (f : D2) : Prop := ∀ F I H σ ρ v w d e P Q, Rel p F I H σ ρ → Dd p I v d → Dd1 p I H w e → f d e P → Kont p F I H σ ρ P Q → r v w H Q
theorem w_aug {i : Nat} {r : TIp} {op : D2} {f : DE} (hs : IpS p r op) (D : Ends) (σ : L2.St) (H : Hp) (q : tS p W (dAug i op f) D σ H) : tAug i (tE p W f) r D σ H := by
  obtain ⟨F, I, ρ, E, R, f1, k⟩ := q
  unfold dAug at f1
  split at f1
  · rename_i d e
    obtain ⟨v, h1, h2⟩ := R.slot _ _ e
    refine ⟨v, h1, F, I, ρ, _, E.ex, R, f1, fun o ρ' w F' I' H' h s' R' r' => ?_, k.xend⟩
    obtain ⟨e, e1, h⟩ := vw1_of h
    refine hs F' I' H' σ ρ' v w d e _ _ R' (Dd.mono s'.inc h2) (vw_ok R' r' e1) h fun o2 v2 I2 H2 h s2 R2 r2 => ?_
    obtain ⟨F3, I3, ρ3, s3, R3, h3⟩ := setK_ok (s'.trans s2) R2 (r2.older fun b z => s'.old z) h
    exact k.nx ρ3 _ F3 I3 H2 h3 s3 R3
  · exact f1.elim
theorem s_iadd : IpS p (ipI fun i j => i + j) iaddD := by
  intro F I H σ ρ v w d e P Q R h1 h2 h k
  unfold iaddD at h
  split at h
  · cases h1; exact ⟨_, _, rfl, h2.int, k.flat R h (.int _)⟩
  · exact h.elim
theorem s_isub : IpS p (ipI fun i j => i - j) isubD := by
  intro F I H σ ρ v w d e P Q R h1 h2 h k
  unfold isubD at h
  split at h
  · cases h1; exact ⟨_, _, rfl, h2.int, k.flat R h (.int _)⟩
  · exact h.elim
end
section
variable {X : Cx} {G : V → Nat → Option Addr → Prop} {W : WX} {pos pos' : Pos} {a c : Expr} {fa : DE} {t : DT} {st : Stmt} {rest b1 b2 : List Stmt} {f g : DS}
theorem z_nil : PSsd X G W [] dNext := PSs.weak pss_nil w_next
theorem z_cons (h1 : PSd X G W st f) (h2 : PSsd X G W rest g) : PSsd X G W (st :: rest) (dSeq f g) := PSs.weak (pss_cons h1 h2) w_seq
theorem z_one (h1 : PSd X G W st f) : PSsd X G W [st] f := pss_one h1
theorem z_pass : PSd X G W (.Pass pos) dNext := PS.weak ps_pass w_next
theorem z_break : PSd X G W (.Break pos) dBreak := PS.weak ps_break w_break
theorem z_cont : PSd X G W (.Continue pos) dCont := PS.weak ps_continue w_cont
theorem z_expr (h : PEd X G W a fa) (hs : swapsWith a none pos.line X.env = pure false := by rfl) : PSd X G W (.Expr a pos) (dExpr fa) := PS.weak (ps_expr h hs) w_expr
theorem z_ret (h : PEd X G W a fa) : PSd X G W (.Return (some a) pos) (dRet fa) := PS.weak (ps_ret h) w_ret
theorem z_retN : PSd X G W (.Return none pos) dRetN := PS.weak ps_retN w_retN
theorem z_if (hc : PTd X G W c t) (h1 : PSsd X G W b1 f) (h2 : PSsd X G W b2 g) : PSd X G W (.If c b1 b2 pos) (dIf t f g) := PS.weak (ps_if hc h1 h2) w_if
theorem z_set {i : Nat} {x : Str} (hN : X.N.Nodup) (hi : X.N[i]? = some x) (hx : Loc X.env.scope x) (h : PEd X G W a fa) (hs : swapsWith a (some (.Name x pos')) pos.line X.env = pure false := by rfl)
    (hf : X.fn x = true ∨ X.env.scope.names.lookup x = some .local := by first | exact .inl rfl | exact .inr rfl) : PSd X G W (.Assign [.Name x pos'] a pos) (dSet i fa) := PS.weak (ps_set hN hi hx h hs hf) w_set
theorem z_aug {i : Nat} {x : Str} {op : Operator} {r : TIp} {f : D2} (hN : X.N.Nodup) (hi : X.N[i]? = some x) (hx : Loc X.env.scope x) (h : PEd X G W a fa) (ho : PIp X op r) (hs : IpS (pm X G) r f)
    (hf : X.fn x = true ∨ X.env.scope.names.lookup x = some .local := by first | exact .inl rfl | exact .inr rfl) : PSd X G W (.AugAssign (.Name x pos') op a pos) (dAug i f fa) := PS.weak (ps_aug hN hi hx h ho hf) (w_aug hs)
end

/-! ### where a proof stops -/
@[irreducible] def stp (b : DS) : DS := b
theorem stp_in {b : DS} {E : DEnds} {ρ : Rho} (h : b E ρ) : stp b E ρ := by unfold stp; exact h
theorem z_stp {X : Cx} {G : V → Nat → Option Addr → Prop} {W : WX} {ss : List Stmt} {b : DS} (h : PSsd X G W ss b) : PSsd X G W ss (stp b) := by unfold stp; exact h

/-! ### targets -/
abbrev DG := D → Rho → (Rho → Prop) → Prop
def dgName (i : Nat) : DG := fun d ρ P => P (ρ.set i (some (.d d)))
def dgs : List DG → List D → Rho → (Rho → Prop) → Prop
  | [], [], ρ, P => P ρ
  | g :: gs, d :: ds, ρ, P => g d ρ (fun ρ1 => dgs gs ds ρ1 P)
  | _, _, _, _ => False
def dgTup (gs : List DG) : DG := fun d ρ P => match d with
  | .tuple ds => ds.length = gs.length ∧ dgs gs ds ρ P
  | _ => False
/-- a tuple that is there to be taken apart -/
def ItemT (p : Pm) (I H : Hp) (v : V) (d : D) : Prop := ∃ T xs ds, v = .ref T ∧ d = .tuple ds ∧ SqT p.K H T xs ∧ DdAll p I xs ds
def Item (p : Pm) (strong : Bool) (I H : Hp) (v : V) (d : D) : Prop := if strong = true then Dd p I v d else ItemT p I H v d
theorem itemT_of {p : Pm} {I H : Hp} {v : V} {ds : List D} (s : Same I H) (h : Dd p I v (.tuple ds)) : ItemT p I H v (.tuple ds) := by
  cases h with
  | tup h z hs => exact ⟨_, _, ds, rfl, rfl, sqF (s _ _ h), hs⟩
def tG (p : Pm) (strong : Bool) (vs : List Nat) (g : DG) : TG := fun v σ H Q => ∃ F I ρ d P, Rel p F I H σ ρ ∧ Item p strong I H v d ∧ g d ρ P ∧
  ∀ ρ' σ', P ρ' → Rel p F I H σ' ρ' → wipe σ' vs = wipe σ vs → Q σ' H
def tGs (p : Pm) (vs : List Nat) (gs : List DG) : TGs := fun us σ H Q => ∃ F I ρ ds P, Rel p F I H σ ρ ∧ DdAll p I us ds ∧ dgs gs ds ρ P ∧
  ∀ ρ' σ', P ρ' → Rel p F I H σ' ρ' → wipe σ' vs = wipe σ vs → Q σ' H
abbrev PGd (X : Cx) (G : V → Nat → Option Addr → Prop) (strong : Bool) (vs : List Nat) (e : Expr) (g : DG) : Prop := PG X e (tG (pm X G) strong vs g)
abbrev PGsd (X : Cx) (G : V → Nat → Option Addr → Prop) (vs : List Nat) (es : List Expr) (gs : List DG) : Prop := PGs X es (tGs (pm X G) vs gs)
theorem PG.weak {X : Cx} {e : Expr} {t t' : TG} (h : PG X e t) (w : ∀ v σ H Q, t' v σ H Q → t v σ H Q) : PG X e t' := ⟨fun pins s σ H v u Q I r q => h.run pins s σ H v u Q I r (w v σ H Q q)⟩
theorem PGs.weak {X : Cx} {e : List Expr} {t t' : TGs} (h : PGs X e t) (w : ∀ v σ H Q, t' v σ H Q → t v σ H Q) : PGs X e t' := ⟨fun pins s σ H v u Q I r q => h.run pins s σ H v u Q I r (w v σ H Q q)⟩
theorem wipe_get : ∀ {vs : List Nat} {σ : L2.St} {k : Nat}, (wipe σ vs)[k]? = if k ∈ vs ∧ k < σ.length then some none else σ[k]?
  | [], σ, k => by simp [wipe]
  | v :: vs, σ, k => by
    have ih := wipe_get (vs := vs) (σ := σ) (k := k)
    unfold wipe
    by_cases hk : v = k
    · subst hk
      by_cases hl : v < σ.length
      · rw [List.getElem?_set_self (by rw [wipe_length]; exact hl)]
        simp [hl]
      · rw [List.getElem?_eq_none (by rw [List.length_set, wipe_length]; omega), if_neg (by intro z; exact hl z.2), List.getElem?_eq_none (by omega)]
    · rw [List.getElem?_set_ne hk, ih]
      have : k ≠ v := fun z => hk z.symm
      simp [this]
theorem wipe_set {vs : List Nat} {σ : L2.St} {i : Nat} {x : Option V} (h : i ∈ vs) : wipe (σ.set i x) vs = wipe σ vs := by
  apply List.ext_getElem?
  intro k
  rw [wipe_get, wipe_get, List.length_set]
  by_cases hk : k ∈ vs ∧ k < σ.length
  · rw [if_pos hk, if_pos hk]
  · rw [if_neg hk, if_neg hk]
    by_cases e : i = k
    · subst e
      have : ¬ i < σ.length := fun z => hk ⟨h, z⟩
      rw [List.getElem?_eq_none (by rw [List.length_set]; omega), List.getElem?_eq_none (by omega)]
    · rw [List.getElem?_set_ne e]
section
variable {X : Cx} {G : V → Nat → Option Addr → Prop} {W : WX} {pos : Pos} {vs : List Nat} {e : Expr} {es : List Expr} {g : DG} {gs : List DG}
theorem g_name {i : Nat} {x : Str} (hN : X.N.Nodup) (hi : X.N[i]? = some x) (hx : Loc X.env.scope x) (hv : i ∈ vs) (hf : X.fn x = true ∨ X.env.scope.names.lookup x = some .local := by first | exact .inl rfl | exact .inr rfl) : PGd X G true vs (.Name x pos) (dgName i) := PG.weak (pg_name hN hi hx hf) fun v σ H Q q => by
  obtain ⟨F, I, ρ, d, P, R, r, h, k⟩ := q
  exact k _ _ h (R.setD (s := .d d) r) (wipe_set hv)
theorem g_nil : PGsd X G vs [] [] := PGs.weak pgs_nil fun us σ H Q q => by
  obtain ⟨F, I, ρ, ds, P, R, r, h, k⟩ := q
  cases r with
  | nil => exact ⟨rfl, k ρ σ h R rfl⟩
  | cons _ _ => exact h.elim
theorem g_cons (h1 : PGd X G true vs e g) (h2 : PGsd X G vs es gs) (hs : (assignEach (e :: es) X.env).map (·.2) = assign e X.env :: (assignEach es X.env).map (·.2) := by rfl) : PGsd X G vs (e :: es) (g :: gs) := PGs.weak (pgs_cons h1 h2 hs) fun us σ H Q q => by
  obtain ⟨F, I, ρ, ds, P, R, r, h, k⟩ := q
  cases r with
  | nil => exact h.elim
  | cons r rs =>
    refine ⟨_, _, rfl, F, I, ρ, _, _, R, r, h, fun ρ1 σ1 h1 R1 w1 => ?_⟩
    exact ⟨F, I, ρ1, _, P, R1, rs, h1, fun ρ2 σ2 h2 R2 w2 => k ρ2 σ2 h2 R2 (w2.trans w1)⟩
theorem g_tup {k : Nat} {n : Nat} (hc : X.calm = true) (h : PGsd X G vs es gs) (hl : gs.length = n) (hn : (assignEach es X.env).length = n := by rfl) (hst : (assignEach es X.env).findIdx? (·.1) = none := by rfl) : PGd X G false vs (.Tuple es k pos) (dgTup gs) := PG.weak (pg_tup (n := n) hc h hn hst) fun v σ H Q q => by
  obtain ⟨F, I, ρ, d, P, R, r, h, k⟩ := q
  obtain ⟨T, xs, ds, rfl, rfl, hT, hs⟩ : ItemT (pm X G) I H v d := by simpa [Item] using r
  refine ⟨T, xs, rfl, hT, ?_, F, I, ρ, ds, P, R, hs, h.2, k⟩
  rw [hs.length, h.1, hl]
theorem g_strong (h : PGd X G false vs e (dgTup gs)) : PGd X G true vs e (dgTup gs) := PG.weak h fun v σ H Q q => by
  obtain ⟨F, I, ρ, d, P, R, r, h, k⟩ := q
  refine ⟨F, I, ρ, d, P, R, ?_, h, k⟩
  have r : Dd (pm X G) I v d := by simpa [Item] using r
  cases d with
  | tuple ds => simpa [Item] using itemT_of R.sub r
  | _ => exact h.elim
end
end Dt

namespace Dt
open PySem PySem.Spec PyProof.Rows L2

/-! ### what a loop walks -/
/-- nothing that is tracked is too long -/
def Big (H : Hp) : Prop := ∀ a xs, (H a = some (.lst xs) ∨ ∃ o, H a = some (.frz o (.tup xs))) → xs.length ≤ sizeLine
theorem Inv.big {X : Cx} {pins : List (Addr × Obj)} {σ : L2.St} {H : Hp} {s : Shared} (I : Inv X pins σ H s) : Big H := fun a xs h => by
  rcases h with h | ⟨o, h⟩
  · exact (I.hok a _ h).1
  · exact (I.hok a _ h).2.1
theorem PI.weak {X : Cx} {tg e : Expr} {t t' : TI} (h : PI X tg e t) (w : ∀ σ H R, t' σ H R → t σ H fun J H1 => Big H1 → R J H1) : PI X tg e t' := ⟨fun pins s σ H R I q =>
  thn (h.run pins s σ H _ I (w σ H R q)) fun v s1 h1 => thn h1 fun itv s2 ⟨it, fp, tn, J, H', e, I2, T, st, f2, r⟩ => ⟨it, fp, tn, J, H', e, I2, T, st, f2, r (Inv.big I2)⟩⟩
abbrev DI := Rho → (List D → Rho → Prop) → (Exn → Rho → Prop) → Prop
/-- J walks the data ds -/
structure ItW (p : Pm) (strong : Bool) (J : It) (F : Lab) (I H : Hp) (ds : List D) : Prop where
  ex : ∃ G Y, Walk J ds.length G Y ∧ (∀ F' I' H', Step F I H F' I' H' → Same I' H' → G H') ∧
    ∀ i H1 x H2, i < ds.length → Y i H1 x H2 → ∀ F1 I1, Step F I H F1 I1 H1 → Same I1 H1 → (∀ a j, F1 a = some j → I1 a = none ∧ H1 a ≠ none) →
      ∃ I2 d, ds[i]? = some d ∧ Same H1 H2 ∧ Same I1 I2 ∧ Same I2 H2 ∧ (∀ a, I2 a ≠ none → I1 a ≠ none ∨ H1 a = none) ∧ Item p strong I2 H2 x d
  big : ds.length ≤ sizeLine
def tI (p : Pm) (W : WX) (strong : Bool) (f : DI) : TI := fun σ H R => ∃ F I ρ P PX, Rel p F I H σ ρ ∧ f ρ P PX ∧
  (∀ ds ρ' F' I' H' J, P ds ρ' → Step F I H F' I' H' → Rel p F' I' H' σ ρ' → ItW p strong J F' I' H' ds → R J H') ∧ XEnd p W F I H σ PX
abbrev PId (X : Cx) (G : V → Nat → Option Addr → Prop) (W : WX) (strong : Bool) (tg e : Expr) (f : DI) : Prop := PI X tg e (tI (pm X G) W strong f)
/-- a list's or a tuple's items -/
def itemsK (ρ : Rho) (o : O) (k : List D → Prop) : Prop := match o with
  | .d (.list ds) => k ds
  | .d (.tuple ds) => k ds
  | .tmp (.lst ds) => k ds
  | _ => False
def dItL (f : DE) : DI := fun ρ P PX => f ρ (fun o ρ1 => match o with
  | .d (.list ds) => P ds ρ1
  | .tmp (.lst ds) => P ds ρ1
  | _ => False) PX
def dItT (f : DE) : DI := fun ρ P PX => f ρ (fun o ρ1 => match o with
  | .d (.tuple ds) => P ds ρ1
  | _ => False) PX
def dItR1 (g : DA) : DI := fun ρ P PX => g ρ (fun os ρ1 => match os with
  | [.d (.int n)] => (-(2 ^ 62) ≤ n ∧ n < 2 ^ 62 ∧ n ≤ 16000000) ∧ P ((List.range n.toNat).map fun i => PyData.int (i : Nat)) ρ1
  | _ => False) PX
def dItR2 (g : DA) : DI := fun ρ P PX => g ρ (fun os ρ1 => match os with
  | [.d (.int m), .d (.int n)] => (-(2 ^ 62) ≤ m ∧ m < 2 ^ 62 ∧ -(2 ^ 62) ≤ n ∧ n < 2 ^ 62 ∧ n - m ≤ 16000000) ∧ P ((List.range (n - m).toNat).map fun i => PyData.int (m + (i : Nat))) ρ1
  | _ => False) PX
def dItR3 (g : DA) : DI := fun ρ P PX => g ρ (fun os ρ1 => match os with
  | [.d (.int m), .d (.int n), .d (.int (-1))] => (-(2 ^ 62) ≤ m ∧ m < 2 ^ 62 ∧ -(2 ^ 62) ≤ n ∧ n < 2 ^ 62 ∧ m - n ≤ 16000000) ∧ P ((List.range (m - n).toNat).map fun i => PyData.int (m - (i : Nat))) ρ1
  | _ => False) PX
section
variable {p : Pm} {F F' F0 : Lab} {I I' I0 H0 H1 H H' : Hp} {σ : L2.St} {ρ ρ' : Rho}
theorem itw_list {a : Addr} {ds : List D} {vs : List V} (h : ∀ F' I' H', Step F I H F' I' H' → Same I' H' → SqL p.K H' a vs) (r : DdAll p I vs ds) (z : vs.length ≤ sizeLine) : ItW p true (Itl p.K a) F I H ds where
  ex := by
    refine ⟨fun H => SqL p.K H a vs, YAt vs, by rw [← r.length]; exact walk_list, h, fun i H1 x H2 hi hy F1 I1 s1 s2 _ => ?_⟩
    obtain ⟨rfl, hx⟩ := hy
    obtain ⟨d, h1, h2⟩ := r.getV hx
    exact ⟨I1, d, h1, fun _ _ e => e, fun _ _ e => e, s2, fun _ e => .inl e, Dd.mono s1.inc h2⟩
  big := by rw [← r.length]; exact z
theorem itw_tup {a : Addr} {ds : List D} {vs : List V} (h : ∀ F' I' H', Step F I H F' I' H' → Same I' H' → SqT p.K H' a vs) (r : DdAll p I vs ds) (z : vs.length ≤ sizeLine) : ItW p true (Itt p.K a) F I H ds where
  ex := by
    refine ⟨fun H => SqT p.K H a vs, YAt vs, by rw [← r.length]; exact walk_tup, h, fun i H1 x H2 hi hy F1 I1 s1 s2 _ => ?_⟩
    obtain ⟨rfl, hx⟩ := hy
    obtain ⟨d, h1, h2⟩ := r.getV hx
    exact ⟨I1, d, h1, fun _ _ e => e, fun _ _ e => e, s2, fun _ e => .inl e, Dd.mono s1.inc h2⟩
  big := by rw [← r.length]; exact z
theorem itw_fn {n : Nat} {f : Nat → Int} {J : It} (w : Walk J n (fun _ => True) (YFn fun i => .int (f i))) (z : n ≤ sizeLine) : ItW p true J F I H ((List.range n).map fun i => PyData.int (f i)) where
  ex := by
    refine ⟨fun _ => True, YFn fun i => .int (f i), by rw [List.length_map, List.length_range]; exact w, fun _ _ _ _ _ => trivial, fun i H1 x H2 hi hy F1 I1 s1 s2 _ => ?_⟩
    obtain ⟨rfl, rfl⟩ := hy
    refine ⟨I1, .int (f i), ?_, fun _ _ e => e, fun _ _ e => e, s2, fun _ e => .inl e, .int _⟩
    rw [List.length_map, List.length_range] at hi
    simp [hi]
  big := by rw [List.length_map, List.length_range]; exact z
end
section
variable {X : Cx} {G : V → Nat → Option Addr → Prop} {W : WX} {pos pos' : Pos} {tg a b c : Expr} {fa : DE} {g : DA}
theorem i_list (h : PEd X G W a fa) : PId X G W true tg a (dItL fa) := PI.weak (pi_list h) fun σ H R q => by
  obtain ⟨F, I, ρ, P, PX, RR, f1, k, x⟩ := q
  refine ⟨F, I, ρ, _, PX, RR, f1, fun o ρ1 v F1 I1 H1 f2 s1 R1 r1 => ?_, x⟩
  split at f2
  · cases r1 with
    | lst e r =>
      rename_i a vs
      exact ⟨a, rfl, ⟨_, SqL.of (R1.sub _ _ e)⟩, fun big => k _ ρ1 F1 I1 H1 _ f2 s1 R1 (itw_list (fun F' I' H' s s2 => SqL.of (s2 _ _ (s.inc _ _ e))) r (big _ _ (.inl (R1.sub _ _ e))))⟩
  · obtain ⟨a, rfl, fp, ⟨rfl, vs, e, r⟩, hf⟩ := r1
    exact ⟨a, rfl, ⟨_, SqL.of e⟩, fun big => k _ ρ1 F1 I1 H1 _ f2 s1 R1 (itw_list (fun F' I' H' s s2 => SqL.of (s.keep _ _ e (hf a (by simp)).1)) r (big _ _ (.inl e)))⟩
  · exact f2.elim
theorem i_tup (h : PEd X G W a fa) : PId X G W true tg a (dItT fa) := PI.weak (pi_tup h) fun σ H R q => by
  obtain ⟨F, I, ρ, P, PX, RR, f1, k, x⟩ := q
  refine ⟨F, I, ρ, _, PX, RR, f1, fun o ρ1 v F1 I1 H1 f2 s1 R1 r1 => ?_, x⟩
  split at f2
  · cases r1 with
    | tup e z r =>
      rename_i a o vs
      exact ⟨a, rfl, ⟨_, sqF (R1.sub _ _ e)⟩, fun big => k _ ρ1 F1 I1 H1 _ f2 s1 R1 (itw_tup (fun F' I' H' s s2 => sqF (s2 _ _ (s.inc _ _ e))) r (big _ _ (.inr ⟨_, R1.sub _ _ e⟩)))⟩
  · exact f2.elim
theorem i_r1 (hg : Gl X "range") (hm : X.mg "range" = none) (ha : PAd X G W [a] g) (hs : starEach [a] X.env = [(false, eval a X.env)] := by rfl) : PId X G W true tg (.Call (.Name "range" pos') [a] [] pos) (dItR1 g) := PI.weak (pi_range1 hg hm ha hs) fun σ H R q => by
  obtain ⟨F, I, ρ, P, PX, RR, f1, k, x⟩ := q
  have sl : (sizeLine : Nat) = 16777216 := sizeLine_eq
  refine ⟨F, I, ρ, _, PX, RR, f1, fun os ρ1 vs F1 I1 H1 f2 s1 R1 r1 => ?_, x⟩
  split at f2
  · cases r1 with
    | cons r rr =>
      cases rr
      cases r
      refine ⟨_, rfl, f2.1.1, f2.1.2.1, fun _ => k _ ρ1 F1 I1 H1 _ f2.2 s1 R1 ?_⟩
      have w := walk_range (lo := 0) (n := (‹Int›).toNat)
      refine itw_fn (f := fun i => ((i : Nat) : Int)) ⟨w.goes, w.stops, fun i H x H' h1 h2 h3 => ?_⟩ (by have := f2.1.2.2; omega)
      obtain ⟨e1, e2⟩ := w.yields i H x H' h1 h2 h3
      exact ⟨e1, by rw [e2]; simp⟩
  · exact f2.elim
theorem i_r2 (hg : Gl X "range") (hm : X.mg "range" = none) (ha : PAd X G W [a, b] g) (hs : starEach [a, b] X.env = [(false, eval a X.env), (false, eval b X.env)] := by rfl) (hs2 : starEach [b] X.env = [(false, eval b X.env)] := by rfl) :
    PId X G W true tg (.Call (.Name "range" pos') [a, b] [] pos) (dItR2 g) := PI.weak (pi_range2 hg hm ha hs hs2) fun σ H R q => by
  obtain ⟨F, I, ρ, P, PX, RR, f1, k, x⟩ := q
  have sl : (sizeLine : Nat) = 16777216 := sizeLine_eq
  refine ⟨F, I, ρ, _, PX, RR, f1, fun os ρ1 vs F1 I1 H1 f2 s1 R1 r1 => ?_, x⟩
  split at f2
  · rename_i m n
    cases r1 with
    | cons r rr =>
      cases rr with
      | cons r' rr =>
        cases rr
        cases r
        cases r'
        refine ⟨m, n, rfl, ⟨f2.1.1, f2.1.2.1, f2.1.2.2.1, f2.1.2.2.2.1⟩, fun _ => k _ ρ1 F1 I1 H1 _ f2.2 s1 R1 ?_⟩
        exact itw_fn (f := fun i => m + ((i : Nat) : Int)) walk_range (by have := f2.1.2.2.2.2; omega)
  · exact f2.elim
theorem i_r3 (hg : Gl X "range") (hm : X.mg "range" = none) (ha : PAd X G W [a, b, c] g) (hs : starEach [a, b, c] X.env = (false, eval a X.env) :: starEach [b, c] X.env := by rfl) (hpl : (backTo pos (starEach [b, c] X.env)).any (·.1) = false := by rfl) :
    PId X G W true tg (.Call (.Name "range" pos') [a, b, c] [] pos) (dItR3 g) := PI.weak (pi_range3 hg hm ha hs hpl) fun σ H R q => by
  obtain ⟨F, I, ρ, P, PX, RR, f1, k, x⟩ := q
  have sl : (sizeLine : Nat) = 16777216 := sizeLine_eq
  refine ⟨F, I, ρ, _, PX, RR, f1, fun os ρ1 vs F1 I1 H1 f2 s1 R1 r1 => ?_, x⟩
  split at f2
  · rename_i m n
    cases r1 with
    | cons r rr =>
      cases rr with
      | cons r' rr =>
        cases rr with
        | cons r'' rr =>
          cases rr
          cases r
          cases r'
          cases r''
          refine ⟨m, n, -1, (m - n).toNat, rfl, RgC.neg f2.1.1 f2.1.2.1 f2.1.2.2.1 f2.1.2.2.2.1, fun _ => k _ ρ1 F1 I1 H1 _ f2.2 s1 R1 ?_⟩
          have w := walk_rangeC (lo := m) (c := -1) (n := (m - n).toNat)
          refine itw_fn (f := fun i => m - ((i : Nat) : Int)) ⟨w.goes, w.stops, fun i H x H' h1 h2 h3 => ?_⟩ (by have := f2.1.2.2.2.2; omega)
          obtain ⟨e1, e2⟩ := w.yields i H x H' h1 h2 h3
          have e3 : m + ((i : Nat) : Int) * (-1) = m - ((i : Nat) : Int) := by omega
          exact ⟨e1, by rw [e2]; show V.int _ = V.int _; rw [e3]⟩
  · exact f2.elim
end

/-! ### for -/
def forGo0 (g : DG) (b : DS) (E : DEnds) : List D → Rho → Prop
  | [], ρ => E.nx ρ
  | d :: ds, ρ => g d ρ fun ρ1 => b { E with nx := forGo0 g b E ds, ct := forGo0 g b E ds, bk := E.nx } ρ1
@[irreducible] def forGo (g : DG) (b : DS) (E : DEnds) (ds : List D) (ρ : Rho) : Prop := forGo0 g b E ds ρ
theorem forGo_nilE (g : DG) (b : DS) (E : DEnds) (ρ : Rho) : forGo g b E [] ρ = E.nx ρ := by unfold forGo; rfl
theorem forGo_consE (g : DG) (b : DS) (E : DEnds) (d : D) (ds : List D) (ρ : Rho) : forGo g b E (d :: ds) ρ = g d ρ fun ρ1 => b { E with nx := forGo g b E ds, ct := forGo g b E ds, bk := E.nx } ρ1 := by
  have e : forGo g b E ds = forGo0 g b E ds := by funext ρ; unfold forGo; rfl
  rw [e]; unfold forGo; rfl
def dFor (i : DI) (g : DG) (b : DS) : DS := fun E ρ => i ρ (fun ds ρ1 => forGo g b E ds ρ1) E.ex
theorem ItW.more {p : Pm} {F1 : Lab} {I1 H1 I2 H2 : Hp} {σ : L2.St} {ρ : Rho} (R : Rel p F1 I1 H1 σ ρ) (h : Same H1 H2) (i : Same I1 I2) (s : Same I2 H2) (n : ∀ a, I2 a ≠ none → I1 a ≠ none ∨ H1 a = none) : Rel p F1 I2 H2 σ ρ ∧ Step F1 I1 H1 F1 I2 H2 :=
  ⟨R.more h i s n, Step.more R h i n⟩
section
variable {p : Pm} {W : WX}
theorem w_for {strong : Bool} {vs : List Nat} {i : DI} {g : DG} {b : DS} (D : Ends) (σ : L2.St) (H : Hp) (q : tS p W (dFor i g b) D σ H) : tFor (tI p W strong i) (tG p strong vs g) (tS p W b) D σ H := by
  obtain ⟨F, I, ρ, E, R, f, k⟩ := q
  refine ⟨F, I, ρ, _, E.ex, R, f, fun ds ρ1 F1 I1 H1 J h s1 R1 w => ?_, k.xend⟩
  obtain ⟨Gg, Y, hw, hG, hY⟩ := w.ex
  have k1 := k.later s1
  refine for_it hw (fun n σ' H' => ∃ F' I' ρ', Step F1 I1 H1 F' I' H' ∧ Rel p F' I' H' σ' ρ' ∧ forGo g b E (ds.drop n) ρ') ⟨F1, I1, ρ1, Step.refl .., R1, h⟩
    (fun n σ' H' _ ⟨F', I', ρ', s', R', _⟩ => hG F' I' H' s' R'.sub) (fun n x σ' H2 H3 hn ⟨F', I', ρ', s', R', q⟩ hy => ?_) fun σ' H' ⟨F', I', ρ', s', R', q⟩ => ?_
  · obtain ⟨I3, d, hd, a1, a2, a3, a4, it⟩ := hY n H2 x H3 hn hy F' I' s' R'.sub R'.lab
    have R3 := R'.more a1 a2 a3 a4
    have s3 := s'.trans (Step.more R' a1 a2 a4)
    have e : ds.drop n = d :: ds.drop (n + 1) := by
      obtain ⟨hl, hd⟩ := List.getElem?_eq_some_iff.mp hd
      rw [← hd]; exact List.drop_eq_getElem_cons hl
    rw [e, forGo_consE] at q
    refine ⟨F', I3, ρ', d, _, R3, it, q, fun ρ4 σ4 q4 R4 _ => ?_⟩
    refine ⟨F', I3, ρ4, _, R4, q4, ⟨fun ρ5 σ5 F5 I5 H5 h5 s5 R5 => ⟨F5, I5, ρ5, s3.trans s5, R5, h5⟩, fun ρ5 σ5 F5 I5 H5 h5 s5 R5 => (k1.later s3).nx ρ5 σ5 F5 I5 H5 h5 s5 R5, fun ρ5 σ5 F5 I5 H5 h5 s5 R5 => ⟨F5, I5, ρ5, s3.trans s5, R5, h5⟩, (k1.later s3).rt, (k1.later s3).ex⟩⟩
  · rw [List.drop_length, forGo_nilE] at q
    exact k1.nx ρ' σ' F' I' H' q s' R'
end
/-! ### comprehensions -/
def onlyd (o : O) (k : D → Prop) : Prop := match o with
  | .d d => k d
  | _ => False
def wipeR (ρ : Rho) : List Nat → Rho
  | [] => ρ
  | v :: vs => (wipeR ρ vs).set v none
/-- the block's own slots as they stood (data alone) -/
def keepD : Option (Option S) → Option S
  | some (some (.d d)) => some (.d d)
  | _ => none
def back1 (ρ0 : Rho) (ρ : Rho) (v : Nat) : Rho := ρ.set v (keepD ρ0[v]?)
def backR (ρ0 ρ : Rho) : List Nat → Rho
  | [] => ρ
  | v :: vs => back1 ρ0 (backR ρ0 ρ vs) v
abbrev noX : Exn → Rho → Prop := fun _ _ => False
def compGo0 (g : DG) (t : DT) (e : DE) (vs : List Nat) (P : List D → Rho → Prop) : List D → List D → Rho → Prop
  | [], acc, ρ => P acc ρ
  | d :: ds, acc, ρ => g d ρ fun ρ1 => t ρ1 (fun b ρ2 => (b = true → e ρ2 (fun o ρ3 => onlyd o fun d' => compGo0 g t e vs P ds (acc ++ [d']) (wipeR ρ3 vs)) noX) ∧ (b = false → compGo0 g t e vs P ds acc (wipeR ρ2 vs))) noX
@[irreducible] def compGo (g : DG) (t : DT) (e : DE) (vs : List Nat) (P : List D → Rho → Prop) (ds acc : List D) (ρ : Rho) : Prop := compGo0 g t e vs P ds acc ρ
theorem compGo_nilE (g : DG) (t : DT) (e : DE) (vs : List Nat) (P : List D → Rho → Prop) (acc : List D) (ρ : Rho) : compGo g t e vs P [] acc ρ = P acc ρ := by unfold compGo; rfl
theorem compGo_consE (g : DG) (t : DT) (e : DE) (vs : List Nat) (P : List D → Rho → Prop) (d : D) (ds acc : List D) (ρ : Rho) : compGo g t e vs P (d :: ds) acc ρ = g d ρ fun ρ1 => t ρ1 (fun b ρ2 => (b = true → e ρ2 (fun o ρ3 => onlyd o fun d' => compGo g t e vs P ds (acc ++ [d']) (wipeR ρ3 vs)) noX) ∧ (b = false → compGo g t e vs P ds acc (wipeR ρ2 vs))) noX := by
  have q : ∀ acc ρ, compGo g t e vs P ds acc ρ = compGo0 g t e vs P ds acc ρ := by intro acc ρ; unfold compGo; rfl
  simp only [q]; unfold compGo; rfl
def dComp (i : DI) (g : DG) (t : DT) (e : DE) (vs : List Nat) : DE := fun ρ P PX => i ρ (fun ds ρ1 => compGo g t e vs (fun acc ρ2 => P (.tmp (.lst acc)) (backR ρ1 ρ2 vs)) ds [] (wipeR ρ1 vs)) PX
def dYes : DT := fun ρ P _ => P true ρ
abbrev W0 : WX := fun _ _ _ _ => False
theorem wipeR_length (ρ : Rho) : ∀ vs : List Nat, (wipeR ρ vs).length = ρ.length
  | [] => rfl
  | v :: vs => by unfold wipeR; rw [List.length_set, wipeR_length ρ vs]
theorem wipeR_some {ρ : Rho} {i : Nat} {x : S} : ∀ {vs : List Nat}, (wipeR ρ vs)[i]? = some (some x) → ρ[i]? = some (some x) ∧ i ∉ vs
  | [], h => ⟨h, by simp⟩
  | v :: vs, h => by
    unfold wipeR at h
    by_cases hi : v = i
    · subst hi
      by_cases hv : v < (wipeR ρ vs).length
      · rw [List.getElem?_set_self hv] at h; cases h
      · rw [List.getElem?_eq_none (by simpa using hv)] at h; cases h
    · rw [List.getElem?_set_ne hi] at h
      obtain ⟨h1, h2⟩ := wipeR_some h
      exact ⟨h1, by simp only [List.mem_cons, not_or]; exact ⟨fun e => hi e.symm, h2⟩⟩
theorem back1_length (ρ0 ρ : Rho) (v : Nat) : (back1 ρ0 ρ v).length = ρ.length := by
  unfold back1
  rw [List.length_set]
theorem backR_length (ρ0 ρ : Rho) : ∀ vs : List Nat, (backR ρ0 ρ vs).length = ρ.length
  | [] => rfl
  | v :: vs => by unfold backR; rw [back1_length, backR_length ρ0 ρ vs]
theorem backR_some {ρ0 ρ : Rho} {i : Nat} {x : S} : ∀ {vs : List Nat}, (backR ρ0 ρ vs)[i]? = some (some x) → (i ∉ vs ∧ ρ[i]? = some (some x)) ∨ (∃ d, x = .d d ∧ ρ0[i]? = some (some (.d d)))
  | [], h => .inl ⟨by simp, h⟩
  | v :: vs, h => by
    unfold backR back1 at h
    by_cases hi : v = i
    · subst hi
      by_cases hv : v < (backR ρ0 ρ vs).length
      · rw [List.getElem?_set_self hv] at h
        have h := Option.some.inj h
        unfold keepD at h
        split at h
        · rename_i d e
          cases h; exact .inr ⟨d, rfl, e⟩
        · cases h
      · rw [List.getElem?_eq_none (by simpa using hv)] at h; cases h
    · rw [List.getElem?_set_ne hi] at h
      rcases backR_some h with ⟨h1, h2⟩ | h
      · exact .inl ⟨by simp only [List.mem_cons, not_or]; exact ⟨fun e => hi e.symm, h1⟩, h2⟩
      · exact .inr h
section
variable {p : Pm} {F F' F0 : Lab} {I I' I0 H0 H1 H H' : Hp} {σ σ' : L2.St} {ρ ρ' ρ0 : Rho} {W : WX}
theorem wipe_keep {vs : List Nat} {i : Nat} (h : i ∉ vs) : (wipe σ vs)[i]? = σ[i]? := by
  rw [wipe_get, if_neg (fun z => h z.1)]
theorem Rel.wp (R : Rel p F I H σ ρ) (vs : List Nat) : Rel p F I H (wipe σ vs) (wipeR ρ vs) := by
  refine ⟨R.sub, R.lab, by rw [wipeR_length, wipe_length]; exact R.len, fun i s e => ?_⟩
  obtain ⟨e1, e2⟩ := wipeR_some e
  obtain ⟨v, h1, h2⟩ := R.slot i s e1
  exact ⟨v, by rw [wipe_keep e2]; exact h1, h2⟩
theorem Rel.wiped {vs : List Nat} (R : Rel p F I H σ' ρ') (h : wipe σ' vs = wipe σ vs) : Rel p F I H (wipe σ vs) (wipeR ρ' vs) := by
  rw [← h]; exact R.wp vs
theorem Rel.back {vs : List Nat} (R0 : Rel p F0 I0 H0 σ ρ0) (s : Same I0 I) (R : Rel p F I H (wipe σ vs) ρ) : Rel p F I H σ (backR ρ0 ρ vs) := by
  refine ⟨R.sub, R.lab, by rw [backR_length, R.len, wipe_length], fun i sl e => ?_⟩
  rcases backR_some e with ⟨h1, h2⟩ | ⟨d, rfl, h⟩
  · obtain ⟨v, h3, h4⟩ := R.slot i sl h2
    exact ⟨v, by rw [wipe_keep h1] at h3; exact h3, h4⟩
  · obtain ⟨v, h3, h4⟩ := R0.slot i _ h
    exact ⟨v, h3, Dd.mono s h4⟩
theorem wipe_wipe {vs : List Nat} : wipe (wipe σ vs) vs = wipe σ vs := by
  apply List.ext_getElem?
  intro m
  rw [wipe_get, wipe_get, wipe_length]
  split <;> rfl
/-- an object that nobody has, changed -/
theorem Rel.touch {D : Addr} {x : HO} (R : Rel p F I H σ ρ) (h1 : F D = none) (h2 : I D = none) : Rel p F I (upd H D x) σ ρ := by
  have hne : ∀ b j, F b = some j → b ≠ D := fun b j z q => by rw [q, h1] at z; cases z
  have hi : ∀ b y, I b = some y → b ≠ D := fun b y z q => by rw [q, h2] at z; cases z
  refine ⟨fun b y e => by rw [upd_ne (hi b y e)]; exact R.sub b y e, fun b j e => ⟨(R.lab b j e).1, by rw [upd_ne (hne b j e)]; exact (R.lab b j e).2⟩, R.len, fun k sl e => ?_⟩
  obtain ⟨v, h3, h4⟩ := R.slot k sl e
  refine ⟨v, h3, ?_⟩
  have own : ∀ {b : Addr} {c : C}, Own p F I H (some k) (fun _ => True) b c → Own p F I (upd H D x) (some k) (fun _ => True) b c := fun {b c} ⟨fp, g1, g2⟩ =>
    ⟨fp, g1.keep (fun z hz => upd_ne (hne z k (g2 z hz).1)) (fun _ _ e => e), fun z hz => ⟨(g2 z hz).1, (g2 z hz).2.1, trivial, by rw [upd_ne (hne z k (g2 z hz).1)]; exact (g2 z hz).2.2.2⟩⟩
  cases sl with
  | d d => exact h4
  | own c => obtain ⟨a, e, h4⟩ := h4; exact ⟨a, e, own h4⟩
  | lent a c => exact ⟨h4.1, own h4.2⟩
  | exc x => exact h4
theorem Step.touch {D : Addr} {x : HO} (s : Step F0 I0 H0 F I H) (h : H0 D = none) : Step F0 I0 H0 F I (upd H D x) :=
  ⟨fun b y e n => by rw [upd_ne (ne_of_none e h)]; exact s.keep b y e n, s.inc, s.newI, s.lab, fun b e => by
    by_cases hb : b = D
    · subst hb; exact absurd h e
    · rw [upd_ne hb]; exact s.there b e⟩
theorem Step.nobody {D : Addr} (s : Step F0 I0 H0 F I H) (h1 : F0 D = none) (h2 : I0 D = none) (h3 : H0 D ≠ none) : F D = none ∧ I D = none := by
  refine ⟨?_, ?_⟩
  · cases q : F D with
    | none => rfl
    | some j =>
      rcases s.lab D j q with z | z
      · rw [h1] at z; cases z
      · exact absurd z h3
  · cases q : I D with
    | none => rfl
    | some y =>
      rcases s.newI D (by rw [q]; simp) with z | z | z
      · exact absurd h2 z
      · exact absurd z h3
      · exact absurd h1 z
theorem w_comp {strong : Bool} {vs : List Nat} {i : DI} {g : DG} {t : DT} {e : DE} (σ : L2.St) (H : Hp) (Q : VK) (q : tE p W (dComp i g t e vs) σ H Q) : tLc (tI p W strong i) (tG p strong vs g) (tT p W0 t) (tE p W0 e) vs σ H Q := by
  obtain ⟨F, I, ρ, P, PX, R, f, k, x⟩ := q
  refine ⟨F, I, ρ, _, PX, R, f, fun ds ρ1 F1 I1 H1 J h s1 R1 w D nD => ?_, x⟩
  obtain ⟨Gg, Y, hw, hG, hY⟩ := w.ex
  have R1' := (R1.newT (x := .lst []) nD).1
  refine lc_it hw (fun n H' => ∃ F' I' ρ' acc av, Step F1 I1 H1 F' I' H' ∧ Rel p F' I' H' (wipe σ vs) ρ' ∧ F' D = none ∧ I' D = none ∧ H' D = some (.lst av) ∧ DdAll p I' av acc ∧ av.length ≤ n ∧
      compGo g t e vs (fun acc ρ2 => P (.tmp (.lst acc)) (backR ρ1 ρ2 vs)) (ds.drop n) acc ρ') ?_ (fun n H' _ ⟨F', I', ρ', _, _, s', R', _⟩ => hG F' I' H' s' R'.sub) (fun n y H2 H3 hn ⟨F', I', ρ', acc, av, s', R', fD, iD, eD, r', hl, q⟩ hy => ?_) fun H' ⟨F', I', ρ', acc, av, s', R', fD, iD, eD, r', hl, q⟩ => ?_
  · exact ⟨F1, I1, _, [], [], (Step.refl ..).touch nD, R1'.wp vs, R1.lab0 nD, R1.fresh nD, upd_same, .nil, Nat.le_refl _, h⟩
  · obtain ⟨I3, d, hd, a1, a2, a3, a4, it⟩ := hY n H2 y H3 hn hy F' I' s' R'.sub R'.lab
    have R3 := R'.more a1 a2 a3 a4
    have sm := Step.more R' a1 a2 a4
    have s3 := s'.trans sm
    have nD2 : H2 D ≠ none := by rw [eD]; simp
    obtain ⟨_, iD3⟩ := sm.nobody fD iD nD2
    have eD3 : H3 D = some (.lst av) := a1 _ _ eD
    have nD3 : H3 D ≠ none := by rw [eD3]; simp
    have e1 : ds.drop n = d :: ds.drop (n + 1) := by
      obtain ⟨hl, hd⟩ := List.getElem?_eq_some_iff.mp hd
      rw [← hd]; exact List.drop_eq_getElem_cons hl
    rw [e1, compGo_consE] at q
    have hbig : av.length < sizeLine := by have := w.big; omega
    refine ⟨F', I3, ρ', d, _, R3, it, q, fun ρ4 σ4 q4 R4 w4 => ⟨w4.trans wipe_wipe, ?_⟩⟩
    have ww : wipe σ4 vs = wipe σ vs := by rw [w4, wipe_wipe]
    refine ⟨F', I3, ρ4, _, _, R4, q4, fun b ρ5 F5 I5 H5 q5 s5 R5 => ?_, fun _ _ _ _ _ _ _ z => z.elim⟩
    cases b with
    | false =>
      obtain ⟨f5, i5⟩ := s5.nobody fD iD3 nD3
      exact iteF ⟨F5, I5, _, acc, av, s3.trans s5, R5.wiped ww, f5, i5, s5.keep _ _ eD3 fD, DdAll.mono s5.inc (DdAll.mono a2 r'), by omega, q5.2 rfl⟩
    | true =>
      refine iteT ⟨F5, I5, ρ5, _, _, R5, q5.1 rfl, fun o ρ6 v F6 I6 H6 q6 s6 R6 r6 => ?_, fun _ _ _ _ _ _ _ z => z.elim⟩
      unfold onlyd at q6
      split at q6
      · rename_i d'
        have s56 := s5.trans s6
        obtain ⟨f6, i6⟩ := s56.nobody fD iD3 nD3
        have eD6 : H6 D = some (.lst av) := s56.keep _ _ eD3 fD
        refine ⟨av, eD6, hbig, F6, I6, _, acc ++ [d'], av ++ [v], (s3.trans s56).touch nD, (R6.wiped ww).touch f6 i6, f6, i6, upd_same, DdAll.append (DdAll.mono s56.inc (DdAll.mono a2 r')) (.cons r6 .nil), by rw [List.length_append]; simp; omega, q6⟩
      · exact q6.elim
  · rw [List.drop_length, compGo_nilE] at q
    refine k _ _ _ F' I' H' q (s1.trans s') (R1.back s'.inc R') ⟨D, rfl, [D], ⟨rfl, av, eD, r'⟩, fun b hb => ?_⟩
    have e : b = D := by simpa using hb
    subst e
    exact ⟨fD, iD, s1.old nD, by rw [eD]; simp⟩
end
end Dt

namespace Dt
open PySem PySem.Spec PyProof.Rows L2

/-! ### promises of defs -/
abbrev DSp := List S → (O → List S → Prop) → (Exn → List S → Prop) → Prop
def spOf (p : Pm) (sp : DSp) : Sp := fun vs H Q E => ∃ F I os P PX, Rel p F I H (vs.map some) (os.map some) ∧ (∀ a j, F a = some j → ∃ b c, os[j]? = some (.lent b c)) ∧ sp os P PX ∧
  (∀ o os' v F' I' H', P o os' → Step F I H F' I' H' → Rel p F' I' H' (vs.map some) (os'.map some) → ResOk p F' I' H H' [] v o → Q v H') ∧
  (∀ x os' cls d F' I' H', PX x os' → Step F I H F' I' H' → Rel p F' I' H' (vs.map some) (os'.map some) → ExOk p I' x cls d → E cls d H')
def rho0 (n : Nat) (os : List S) : Rho := os.map some ++ List.replicate (n - os.length) none
/-- the arguments as they stand behind the body: what was lent, changed -/
def backs : List S → Rho → Option (List S)
  | [], _ => some []
  | .d d :: os, _ :: ρ => (backs os ρ).map (.d d :: ·)
  | .exc x :: os, _ :: ρ => (backs os ρ).map (.exc x :: ·)
  | .lent a _ :: os, some (.lent b c) :: ρ => if a = b then (backs os ρ).map (.lent a c :: ·) else none
  | _, _ => none
def bkK : List S → Rho → (List S → Prop) → Prop
  | [], _, k => k []
  | .d d :: os, _ :: ρ, k => bkK os ρ fun os' => k (.d d :: os')
  | .exc x :: os, _ :: ρ, k => bkK os ρ fun os' => k (.exc x :: os')
  | .lent a _ :: os, some (.lent b c) :: ρ, k => a = b ∧ bkK os ρ fun os' => k (.lent a c :: os')
  | _, _, _ => False
def rtK (ρ : Rho) (o : O) (k : O → Prop) : Prop := match o with
  | .d d => k (.d d)
  | .tmp c => k (.tmp c)
  | .loc j => (match ρ[j]? with
    | some (some (.own c)) => k (.tmp c)
    | _ => False)
  | .exc _ => False
def endsOf (os : List S) (P : O → List S → Prop) (PX : Exn → List S → Prop) : DEnds where
  nx ρ := bkK os ρ fun os' => P (.d .none) os'
  rt o ρ := bkK os ρ fun os' => rtK ρ o fun r => P r os'
  bk _ := False
  ct _ := False
  ex x ρ := bkK os ρ fun os' => PX x os'
section
variable {p : Pm} {F F' F0 : Lab} {I I' I0 H0 H1 H H' : Hp} {σ σ' : L2.St} {ρ ρ' ρ0 : Rho} {W : WX}
theorem bkK_of : ∀ {os : List S} {ρ : Rho} {k : List S → Prop}, bkK os ρ k → ∃ os', backs os ρ = some os' ∧ k os'
  | [], _, _, h => ⟨[], rfl, h⟩
  | .d d :: os, [], _, h => h.elim
  | .d d :: os, r :: ρ, k, h => by
    obtain ⟨os', h1, h2⟩ := bkK_of (os := os) (ρ := ρ) h
    exact ⟨.d d :: os', by simp [backs, h1], h2⟩
  | .own c :: os, ρ, _, h => by cases ρ <;> exact h.elim
  | .exc c :: os, [], _, h => h.elim
  | .exc x :: os, r :: ρ, k, h => by
    obtain ⟨os', h1, h2⟩ := bkK_of (os := os) (ρ := ρ) h
    exact ⟨.exc x :: os', by simp [backs, h1], h2⟩
  | .lent a c0 :: os, [], _, h => h.elim
  | .lent a c0 :: os, none :: ρ, _, h => h.elim
  | .lent a c0 :: os, some (.d _) :: ρ, _, h => h.elim
  | .lent a c0 :: os, some (.own _) :: ρ, _, h => h.elim
  | .lent a c0 :: os, some (.exc _) :: ρ, _, h => h.elim
  | .lent a c0 :: os, some (.lent b c) :: ρ, k, h => by
    obtain ⟨e, h⟩ := h
    subst e
    obtain ⟨os', h1, h2⟩ := bkK_of (os := os) (ρ := ρ) h
    exact ⟨.lent a c :: os', by simp [backs, h1], h2⟩
theorem backs_ok : ∀ {os : List S} {ρ : Rho} {os' : List S}, backs os ρ = some os' → os'.length = os.length ∧ ∀ (i : Nat) s, os'[i]? = some s →
    ((∃ d, s = .d d ∧ os[i]? = some (.d d)) ∨ (∃ x, s = .exc x ∧ os[i]? = some (.exc x))) ∨ (∃ a c0 c, s = .lent a c ∧ os[i]? = some (.lent a c0) ∧ ρ[i]? = some (some (.lent a c)))
  | [], ρ, os', h => by
    cases h; exact ⟨rfl, fun i s e => by simp at e⟩
  | .d d :: os, [], os', h => by simp [backs] at h
  | .d d :: os, r :: ρ, os', h => by
    simp only [backs, Option.map_eq_some_iff] at h
    obtain ⟨os2, h1, rfl⟩ := h
    obtain ⟨h2, h3⟩ := backs_ok h1
    refine ⟨by simp [h2], fun i s e => ?_⟩
    cases i with
    | zero => simp at e; subst e; exact .inl (.inl ⟨d, rfl, rfl⟩)
    | succ i => simpa using h3 i s (by simpa using e)
  | .own c :: os, ρ, os', h => by cases ρ <;> simp [backs] at h
  | .exc c :: os, [], os', h => by simp [backs] at h
  | .exc x :: os, r :: ρ, os', h => by
    simp only [backs, Option.map_eq_some_iff] at h
    obtain ⟨os2, h1, rfl⟩ := h
    obtain ⟨h2, h3⟩ := backs_ok h1
    refine ⟨by simp [h2], fun i s e => ?_⟩
    cases i with
    | zero => simp at e; subst e; exact .inl (.inr ⟨x, rfl, rfl⟩)
    | succ i => simpa using h3 i s (by simpa using e)
  | .lent a c0 :: os, ρ, os', h => by
    unfold backs at h
    split at h
    · rename_i h0; cases h0
    · rename_i h0; cases h0
    · rename_i h0; cases h0
    · rename_i a' c0' os1 b c ρ1 h0
      cases h0
      split at h
      · rename_i e0
        subst e0
        simp only [Option.map_eq_some_iff] at h
        obtain ⟨os2, h1, rfl⟩ := h
        obtain ⟨h2, h3⟩ := backs_ok h1
        refine ⟨by simp [h2], fun i s e => ?_⟩
        cases i with
        | zero => simp at e; subst e; exact .inr ⟨a, c0, c, rfl, rfl, rfl⟩
        | succ i => simpa using h3 i s (by simpa using e)
      · cases h
    · cases h
theorem map_some_get {α : Type} {l : List α} {i : Nat} {x : α} : (l.map some)[i]? = some (some x) ↔ l[i]? = some x := by
  rw [List.getElem?_map]
  cases l[i]? <;> simp
/-- behind the body: the arguments' slots -/
theorem Rel.args {vs : List V} {os os' : List S} (R0 : Rel p F0 I0 H0 (vs.map some) (os.map some)) (s : Same I0 I) (R : Rel p F I H σ ρ) (h : backs os ρ = some os') : Rel p F I H (vs.map some) (os'.map some) := by
  obtain ⟨h1, h2⟩ := backs_ok h
  have hl := R0.len
  rw [List.length_map, List.length_map] at hl
  refine ⟨R.sub, R.lab, by rw [List.length_map, List.length_map, h1, hl], fun i sl e => ?_⟩
  rw [map_some_get] at e
  rcases h2 i sl e with (⟨d, rfl, e0⟩ | ⟨x, rfl, e0⟩) | ⟨a, c0, c, rfl, e0, e1⟩
  · obtain ⟨v, h3, h4⟩ := R0.slot i (.d d) (map_some_get.mpr e0)
    exact ⟨v, h3, Dd.mono s h4⟩
  · obtain ⟨v, h3, d, g, h4⟩ := R0.slot i (.exc x) (map_some_get.mpr e0)
    exact ⟨v, h3, d, g, h4.mono s⟩
  · obtain ⟨v, h3, h4⟩ := R0.slot i (.lent a c0) (map_some_get.mpr e0)
    obtain ⟨u, h5, h6⟩ := R.slot i (.lent a c) e1
    exact ⟨v, h3, h4.1, h6.2⟩
theorem rel_start {vs : List V} {os : List S} (N : List Str) (R : Rel p F I H (vs.map some) (os.map some)) : Rel p F I H (L2.start N vs) (rho0 N.length os) := by
  have hl := R.len
  rw [List.length_map, List.length_map] at hl
  refine ⟨R.sub, R.lab, by unfold rho0 L2.start; simp [hl], fun i s e => ?_⟩
  have lt : i < os.length := by
    refine Nat.lt_of_not_le fun z => ?_
    unfold rho0 at e
    rw [List.getElem?_append_right (by simpa using z)] at e
    have := List.mem_of_getElem? e
    simp at this
  unfold rho0 at e
  rw [List.getElem?_append_left (by simpa using lt)] at e
  obtain ⟨v, h1, h2⟩ := R.slot i s e
  refine ⟨v, ?_, h2⟩
  unfold L2.start
  rw [List.getElem?_append_left (by simp; omega)]
  exact h1
end

section
variable {P : Program} {w : World} {K : PySem.W.Frag} {mg : Str → Option Value} {base : Heap}
/-- a body's data reading gives the def's promise -/
theorem body_ok {p : Pm} {N : List Str} {vs : List V} {H : Hp} {Q : VK} {E : XK} {sp : DSp} {b : DS} (hb : ∀ os PP PX, sp os PP PX → b (endsOf os PP PX) (rho0 N.length os)) (h : spOf p sp vs H Q E) :
    tS p (fun cls d _ H => E cls d H) b { nx := fun _ H' => Q .non H', rt := Q } (L2.start N vs) H := by
  obtain ⟨F, I, os, PP, PX, R, hF, hsp, k, kx⟩ := h
  refine ⟨F, I, _, _, rel_start N R, hb os PP PX hsp, ⟨fun ρ' σ' F' I' H' h s' R' => ?_, fun _ _ _ _ _ h => h.elim, fun _ _ _ _ _ h => h.elim, fun o ρ' v σ' F' I' H' h s' R' r' => ?_, fun x ρ' cls d σ' F' I' H' h s' R' e => ?_⟩⟩
  · obtain ⟨os', e, h⟩ := bkK_of h
    exact k _ os' .non F' I' H' h s' (R.args s'.inc R' e) .non
  · obtain ⟨os', e, h⟩ := bkK_of h
    have Ra := R.args s'.inc R' e
    cases o with
    | d d => exact k _ os' v F' I' H' h s' Ra r'
    | tmp c => exact k _ os' v F' I' H' h s' Ra r'
    | exc x => exact h.elim
    | loc j =>
      have h : (match ρ'[j]? with | some (some (.own c)) => PP (.tmp c) os' | _ => False) := h
      split at h
      · rename_i c e0
        obtain ⟨u, h1, a, rfl, fp, h2, h3⟩ := R'.slot j _ e0
        have hv : v = .ref a := by
          have r : σ'[j]? = some (some v) := r'
          rw [r] at h1; cases h1; rfl
        subst hv
        let F2 : Lab := fun b => if F' b = some j then none else F' b
        have hF2 : ∀ b i, F2 b = some i → F' b = some i ∧ i ≠ j := fun b i z => by
          have z : (if F' b = some j then none else F' b) = some i := z
          split at z
          · cases z
          · rename_i n
            exact ⟨z, fun y => n (by rw [z, y])⟩
        have hF3 : ∀ b i, F' b = some i → i ≠ j → F2 b = some i := fun b i z n => by
          show (if F' b = some j then none else F' b) = some i
          rw [if_neg (by rw [z]; intro y; cases y; exact n rfl)]; exact z
        have nl : ∀ b c0, os[j]? ≠ some (.lent b c0) := fun b c0 z => by
          obtain ⟨hl, hb⟩ := backs_ok e
          have hj : j < os'.length := by rw [hl]; exact (List.getElem?_eq_some_iff.mp z).1
          rcases hb j os'[j] (List.getElem?_eq_getElem hj) with (⟨d, _, y⟩ | ⟨x, _, y⟩) | ⟨a, c0, c, _, _, y⟩
          · rw [y] at z; cases z
          · rw [y] at z; cases z
          · rw [y] at e0; cases e0
        refine k _ os' _ F2 I' H' h ⟨s'.keep, s'.inc, s'.newI, fun b i z => s'.lab b i (hF2 b i z).1, s'.there⟩ ⟨Ra.sub, fun b i z => Ra.lab b i (hF2 b i z).1, Ra.len, fun i sl z => ?_⟩ ⟨a, rfl, fp, h2, fun b hb => ?_⟩
        · obtain ⟨u, g1, g2⟩ := Ra.slot i sl z
          refine ⟨u, g1, ?_⟩
          have own : ∀ {b : Addr} {c : C}, i ≠ j → Own p F' I' H' (some i) (fun _ => True) b c → Own p F2 I' H' (some i) (fun _ => True) b c := fun {b c} n ⟨fp', y1, y2⟩ =>
            ⟨fp', y1, fun x hx => ⟨hF3 x i (y2 x hx).1 n, (y2 x hx).2⟩⟩
          obtain ⟨hl, hb⟩ := backs_ok e
          rcases hb i sl (map_some_get.mp z) with (⟨d, rfl, y⟩ | ⟨x, rfl, y⟩) | ⟨a', c0, c', rfl, y, _⟩
          · exact g2
          · exact g2
          · refine ⟨g2.1, own (fun q => ?_) g2.2⟩
            subst q
            exact nl _ _ y
        · obtain ⟨y1, y2, _, y4⟩ := h3 b hb
          refine ⟨?_, y2, ?_, y4⟩
          · show (if F' b = some j then none else F' b) = none
            rw [if_pos y1]
          · rcases s'.lab b j y1 with z | z
            · obtain ⟨b', c', z⟩ := hF b j z
              exact absurd z (nl _ _)
            · exact z
      · exact h.elim
  · obtain ⟨os', e0, h⟩ := bkK_of h
    exact kx x os' cls d F' I' H' h s' (R.args s'.inc R' e0) e
theorem fn_dt {x qual : Str} {st : Stmt} {f : Addr} {fd : FuncData} {N ps : List Str} {k : Nat} {sp : DSp} {b : DS} (F : Fun K x qual st f fd) (hS : FnScope N ps (defScope st)) (hl : ∀ os PP PX, sp os PP PX → os.length = ps.length)
    (hd : ∀ (cdv : Value) (A : Around) (outer : List Env) (s : Shared) (H : Hp) (E : XK), Room k (A.deeper (envOfC qual (defScope st) s.heap.objs.size f cdv)) →
      PSsd (cxOf (L2.CX P w) P w K mg base N qual (defScope st) f cdv A outer s H E) noG (fun cls d _ H => E cls d H) (defBody st) b)
    (hb : ∀ os PP PX, sp os PP PX → b (endsOf os PP PX) (rho0 N.length os)) : FnOk P w K mg base (L2.CX P w) (k + 1) f fd ps (spOf ⟨K, mg, noG⟩ sp) := by
  refine F.okX hS (fun vs H Q E h => ?_) (fun cdv A outer s H vs Q E hr h => ⟨_, hd cdv A outer s H E hr, body_ok hb h⟩)
  obtain ⟨F, I, os, PP, PX, R, hF, hsp, _⟩ := h
  have e := R.len
  rw [List.length_map, List.length_map] at e
  rw [← hl os PP PX hsp, e]
end

/-! ### calls of defs -/
/-- all arguments are data -/
def dCall (sp : DSp) (g : DA) : DE := fun ρ P PX => g ρ (fun os ρ1 => onlyK os fun ds => sp (ds.map S.d) (fun o _ => P o ρ1) (fun x _ => PX x ρ1)) PX
/-- the object of slot j is lent as the first argument -/
def putC (ρ : Rho) (j : Nat) (c : C) : Rho := match ρ[j]? with
  | some (some (.own _)) => ρ.set j (some (.own c))
  | some (some (.lent a _)) => ρ.set j (some (.lent a c))
  | _ => ρ
def lentK (ρ : Rho) (j : Nat) (k : Addr → C → Prop) : Prop := match ρ[j]? with
  | some (some (.own c)) => ∀ a, k a c
  | some (some (.lent a c)) => k a c
  | _ => False
def backC (os' : List S) (k : C → Prop) : Prop := match os' with
  | .lent _ c :: _ => k c
  | _ => False
def dCallM (sp : DSp) (g : DA) : DE := fun ρ P PX => g ρ (fun os ρ1 => match os with
  | .loc j :: os2 => onlyK os2 fun ds => lentK ρ1 j fun a c => sp (.lent a c :: ds.map S.d) (fun o os' => backC os' fun c' => P o (putC ρ1 j c')) (fun x os' => backC os' fun c' => PX x (putC ρ1 j c'))
  | _ => False) PX
section
variable {p : Pm} {F F' F0 : Lab} {I I' I0 H0 H1 H H' : Hp} {σ σ' : L2.St} {ρ ρ' ρ0 : Rho} {W : WX} {v : V} {o : O}
theorem after_call (R : Rel p F I H σ ρ) (s : Step (fun _ => none) I H F' I' H') (sub : Same I' H') : Rel p F I' H' σ ρ ∧ Step F I H F I' H' := by
  have h : Same H H' := fun a o e => s.keep a o e rfl
  have n : ∀ a, I' a ≠ none → I a ≠ none ∨ H a = none := fun a e => by
    rcases s.newI a e with z | z | z
    · exact .inl z
    · exact .inr z
    · exact absurd rfl z
  exact ⟨R.more h s.inc sub n, Step.more R h s.inc n⟩
theorem ret_ok (R : Rel p F I H σ ρ) (r : ResOk p F' I' H H' [] v o) : ResOk p F I' H H' σ v o := by
  cases o with
  | d d => exact r
  | tmp c =>
    obtain ⟨a, e, fp, h1, h2⟩ := r
    refine ⟨a, e, fp, h1, fun b hb => ?_⟩
    obtain ⟨y1, y2, y3, y4⟩ := h2 b hb
    exact ⟨R.lab0 y3, y2, y3, y4⟩
  | loc j => simp [ResOk] at r
  | exc x => exact r
/-- the wish of an exception of the callee -/
theorem w_call {sp : DSp} {g : DA} (σ : L2.St) (H : Hp) (Q : VK) (q : tE p W (dCall sp g) σ H Q) : tA p W g σ H fun vs H1 => spOf p sp vs H1 Q (WE W σ) := by
  obtain ⟨F, I, ρ, P, PX, R, f, k, x⟩ := q
  refine ⟨F, I, ρ, _, PX, R, f, fun os ρ1 vs F1 I1 H1 h s1 R1 r1 => ?_, x⟩
  obtain ⟨ds, e, h⟩ := onlyK_of h
  have r := onlyD_ok r1 e
  let F0 : Lab := fun _ => none
  refine ⟨F0, I1, ds.map S.d, _, _, ⟨R1.sub, (fun a j z => nomatch z), by simp [r.length], fun i s z => ?_⟩, (fun a j z => nomatch z), h, fun o os' v F' I' H' h s' R' r' => ?_, fun x' os' cls d F' I' H' h s' R' ex => ?_⟩
  · rw [map_some_get, List.getElem?_map, Option.map_eq_some_iff] at z
    obtain ⟨d, z, rfl⟩ := z
    obtain ⟨v, h1, h2⟩ := r.get z
    exact ⟨v, map_some_get.mpr h1, h2⟩
  · obtain ⟨R2, s2⟩ := after_call R1 s' R'.sub
    exact k o ρ1 v F1 I' H' h (s1.trans s2) R2 ((ret_ok R1 r').older fun b => s1.old)
  · obtain ⟨R2, s2⟩ := after_call R1 s' R'.sub
    exact x x' ρ1 cls d F1 I' H' h (s1.trans s2) R2 ex
theorem lentK_of {j : Nat} {k : Addr → C → Prop} (R : Rel p F I H σ ρ) (h : lentK ρ j k) (e : σ[j]? = some (some v)) : ∃ a c, v = .ref a ∧ Own p F I H (some j) (fun _ => True) a c ∧ k a c ∧
    (∀ c' F' I' H', Own p F' I' H' (some j) (fun _ => True) a c' → ∃ s, (putC ρ j c') = ρ.set j (some s) ∧ SlotOk p F' I' H' j v s) := by
  unfold lentK at h
  split at h
  · rename_i c q
    obtain ⟨u, h1, a, rfl, h2⟩ := R.slot j _ q
    rw [e] at h1; cases h1
    refine ⟨a, c, rfl, h2, h a, fun c' F' I' H' z => ⟨.own c', ?_, a, rfl, z⟩⟩
    unfold putC; rw [q]
  · rename_i a c q
    obtain ⟨u, h1, rfl, h2⟩ := R.slot j _ q
    rw [e] at h1; cases h1
    refine ⟨a, c, rfl, h2, h, fun c' F' I' H' z => ⟨.lent a c', ?_, rfl, z⟩⟩
    unfold putC; rw [q]
  · exact h.elim
theorem backC_of {os : List S} {k : C → Prop} (h : backC os k) : ∃ a c os2, os = .lent a c :: os2 ∧ k c := by
  unfold backC at h
  split at h
  · exact ⟨_, _, _, rfl, h⟩
  · exact h.elim
/-- labels in the callee, and behind the call -/
def labC (F : Lab) (j : Nat) : Lab := fun b => if F b = some j then some 0 else none
def labB (F F' : Lab) (j : Nat) : Lab := fun b => if F' b = some 0 then some j else if F b = some j then none else F b
theorem labC_0 {j : Nat} {b : Addr} {i : Nat} (h : labC F j b = some i) : F b = some j ∧ i = 0 := by
  unfold labC at h
  split at h
  · rename_i q; exact ⟨q, (Option.some.inj h).symm⟩
  · cases h
theorem labC_none {j : Nat} {b : Addr} (h : F b ≠ some j) : labC F j b = none := by unfold labC; rw [if_neg h]
theorem after_callM {j : Nat} {os : List S} {vs : List V} {a : Addr} {c c' : C} {os2 : List S} {k : Addr → C → Prop} (R : Rel p F I H σ ρ) (e : σ[j]? = some (some (.ref a)))
    (hk : ∀ c' F' I' H', Own p F' I' H' (some j) (fun _ => True) a c' → ∃ s, (putC ρ j c') = ρ.set j (some s) ∧ SlotOk p F' I' H' j (.ref a) s)
    (s : Step (labC F j) I H F' I' H') {a' : Addr} (R' : Rel p F' I' H' (some (.ref a) :: vs.map some) (some (.lent a' c') :: os2.map some)) :
    Rel p (labB F F' j) I' H' σ (putC ρ j c') ∧ Step F I H (labB F F' j) I' H' := by
  obtain ⟨u, g1, g2, fp, g3, g4⟩ := R'.slot 0 (.lent a' c') rfl
  cases g1
  cases g2
  have own : Own p (labB F F' j) I' H' (some j) (fun _ => True) a c' := ⟨fp, g3, fun b hb => by
    obtain ⟨y1, y2, y3, y4⟩ := g4 b hb
    exact ⟨by unfold labB; rw [if_pos y1], y2, y3, y4⟩⟩
  have oth : ∀ b i, F b = some i → i ≠ j → labB F F' j b = some i ∧ I' b = none ∧ H' b = H b ∧ H' b ≠ none := fun b i z n => by
    obtain ⟨l1, l2⟩ := R.lab b i z
    have fc : labC F j b = none := labC_none (by rw [z]; intro y; cases y; exact n rfl)
    obtain ⟨n1, n2⟩ := s.nobody fc l1 l2
    refine ⟨?_, n2, ?_, s.there b l2⟩
    · unfold labB
      rw [if_neg (by rw [n1]; simp), if_neg (by rw [z]; intro y; cases y; exact n rfl)]; exact z
    · cases q : H b with
      | none => exact absurd q l2
      | some o => exact s.keep b o q fc
  have lb : ∀ b i, labB F F' j b = some i → (F' b = some 0 ∧ i = j) ∨ (F b = some i ∧ i ≠ j) := fun b i z => by
    unfold labB at z
    split at z
    · rename_i q; exact .inl ⟨q, (Option.some.inj z).symm⟩
    · split at z
      · cases z
      · rename_i q; exact .inr ⟨z, fun y => q (by rw [z, y])⟩
  obtain ⟨sl, hp, hs⟩ := hk c' _ I' H' own
  refine ⟨⟨R'.sub, fun b i z => ?_, by rw [hp, List.length_set]; exact R.len, fun i sl' z => ?_⟩, fun b o z n => s.keep b o z (labC_none (by rw [n]; simp)), s.inc, fun b z => ?_, fun b i z => ?_, s.there⟩
  · rcases lb b i z with ⟨y, _⟩ | ⟨y, n⟩
    · exact R'.lab b 0 y
    · exact ⟨(oth b i y n).2.1, (oth b i y n).2.2.2⟩
  · rw [hp] at z
    by_cases hi : j = i
    · subst hi
      have hj : j < ρ.length := by rw [R.len]; exact (List.getElem?_eq_some_iff.mp e).1
      rw [List.getElem?_set_self hj] at z
      cases z
      exact ⟨_, e, hs⟩
    · rw [List.getElem?_set_ne hi] at z
      obtain ⟨u, h1, h2⟩ := R.slot i sl' z
      refine ⟨u, h1, ?_⟩
      have ow : ∀ {b : Addr} {c : C}, Own p F I H (some i) (fun _ => True) b c → Own p (labB F F' j) I' H' (some i) (fun _ => True) b c := fun {b c} ⟨fp, g1, g2⟩ =>
        ⟨fp, g1.keep (fun z hz => (oth z i (g2 z hz).1 (fun y => hi y.symm)).2.2.1) s.inc, fun z hz => let q := oth z i (g2 z hz).1 (fun y => hi y.symm); ⟨q.1, q.2.1, trivial, q.2.2.2⟩⟩
      cases sl' with
      | d d => exact Dd.mono s.inc h2
      | own c => obtain ⟨a, e, h2⟩ := h2; exact ⟨a, e, ow h2⟩
      | lent a c => exact ⟨h2.1, ow h2.2⟩
      | exc x => obtain ⟨d, g, h2⟩ := h2; exact ⟨d, g, h2.mono s.inc⟩
  · rcases s.newI b z with y | y | y
    · exact .inl y
    · exact .inr (.inl y)
    · cases q : labC F j b with
      | none => exact absurd q y
      | some i => exact .inr (.inr (by rw [(labC_0 q).1]; simp))
  · rcases lb b i z with ⟨y, rfl⟩ | ⟨y, n⟩
    · rcases s.lab b 0 y with w | w
      · exact .inl (labC_0 w).1
      · exact .inr w
    · exact .inl y
theorem ret_okM {j : Nat} (R : Rel p F I H σ ρ) (r : ResOk p F' I' H H' [] v o) : ResOk p (labB F F' j) I' H H' σ v o := by
  cases o with
  | d d => exact r
  | tmp c =>
    obtain ⟨a, e, fp, h1, h2⟩ := r
    refine ⟨a, e, fp, h1, fun b hb => ?_⟩
    obtain ⟨y1, y2, y3, y4⟩ := h2 b hb
    refine ⟨?_, y2, y3, y4⟩
    have := R.lab0 y3
    unfold labB
    rw [y1, this]; simp
  | loc j => simp [ResOk] at r
  | exc x => exact r
theorem w_callM {sp : DSp} {g : DA} (σ : L2.St) (H : Hp) (Q : VK) (q : tE p W (dCallM sp g) σ H Q) : tA p W g σ H fun vs H1 => spOf p sp vs H1 Q (WE W σ) := by
  obtain ⟨F, I, ρ, P, PX, R, f, k, x⟩ := q
  refine ⟨F, I, ρ, _, PX, R, f, fun os ρ1 vs F1 I1 H1 h s1 R1 r1 => ?_, x⟩
  split at h
  · rename_i j os2
    cases r1 with
    | cons rj rr =>
      rename_i v vs
      have rj : σ[j]? = some (some v) := rj
      obtain ⟨ds, e, h⟩ := onlyK_of h
      have r := onlyD_ok rr e
      obtain ⟨a, c, rfl, ow, h, hk⟩ := lentK_of R1 h rj
      refine ⟨labC F1 j, I1, .lent a c :: ds.map S.d, _, _, ⟨R1.sub, fun b i z => R1.lab b j (labC_0 z).1, by simp [r.length], fun i s z => ?_⟩, fun b i z => by rw [(labC_0 z).2]; exact ⟨a, c, rfl⟩, h, fun o os' v F' I' H' h s' R' r' => ?_, fun x' os' cls d F' I' H' h s' R' ex => ?_⟩
      · cases i with
        | zero =>
          cases z
          obtain ⟨fp, g1, g2⟩ := ow
          refine ⟨_, rfl, rfl, fp, g1, fun b hb => ?_⟩
          obtain ⟨y1, y2, y3, y4⟩ := g2 b hb
          exact ⟨by unfold labC; rw [if_pos y1], y2, y3, y4⟩
        | succ i =>
          rw [map_some_get, List.getElem?_cons_succ, List.getElem?_map, Option.map_eq_some_iff] at z
          obtain ⟨d, z, rfl⟩ := z
          obtain ⟨v, h1, h2⟩ := r.get z
          exact ⟨v, by rw [map_some_get, List.getElem?_cons_succ]; exact h1, h2⟩
      · obtain ⟨a', c', os2, rfl, h⟩ := backC_of h
        obtain ⟨R2, s2⟩ := after_callM (os := os2) (c := c) (k := fun _ _ => True) R1 rj hk s' R'
        exact k o _ v _ I' H' h (s1.trans s2) R2 ((ret_okM R1 r').older fun b => s1.old)
      · obtain ⟨a', c', os2, rfl, h⟩ := backC_of h
        obtain ⟨R2, s2⟩ := after_callM (os := os2) (c := c) (k := fun _ _ => True) R1 rj hk s' R'
        exact x x' _ cls d _ I' H' h (s1.trans s2) R2 ex
  · exact h.elim
end
end Dt

namespace Dt
open PySem PySem.Spec PyProof.Rows L2

/-! ### the rules of calls -/
section
variable {X : Cx} {G : V → Nat → Option Addr → Prop} {W : WX} {pos pos' : Pos} {a : Expr} {es : List Expr} {g : DA} {k : Nat} {x : Str} {f : Addr} {fd : FuncData} {ps : List Str} {sp : DSp}
theorem e_call (F : FnOk X.prog X.w X.K X.mg X.base (L2.CX X.prog X.w) k f fd ps (spOf (pm X G) sp)) (tk : Takes X W) (hr : Room k X.A) (hg : Gl X x) (hm : X.mg x = some (.ref f)) (hk : PySem.W.keepIn X.K (.ref f) = true) (hb : Binds X.K fd ps [])
    (ha : PAd X G W (a :: es) g) (hdb : (x == ("__debug__" : Str)) = false := by decide) (he : starEach (a :: es) X.env = (false, eval a X.env) :: starEach es X.env := by rfl) (hpl : (backTo pos (starEach es X.env)).any (·.1) = false := by rfl) :
    PEd X G W (.Call (.Name x pos') (a :: es) [] pos) (dCall sp g) := PE.weak (pe_callS (E := WE W) F hr hg hm hk hb (fun σ => passAt tk σ) ha hdb he hpl) w_call
theorem e_callM (F : FnOk X.prog X.w X.K X.mg X.base (L2.CX X.prog X.w) k f fd ps (spOf (pm X G) sp)) (tk : Takes X W) (hr : Room k X.A) (hg : Gl X x) (hm : X.mg x = some (.ref f)) (hk : PySem.W.keepIn X.K (.ref f) = true) (hb : Binds X.K fd ps [])
    (ha : PAd X G W (a :: es) g) (hdb : (x == ("__debug__" : Str)) = false := by decide) (he : starEach (a :: es) X.env = (false, eval a X.env) :: starEach es X.env := by rfl) (hpl : (backTo pos (starEach es X.env)).any (·.1) = false := by rfl) :
    PEd X G W (.Call (.Name x pos') (a :: es) [] pos) (dCallM sp g) := PE.weak (pe_callS (E := WE W) F hr hg hm hk hb (fun σ => passAt tk σ) ha hdb he hpl) w_callM
end

/-! ### for, comprehensions -/
abbrev PTds (X : Cx) (G : V → Nat → Option Addr → Prop) (W : WX) (ifs : List Expr) (f : DT) : Prop := PTs X ifs (tT (pm X G) W f)
section
variable {X : Cx} {G : V → Nat → Option Addr → Prop} {W : WX} {pos pos' : Pos} {tg iter elt c : Expr} {ifs : List Expr} {body : List Stmt} {i : DI} {g : DG} {b : DS} {t : DT} {e : DE} {strong : Bool} {vs : List Nat} {scope : Scope} {own : List (Str × Nat)}
theorem ts_nil : PTds X G W [] dYes := ⟨fun pins s σ H Q I h => by
  obtain ⟨F, Ii, ρ, P, PX, R, f1, k, x⟩ := h
  exact pts_nil.run pins s σ H Q I (k true ρ F Ii H f1 (Step.refl ..) R)⟩
theorem ts_one (h : PTd X G W c t) : PTds X G W [c] t := pts_one h
theorem z_for (hp : PassesOwn (model X.prog X.w) X.A X.env X.xe) (hc : X.calm = true) (hi : PId X G W strong tg iter i) (hg : PGd X G strong vs tg g) (hb : PSsd X G W body b) (hs : ∀ x, foldedSetIterable iter X.env x = pure x := by intro _; rfl) :
    PSd X G W (.For tg iter body [] pos) (dFor i g b) := PS.weak (ps_for hp hc hi hg hb hs) w_for
theorem e_comp (hc : X.calm = true) (hN : X.N.Nodup) (hi : PId X G W strong tg iter i) (ok : BlkOk X.N X.env.scope scope own)
    (hg : ∀ (s : Shared) (H : Hp) (C : Addr) (cl : List (Str × Addr)) (fp : List Addr), PGd (X.blk s H scope (compEnvC scope cl C X.env) fp) G strong (own.map (·.2)) tg g) (ht : ∀ (s : Shared) (H : Hp) (C : Addr) (cl : List (Str × Addr)) (fp : List Addr), PTds (X.blk s H scope (compEnvC scope cl C X.env) fp) G W0 ifs t)
    (he : ∀ (s : Shared) (H : Hp) (C : Addr) (cl : List (Str × Addr)) (fp : List Addr), PEd (X.blk s H scope (compEnvC scope cl C X.env) fp) G W0 elt e) (hs : ∀ x, foldedSetIterable iter X.env x = pure x := by intro _; rfl) :
    PEd X G W (.ListComp elt [⟨tg, iter, ifs, 0⟩] scope pos) (dComp i g t e (own.map (·.2))) := PE.weak (pe_lc hc hN hi ok hg ht he hs) w_comp
theorem z_setComp {j : Nat} {y : Str} {py spos : Pos} (hc : X.calm = true) (hN : X.N.Nodup) (hy : X.N[j]? = some y) (hyl : X.env.scope.names.lookup y = some .local)
    (hsw : swapsWith (.ListComp elt [⟨tg, iter, ifs, 0⟩] scope pos) (some (.Name y py)) spos.line X.env = pure true) (hi : PId X G W strong tg iter i) (ok : BlkOk X.N X.env.scope scope own)
    (hg : ∀ (s : Shared) (H : Hp) (C : Addr) (cl : List (Str × Addr)) (fp : List Addr), PGd (X.blk s H scope (compEnvC scope cl C X.env) fp) G strong (own.map (·.2)) tg g) (ht : ∀ (s : Shared) (H : Hp) (C : Addr) (cl : List (Str × Addr)) (fp : List Addr), PTds (X.blk s H scope (compEnvC scope cl C X.env) fp) G W0 ifs t)
    (he : ∀ (s : Shared) (H : Hp) (C : Addr) (cl : List (Str × Addr)) (fp : List Addr), PEd (X.blk s H scope (compEnvC scope cl C X.env) fp) G W0 elt e) (hs : ∀ x, foldedSetIterable iter X.env x = pure x := by intro _; rfl) :
    PSd X G W (.Assign [.Name y py] (.ListComp elt [⟨tg, iter, ifs, 0⟩] scope pos) spos) (dSet j (dComp i g t e (own.map (·.2)))) := PS.weak (ps_setLc hc hN hy hyl hsw hi ok hg ht he hs) fun D σ H q => by
  obtain ⟨F, I, ρ, E, R, f1, k⟩ := q
  refine w_comp σ H _ ⟨F, I, ρ, _, E.ex, R, f1, fun o ρ' v F' I' H' h s' R' r' => ?_, k.xend⟩
  obtain ⟨F2, I2, ρ2, s2, R2, h2⟩ := setK_ok s' R' r' h
  exact k.nx ρ2 _ F2 I2 H' h2 s2 R2
end

/-! ### while -/
@[irreducible] def dWhile (t : DT) (b : DS) : DS := fun E ρ => ∃ W : Nat → Rho → Prop, (∃ m, W m ρ) ∧ ∀ m ρ, W m ρ →
  t ρ (fun c ρ1 => (c = true → b { E with nx := fun ρ' => ∃ m' < m, W m' ρ', ct := fun ρ' => ∃ m' < m, W m' ρ', bk := E.nx } ρ1) ∧ (c = false → E.nx ρ1)) E.ex
section
variable {X : Cx} {G : V → Nat → Option Addr → Prop} {W : WX} {pos : Pos} {c : Expr} {body : List Stmt} {t : DT} {b : DS} {p : Pm}
theorem w_while (D : Ends) (σ : L2.St) (H : Hp) (q : tS p W (dWhile t b) D σ H) : tWhile (tT p W t) (tS p W b) D σ H := by
  obtain ⟨F, I, ρ, E, R, q, k⟩ := q
  unfold dWhile at q
  obtain ⟨Wd, ⟨m0, w0⟩, turn⟩ := q
  refine ⟨fun m σ' H' => ∃ F' I' ρ', Step F I H F' I' H' ∧ Rel p F' I' H' σ' ρ' ∧ Wd m ρ', ⟨m0, F, I, ρ, Step.refl .., R, w0⟩, fun m σ' H' ⟨F', I', ρ', s', R', w'⟩ => ?_⟩
  refine ⟨F', I', ρ', _, E.ex, R', turn m ρ' w', fun c ρ1 F1 I1 H1 h s1 R1 => ?_, (k.later s').xend⟩
  have k1 := k.later (s'.trans s1)
  cases c with
  | false => exact iteF (k1.nx ρ1 _ F1 I1 H1 (h.2 rfl) (Step.refl ..) R1)
  | true =>
    refine iteT ⟨fun σ2 H2 => ∃ m' < m, ∃ F' I' ρ', Step F I H F' I' H2 ∧ Rel p F' I' H2 σ2 ρ' ∧ Wd m' ρ', fun σ2 H2 ⟨m', hm, h⟩ => ⟨m', hm, h⟩, ?_⟩
    refine ⟨F1, I1, ρ1, _, R1, h.1 rfl, ⟨fun ρ2 σ2 F2 I2 H2 ⟨m', hm, h⟩ s2 R2 => ?_, k1.nx, fun ρ2 σ2 F2 I2 H2 ⟨m', hm, h⟩ s2 R2 => ?_, k1.rt, k1.ex⟩⟩
    · exact ⟨m', hm, F2, I2, ρ2, (s'.trans s1).trans s2, R2, h⟩
    · exact ⟨m', hm, F2, I2, ρ2, (s'.trans s1).trans s2, R2, h⟩
theorem z_while (hp : PassesOwn (model X.prog X.w) X.A X.env X.xe) (hc : PTd X G W c t) (hb : PSsd X G W body b) : PSd X G W (.While c body [] pos) (dWhile t b) := PS.weak (ps_while hp hc hb) w_while
end

/-! ### count of a list or a tuple -/
def cntLF : D → DF := fun d ds P => match d, ds with
  | .list xs, [.int k] => intsK xs fun ns => P (.d (.int ((ns.count k : Nat) : Int)))
  | .list xs, [.bool k] => boolsK xs fun ns => P (.d (.int ((ns.count k : Nat) : Int)))
  | _, _ => False
def cntTF : D → DF := fun d ds P => match d, ds with
  | .tuple xs, [.int k] => intsK xs fun ns => P (.d (.int ((ns.count k : Nat) : Int)))
  | _, _ => False
theorem eqv_int (a b : Int) : PyData.eqv (.int a) (.int b) = (a == b) := by simp [PyData.eqv]
theorem countP_ints (ns : List Int) (k : Int) : ((ns.map PyData.int).countP fun y => PyData.eqv y (.int k)) = ns.count k := by
  rw [List.countP_map, List.count]
  congr 1
theorem dp_ints {K : PySem.W.Frag} {H : Hp} : ∀ ns : List Int, DpAll K H (ns.map V.int) (ns.map PyData.int)
  | [] => .nil
  | n :: ns => .cons (.int n) (dp_ints ns)
theorem plain_ints : ∀ ns : List Int, PyData.plainAll (ns.map PyData.int) = true
  | [] => rfl
  | n :: ns => by
    have := plain_ints ns
    simp [PyData.plainAll, PyData.plain, this]
theorem eqv_bool1 (a b : Bool) : PyData.eqv (.bool a) (.bool b) = (a == b) := by cases a <;> cases b <;> rfl
theorem countP_bools (ns : List Bool) (k : Bool) : ((ns.map PyData.bool).countP fun y => PyData.eqv y (.bool k)) = ns.count k := by
  rw [List.countP_map, List.count]
  congr 1
theorem dp_bools {K : PySem.W.Frag} {H : Hp} : ∀ ns : List Bool, DpAll K H (ns.map V.bl) (ns.map PyData.bool)
  | [] => .nil
  | n :: ns => .cons (.bl n) (dp_bools ns)
theorem plain_bools : ∀ ns : List Bool, PyData.plainAll (ns.map PyData.bool) = true
  | [] => rfl
  | n :: ns => by
    have := plain_bools ns
    simp [PyData.plainAll, PyData.plain, this]
section
variable {p : Pm}
theorem s_cntL : MtS p "list" (rCount (fun q vs H => SqL p.K H q vs) p.K) cntLF := by
  intro F I H σ ρ v vs d ds P Q R h1 h2 h k
  unfold cntLF at h
  split at h
  · obtain ⟨w, rfl, r2⟩ := args1 h2
    obtain ⟨ns, rfl, hh⟩ := intsK_of h
    obtain ⟨a, rfl, e⟩ := listInts R.sub h1
    refine ⟨a, w, _, _, _, rfl, rfl, e, dp_ints ns, by rw [r2.int]; exact .int _, plain_ints ns, rfl, by simp [PyData.depth], ?_⟩
    rw [countP_ints]
    exact k.flat R hh (.int _)
  · rename_i k'
    obtain ⟨w, rfl, r2⟩ := args1 h2
    obtain ⟨ns, rfl, hh⟩ := boolsK_of h
    obtain ⟨a, vs, rfl, e, r⟩ := h1.list R.sub
    rw [r.ofBools] at e
    refine ⟨a, w, _, _, .bool k', rfl, rfl, SqL.of e, dp_bools ns, ?_, plain_bools ns, rfl, by simp [PyData.depth], ?_⟩
    · rw [r2.bool]; exact .bl _
    rw [countP_bools]
    exact k.flat R hh (.int _)
  · exact h.elim
theorem s_cntT : MtS p "tuple" (rCount (fun q vs H => SqT p.K H q vs) p.K) cntTF := by
  intro F I H σ ρ v vs d ds P Q R h1 h2 h k
  unfold cntTF at h
  split at h
  · obtain ⟨w, rfl, r2⟩ := args1 h2
    obtain ⟨ns, rfl, hh⟩ := intsK_of h
    obtain ⟨a, rfl, e⟩ := tupInts R.sub h1
    refine ⟨a, w, _, _, _, rfl, rfl, e, dp_ints ns, by rw [r2.int]; exact .int _, plain_ints ns, rfl, by simp [PyData.depth], ?_⟩
    rw [countP_ints]
    exact k.flat R hh (.int _)
  · exact h.elim
end
def cntK (d : D) (k1 k2 : Prop) : Prop := match d with
  | .list _ => k1
  | .tuple _ => k2
  | _ => False
def dCnt (a : DE) (g : DA) : DE := fun ρ P PX => a ρ (fun o ρ1 => vw1 ρ1 o fun d0 => cntK d0
  (g ρ1 (fun os ρ2 => vw1 ρ2 o fun d => vwsK ρ2 os fun ds => cntLF d ds fun o => P o ρ2) PX)
  (g ρ1 (fun os ρ2 => vw1 ρ2 o fun d => vwsK ρ2 os fun ds => cntTF d ds fun o => P o ρ2) PX)) PX
section
variable {X : Cx} {G : V → Nat → Option Addr → Prop} {W : WX} {apos cpos : Pos} {a e : Expr} {fa : DE} {g : DA}
theorem e_cnt (hu : X.A.units + 64 < cLine) (ho : PEd X G W a fa) (ha : PAd X G W [e] g)
    (hbase : attributeBase a "count" X.env (eval a X.env) = eval a X.env := by rfl)
    (hfew : ((backTo cpos (starEach [e] X.env)).all (fun x => !x.1) && (backToKw cpos (keywordEach [] X.env)).all (fun x => x.1.isSome)
      && decide (([e] : List Expr).length + ([] : List Keyword).length + (if ([] : List Keyword).isEmpty then 0 else 1) < 30)) = true := by rfl)
    (hline : (apos.endLine == cpos.line) = true := by rfl) (h1 : starEach [e] X.env = (false, eval e X.env) :: starEach [] X.env := by rfl) (hplain : (backTo cpos (starEach [] X.env)).any (·.1) = false := by rfl) :
    PEd X G W (.Call (.Attribute a "count" apos) [e] [] cpos) (dCnt fa g) :=
  PE.weak (pe_bw2 PySem.F.plainAttrs_list PySem.F.slot_list_count PySem.F.type_list_count (mt_countL hu) PySem.F.plainAttrs_tuple PySem.F.slot_tuple_count PySem.F.type_tuple_count (mt_countT hu) ho ha hbase hfew hline h1 hplain) fun σ H Q q => by
    obtain ⟨F, I, ρ, P, PX, R, f1, k, x⟩ := q
    refine ⟨F, I, ρ, _, PX, R, f1, fun o ρ1 v F1 I1 H1 f2 s1 R1 r1 => ?_, x⟩
    obtain ⟨d, e, f2⟩ := vw1_of f2
    have hd0 := vw_ok R1 r1 e
    unfold cntK at f2
    split at f2
    · refine .inl ⟨okTy_of (T := "list") R1.sub hd0 rfl, F1, I1, ρ1, _, PX, R1, f2, fun os ρ2 vs F2 I2 H2 f3 s2 R2 r2 => ?_, x.later s1⟩
      obtain ⟨d2, e2, f3⟩ := vw1_of f3
      obtain ⟨ds, e3, f4⟩ := vwsK_of f3
      have s3 := s1.trans s2
      exact s_cntL F2 I2 H2 σ ρ2 _ vs _ _ _ Q R2 (vw_ok R2 (r1.stay s2) e2) (vws_ok R2 r2 e3) f4 fun o v' I' H' h s' R' r' => k o ρ2 v' F2 I' H' h (s3.trans s') R' (r'.older fun b e => s3.old e)
    · refine .inr ⟨okTy_of (T := "tuple") R1.sub hd0 rfl, F1, I1, ρ1, _, PX, R1, f2, fun os ρ2 vs F2 I2 H2 f3 s2 R2 r2 => ?_, x.later s1⟩
      obtain ⟨d2, e2, f3⟩ := vw1_of f3
      obtain ⟨ds, e3, f4⟩ := vwsK_of f3
      have s3 := s1.trans s2
      exact s_cntT F2 I2 H2 σ ρ2 _ vs _ _ _ Q R2 (vw_ok R2 (r1.stay s2) e2) (vws_ok R2 r2 e3) f4 fun o v' I' H' h s' R' r' => k o ρ2 v' F2 I' H' h (s3.trans s') R' (r'.older fun b e => s3.old e)
    · exact f2.elim
end

/-! ### what changes an owned list -/
section
variable {p : Pm} {F F' F0 : Lab} {I I' I0 H0 H1 H H' : Hp} {σ : L2.St} {ρ ρ' : Rho} {v w : V} {o : O}
/-- slot j's list is rewritten -/
theorem mut_ok {j : Nat} {a : Addr} {ds ds' : List D} {vs' : List V} (R : Rel p F I H σ ρ) (e : σ[j]? = some (some (.ref a))) (hc : cst ρ j = some (.lst ds)) (r : DdAll p I vs' ds') :
    Rel p F I (upd H a (.lst vs')) σ (putC ρ j (.lst ds')) ∧ Step F I H F I (upd H a (.lst vs')) := by
  obtain ⟨a', q, fp, ⟨rfl, ws, g1, g2⟩, g3⟩ := R.cst e hc
  cases q
  obtain ⟨f1, f2, _, f4⟩ := g3 a (by simp)
  have hi : ∀ b y, I b = some y → b ≠ a := fun b y z q => by rw [q, f2] at z; cases z
  have hne : ∀ b i, F b = some i → i ≠ j → b ≠ a := fun b i z n q => by rw [q, f1] at z; cases z; exact n rfl
  have th : ∀ b, H b ≠ none → (upd H a (.lst vs')) b ≠ none := fun b z => by
    by_cases hb : b = a
    · subst hb; rw [upd_same]; simp
    · rw [upd_ne hb]; exact z
  have own : Own p F I (upd H a (.lst vs')) (some j) (fun _ => True) a (.lst ds') := ⟨[a], ⟨rfl, vs', upd_same, r⟩, fun b hb => by
    have e : b = a := by simpa using hb
    subst e
    exact ⟨f1, f2, trivial, by rw [upd_same]; simp⟩⟩
  have hp : ∃ s, putC ρ j (.lst ds') = ρ.set j (some s) ∧ SlotOk p F I (upd H a (.lst vs')) j (.ref a) s := by
    unfold cst at hc
    split at hc
    · rename_i q
      exact ⟨.own (.lst ds'), by unfold putC; rw [q], a, rfl, own⟩
    · rename_i a0 c0 q
      obtain ⟨u, y1, y2, _⟩ := R.slot j _ q
      rw [e] at y1; cases y1; cases y2
      exact ⟨.lent a (.lst ds'), by unfold putC; rw [q], rfl, own⟩
    · cases hc
  obtain ⟨s, hp, hs⟩ := hp
  refine ⟨⟨fun b y z => by rw [upd_ne (hi b y z)]; exact R.sub b y z, fun b i z => ⟨(R.lab b i z).1, th b (R.lab b i z).2⟩, by rw [hp, List.length_set]; exact R.len, fun i sl z => ?_⟩,
    ⟨fun b y z n => by rw [upd_ne (fun q => by rw [q, f1] at n; cases n)]; exact z, fun _ _ z => z, fun _ z => .inl z, fun _ _ z => .inl z, th⟩⟩
  rw [hp] at z
  by_cases hij : j = i
  · subst hij
    have hj : j < ρ.length := by rw [R.len]; exact (List.getElem?_eq_some_iff.mp e).1
    rw [List.getElem?_set_self hj] at z
    cases z
    exact ⟨_, e, hs⟩
  · rw [List.getElem?_set_ne hij] at z
    obtain ⟨u, h1, h2⟩ := R.slot i sl z
    refine ⟨u, h1, ?_⟩
    have ow : ∀ {b : Addr} {c : C}, Own p F I H (some i) (fun _ => True) b c → Own p F I (upd H a (.lst vs')) (some i) (fun _ => True) b c := fun {b c} ⟨fp, g1, g2⟩ =>
      ⟨fp, g1.keep (fun z hz => upd_ne (hne z i (g2 z hz).1 (fun y => hij y.symm))) (fun _ _ e => e), fun z hz => ⟨(g2 z hz).1, (g2 z hz).2.1, trivial, th z (g2 z hz).2.2.2⟩⟩
    cases sl with
    | d d => exact h2
    | own c => obtain ⟨b, e, h2⟩ := h2; exact ⟨b, e, ow h2⟩
    | lent b c => exact ⟨h2.1, ow h2.2⟩
    | exc x => exact h2
end
/-- a method that rewrites a list: f old args new result -/
abbrev MF := List D → List D → (List D → D → Prop) → Prop
def MuS (p : Pm) (r : V → List V → Hp → VK → Prop) (f : MF) : Prop := ∀ I H a vs ds xs es k Q, Same I H → H a = some (.lst vs) → DdAll p I vs ds → DdAll p I xs es → f ds es k →
  (∀ vs' ds' v d, DdAll p I vs' ds' → Dd p I v d → k ds' d → Q v (upd H a (.lst vs'))) → r (.ref a) xs H Q
def locK (o : O) (k : Nat → Prop) : Prop := match o with
  | .loc j => k j
  | _ => False
def lstK (ρ : Rho) (j : Nat) (k : List D → Prop) : Prop := match cst ρ j with
  | some (.lst ds) => k ds
  | _ => False
def dMu (f : MF) (a : DE) (g : DA) : DE := fun ρ P PX => a ρ (fun o ρ1 => locK o fun j => lstK ρ1 j (fun _ => True) ∧ g ρ1 (fun os ρ2 => onlyK os fun es => lstK ρ2 j fun ds => f ds es fun ds' d => P (.d d) (putC ρ2 j (.lst ds'))) PX) PX
theorem locK_of {o : O} {k : Nat → Prop} (h : locK o k) : ∃ j, o = .loc j ∧ k j := by
  unfold locK at h
  split at h
  · exact ⟨_, rfl, h⟩
  · exact h.elim
theorem lstK_of {ρ : Rho} {j : Nat} {k : List D → Prop} (h : lstK ρ j k) : ∃ ds, cst ρ j = some (.lst ds) ∧ k ds := by
  unfold lstK at h
  split at h
  · exact ⟨_, by assumption, h⟩
  · exact h.elim
section
variable {p : Pm} {W : WX}
theorem mu_run {r : V → List V → Hp → VK → Prop} {f : MF} {F0 : Lab} {I0 H0 : Hp} {F : Lab} {I H : Hp} {σ : L2.St} {ρ : Rho} {j : Nat} {v : V} {xs : List V} {es ds : List D} {P : O → Rho → Prop} {Q : VK} (hs : MuS p r f) (s0 : Step F0 I0 H0 F I H) (R : Rel p F I H σ ρ) (rv : σ[j]? = some (some v)) (rx : DdAll p I xs es) (hc : cst ρ j = some (.lst ds))
    (hf : f ds es fun ds' d => P (.d d) (putC ρ j (.lst ds'))) (k : ∀ o ρ' v F' I' H', P o ρ' → Step F0 I0 H0 F' I' H' → Rel p F' I' H' σ ρ' → ResOk p F' I' H0 H' σ v o → Q v H') : r v xs H Q := by
  obtain ⟨a, rfl, fp, ⟨rfl, vs, g1, g2⟩, g3⟩ := R.cst rv hc
  refine hs I H a vs ds xs es _ Q R.sub g1 g2 rx hf fun vs' ds' v d r1 r2 h => ?_
  obtain ⟨R', s'⟩ := mut_ok R rv hc r1
  exact k _ _ v F I _ h (s0.trans s') R' r2
theorem w_mu {r : V → List V → Hp → VK → Prop} {f : MF} {a : DE} {g : DA} (hs : MuS p r f) (σ : L2.St) (H : Hp) (Q : VK) (q : tE p W (dMu f a g) σ H Q) : tBW p.K "list" r (tE p W a) (tA p W g) σ H Q := by
  obtain ⟨F, I, ρ, P, PX, R, f1, k, x⟩ := q
  refine ⟨F, I, ρ, _, PX, R, f1, fun o ρ1 v F1 I1 H1 f2 s1 R1 r1 => ?_, x⟩
  obtain ⟨j, rfl, f2, f3⟩ := locK_of f2
  have r1 : σ[j]? = some (some v) := r1
  obtain ⟨ds, hc, _⟩ := lstK_of f2
  obtain ⟨a, rfl, fp, ⟨rfl, vs, g1, g2⟩, g3⟩ := R1.cst r1 hc
  refine ⟨.inl (.inl ⟨rfl, vs, SqL.of g1⟩), F1, I1, ρ1, _, PX, R1, f3, fun os ρ2 xs F2 I2 H2 f4 s2 R2 r2 => ?_, x.later s1⟩
  obtain ⟨es, he, f4⟩ := onlyK_of f4
  obtain ⟨ds2, hc2, f5⟩ := lstK_of f4
  exact mu_run hs (s1.trans s2) R2 r1 (onlyD_ok r2 he) hc2 f5 k
theorem w_mu0 {r : V → List V → Hp → VK → Prop} {f : MF} {a : DE} (hs : MuS p r f) (σ : L2.St) (H : Hp) (Q : VK) (q : tE p W (dMu f a dNil) σ H Q) : tBW0 p.K "list" r (tE p W a) σ H Q := by
  obtain ⟨F, I, ρ, P, PX, R, f1, k, x⟩ := q
  refine ⟨F, I, ρ, _, PX, R, f1, fun o ρ1 v F1 I1 H1 f2 s1 R1 r1 => ?_, x⟩
  obtain ⟨j, rfl, f2, f3⟩ := locK_of f2
  have r1 : σ[j]? = some (some v) := r1
  obtain ⟨ds, hc, _⟩ := lstK_of f2
  obtain ⟨a, rfl, fp, ⟨rfl, vs, g1, g2⟩, g3⟩ := R1.cst r1 hc
  refine ⟨.inl (.inl ⟨rfl, vs, SqL.of g1⟩), ?_⟩
  have f3 : onlyK [] (fun es => lstK ρ1 j fun ds => f ds es fun ds' d => P (.d d) (putC ρ1 j (.lst ds'))) := f3
  obtain ⟨es, he, f4⟩ := onlyK_of f3
  cases he
  obtain ⟨ds2, hc2, f5⟩ := lstK_of f4
  exact mu_run hs s1 R1 r1 .nil hc2 f5 k
end
def appF : MF := fun ds es k => match es with
  | [e] => ds.length ≤ 16000000 ∧ k (ds ++ [e]) .none
  | _ => False
def extF : MF := fun ds es k => match es with
  | [.list xs] => ds.length + xs.length ≤ 16000000 ∧ k (ds ++ xs) .none
  | _ => False
def popF : MF := fun ds es k => match es with
  | [] => getK ds[ds.length - 1]? fun d => k ds.dropLast d
  | _ => False
def popAtF : MF := fun ds es k => match es with
  | [.int i] => (-(2 ^ 62) < i ∧ i < 2 ^ 62) ∧ getK (seqIndex? i ds.length) fun n => getK ds[n]? fun d => k (ds.eraseIdx n) d
  | _ => False
def revF : MF := fun ds es k => match es with
  | [] => k ds.reverse .none
  | _ => False
def clrF : MF := fun ds es k => match es with
  | [] => k [] .none
  | _ => False
def insF : MF := fun ds es k => match es with
  | [.int i, e] => (ds.length ≤ 16000000 ∧ 0 ≤ i ∧ i < 2 ^ 62) ∧ k (ds.take i.toNat ++ [e] ++ ds.drop i.toNat) .none
  | _ => False
section
variable {p : Pm} {I H : Hp} {vs : List V}
theorem dargs1 {d : D} (h : DdAll p I vs [d]) : ∃ v, vs = [v] ∧ Dd p I v d := by
  cases h with
  | cons r rr => cases rr; exact ⟨_, rfl, r⟩
theorem dargs2 {d e : D} (h : DdAll p I vs [d, e]) : ∃ v w, vs = [v, w] ∧ Dd p I v d ∧ Dd p I w e := by
  cases h with
  | cons r rr => cases rr with
    | cons r' rr => cases rr; exact ⟨_, _, rfl, r, r'⟩
theorem dargs0 (h : DdAll p I vs []) : vs = [] := by cases h; rfl
theorem s_app : MuS p rAppend appF := by
  intro I H a vs ds xs es k Q s h r rx hf q
  have sl : (sizeLine : Nat) = 16777216 := sizeLine_eq
  unfold appF at hf
  split at hf
  · obtain ⟨v, rfl, rv⟩ := dargs1 rx
    exact ⟨a, vs, v, rfl, rfl, h, by have := r.length; have := hf.1; omega, q _ _ _ _ (DdAll.append r (.cons rv .nil)) .non hf.2⟩
  · exact hf.elim
theorem s_ext : MuS p rExtend extF := by
  intro I H a vs ds xs es k Q s h r rx hf q
  have sl : (sizeLine : Nat) = 16777216 := sizeLine_eq
  unfold extF at hf
  split at hf
  · obtain ⟨v, rfl, rv⟩ := dargs1 rx
    cases rv with
    | lst e hs =>
      exact ⟨a, _, vs, _, rfl, rfl, h, s _ _ e, by have := r.length; have := hs.length; have := hf.1; omega, q _ _ _ _ (DdAll.append r hs) .non hf.2⟩
  · exact hf.elim
theorem s_pop : MuS p rPop popF := by
  intro I H a vs ds xs es k Q s h r rx hf q
  unfold popF at hf
  split at hf
  · obtain ⟨d0, e0, hf⟩ := getK_of hf
    obtain ⟨v, h1, h2⟩ := r.get e0
    exact ⟨a, vs, v, rfl, dargs0 rx, h, by rw [r.length]; exact h1, q _ _ _ _ r.dropLast h2 hf⟩
  · exact hf.elim
theorem s_popAt : MuS p rPopAt popAtF := by
  intro I H a vs ds xs es k Q s h r rx hf q
  unfold popAtF at hf
  split at hf
  · obtain ⟨v, rfl, rv⟩ := dargs1 rx
    cases rv
    obtain ⟨hr, hf⟩ := hf
    obtain ⟨n0, e0, hf⟩ := getK_of hf
    obtain ⟨d0, e1, hf⟩ := getK_of hf
    obtain ⟨v, h1, h2⟩ := r.get e1
    exact ⟨a, vs, _, _, v, rfl, rfl, h, by omega, by omega, by rw [r.length]; exact e0, h1, q _ _ _ _ (r.erase _) h2 hf⟩
  · exact hf.elim
theorem s_revM : MuS p rReverse revF := by
  intro I H a vs ds xs es k Q s h r rx hf q
  unfold revF at hf
  split at hf
  · exact ⟨a, vs, rfl, dargs0 rx, h, q _ _ _ _ r.reverse .non hf⟩
  · exact hf.elim
theorem s_clr : MuS p rClear clrF := by
  intro I H a vs ds xs es k Q s h r rx hf q
  unfold clrF at hf
  split at hf
  · exact ⟨a, vs, rfl, dargs0 rx, h, q _ _ _ _ .nil .non hf⟩
  · exact hf.elim
theorem s_insM : MuS p (fun x vs H Q => ∃ (l : Addr) (xs : List V) (i : Int) (y : V), x = .ref l ∧ vs = [.int i, y] ∧ H l = some (.lst xs) ∧ xs.length < sizeLine ∧ 0 ≤ i ∧ i < 2 ^ 63 ∧
    Q .non (upd H l (.lst (xs.take i.toNat ++ [y] ++ xs.drop i.toNat)))) insF := by
  intro I H a vs ds xs es k Q s h r rx hf q
  have sl : (sizeLine : Nat) = 16777216 := sizeLine_eq
  unfold insF at hf
  split at hf
  · obtain ⟨v, w, rfl, rv, rw'⟩ := dargs2 rx
    cases rv
    exact ⟨a, vs, _, w, rfl, rfl, h, by have := r.length; have := hf.1; omega, hf.1.2.1, by have := hf.1.2.2; omega, q _ _ _ _ (DdAll.append (DdAll.append (r.take _) (.cons rw' .nil)) (r.drop _)) .non hf.2⟩
  · exact hf.elim
end
section
variable {X : Cx} {G : V → Nat → Option Addr → Prop} {W : WX} {apos cpos : Pos} {a e : Expr} {fa : DE} {es : List Expr} {g : DA} {name : Str} {id : String} {r : V → List V → Hp → VK → Prop} {f : MF}
theorem e_mu (slot : Slot "list" name id) (hty : typeOf (.builtin id) = pure (.type "method_descriptor")) (hm : MtR X id r) (hs : MuS (pm X G) r f) (ho : PEd X G W a fa) (ha : PAd X G W (e :: es) g)
    (hbase : attributeBase a name X.env (eval a X.env) = eval a X.env := by rfl)
    (hfew : ((backTo cpos (starEach (e :: es) X.env)).all (fun x => !x.1) && (backToKw cpos (keywordEach [] X.env)).all (fun x => x.1.isSome)
      && decide ((e :: es).length + ([] : List Keyword).length + (if ([] : List Keyword).isEmpty then 0 else 1) < 30)) = true := by rfl)
    (hline : (apos.endLine == cpos.line) = true := by rfl) (h1 : starEach (e :: es) X.env = (false, eval e X.env) :: starEach es X.env := by rfl) (hplain : (backTo cpos (starEach es X.env)).any (·.1) = false := by rfl) :
    PEd X G W (.Call (.Attribute a name apos) (e :: es) [] cpos) (dMu f fa g) := PE.weak (pe_bw PySem.F.plainAttrs_list slot hty hm ho ha hbase hfew hline h1 hplain) (w_mu hs)
theorem e_mu0 (slot : Slot "list" name id) (hty : typeOf (.builtin id) = pure (.type "method_descriptor")) (hm : MtR X id r) (hs : MuS (pm X G) r f) (ho : PEd X G W a fa)
    (hbase : attributeBase a name X.env (eval a X.env) = eval a X.env := by rfl) (hline : (apos.endLine == cpos.line) = true := by rfl) :
    PEd X G W (.Call (.Attribute a name apos) [] [] cpos) (dMu f fa dNil) := PE.weak (pe_bw0 PySem.F.plainAttrs_list slot hty hm ho hbase hline) (w_mu0 hs)
end
/-! ### xs[i] = v, xs[i] += v -/
/-- target's value first, then the list, then the place -/
def setIxK (ρ : Rho) (j : Nat) (i : Int) (d : D) (k : Rho → Prop) : Prop := lstK ρ j fun ds => getK (ixN ds.length i) fun n => k (putC ρ j (.lst (ds.set n d)))
def intK (o : O) (k : Int → Prop) : Prop := match o with
  | .d (.int i) => k i
  | _ => False
theorem intK_of {o : O} {k : Int → Prop} (h : intK o k) : ∃ i, o = .d (.int i) ∧ k i := by
  unfold intK at h
  split at h
  · exact ⟨_, rfl, h⟩
  · exact h.elim
/-- o is data from here on -/
def onlyd1 (o : O) (k : D → Prop) : Prop := match o with
  | .d d => k d
  | _ => False
theorem onlyd1_of {o : O} {k : D → Prop} (h : onlyd1 o k) : ∃ d, o = .d d ∧ k d := by
  unfold onlyd1 at h
  split at h
  · exact ⟨_, rfl, h⟩
  · exact h.elim
def dSetIx (f a b : DE) : DS := fun E ρ => f ρ (fun o ρ1 => onlyd1 o fun d => a ρ1 (fun o2 ρ2 => locK o2 fun j => b ρ2 (fun o3 ρ3 => intK o3 fun i => setIxK ρ3 j i d E.nx) E.ex) E.ex) E.ex
/-- xs[i] op= e, the item an int -/
def dAugIx (op : D2) (a b f : DE) : DS := fun E ρ => a ρ (fun o ρ1 => locK o fun j => b ρ1 (fun o2 ρ2 => intK o2 fun i => lstK ρ2 j fun ds => getK (atI ds i) fun d => f ρ2 (fun o3 ρ3 => vw1 ρ3 o3 fun e => op d e fun o4 => onlyd1 o4 fun d' => setIxK ρ3 j i d' E.nx) E.ex) E.ex) E.ex
section
variable {p : Pm} {W : WX}
theorem set_run {F0 F : Lab} {I0 H0 I H : Hp} {σ : L2.St} {ρ : Rho} {j : Nat} {v w : V} {i : Int} {d : D} {k : Rho → Prop} {Q : Hp → Prop} (s0 : Step F0 I0 H0 F I H) (R : Rel p F I H σ ρ) (rv : σ[j]? = some (some v)) (rd : Dd p I w d) (hf : setIxK ρ j i d k)
    (q : ∀ ρ' F' I' H', k ρ' → Step F0 I0 H0 F' I' H' → Rel p F' I' H' σ ρ' → Q H') : rSetL v (.int i) w H Q := by
  obtain ⟨ds, hc, hf⟩ := lstK_of hf
  obtain ⟨n0, e0, hf⟩ := getK_of hf
  obtain ⟨a, rfl, fp, ⟨rfl, vs, g1, g2⟩, g3⟩ := R.cst rv hc
  obtain ⟨R', s'⟩ := mut_ok R rv hc (g2.set rd _)
  exact ⟨a, vs, i, _, rfl, rfl, g1, by rw [g2.length]; exact e0, q _ _ _ _ hf (s0.trans s') R'⟩
end
section
variable {X : Cx} {G : V → Nat → Option Addr → Prop} {W : WX} {pos tpos : Pos} {a b e : Expr} {fa fb fe : DE}
theorem z_setIx (he : PEd X G W e fe) (ha : PEd X G W a fa) (hb : PEd X G W b fb)
    (h1 : ∀ v, assign (.Subscript a b tpos) X.env v = (do
      let ov ← holding [v] (eval a X.env)
      let iv ← holding [v, ov] (eval b X.env)
      standAt tpos
      holding [v, ov, iv] (setItem ov iv v)
      release [v, ov, iv] []) := by intro _; rfl)
    (hs : swapsWithSole [.Subscript a b tpos] e pos.line X.env = pure false := by rfl) (hw : swappedStores [.Subscript a b tpos] e X.env = pure none := by rfl)
    (h2 : (assignEach [.Subscript a b tpos] X.env).map (·.2) = [assign (.Subscript a b tpos) X.env] := by rfl) : PSd X G W (.Assign [.Subscript a b tpos] e pos) (dSetIx fe fa fb) :=
  PS.weak (ps_asg he (pg_sub ha hb set_list h1) hs hw h2) fun D σ H q => by
    obtain ⟨F, I, ρ, E, R, f1, k⟩ := q
    refine ⟨F, I, ρ, _, E.ex, R, f1, fun o ρ1 v F1 I1 H1 f2 s1 R1 r1 => ?_, k.xend⟩
    obtain ⟨d, rfl, f2⟩ := onlyd1_of f2
    refine ⟨F1, I1, ρ1, _, E.ex, R1, f2, fun o2 ρ2 w F2 I2 H2 f3 s2 R2 r2 => ?_, (k.later s1).xend⟩
    obtain ⟨j, rfl, f3⟩ := locK_of f3
    have s12 := s1.trans s2
    refine ⟨F2, I2, ρ2, _, E.ex, R2, f3, fun o3 ρ3 u F3 I3 H3 f4 s3 R3 r3 => ?_, (k.later s12).xend⟩
    obtain ⟨i, rfl, f4⟩ := intK_of f4
    cases r3
    exact set_run (p := pm X G) (s12.trans s3) R3 r2 (Dd.mono (s2.trans s3).inc r1) f4 fun ρ' F' I' H' h s' R' => k.nx ρ' σ F' I' H' h s' R'
theorem z_augIx {op : Operator} {r : TIp} {f : D2} (ha : PEd X G W a fa) (hb : PEd X G W b fb) (he : PEd X G W e fe) (ho : PIp X op r) (hs : IpS (pm X G) r f) (hg : PGet X (rIxL X.K))
    (h1 : ∀ ov iv new, augStore b ov iv new = (do holding [new, ov, iv] (setItem ov iv new); release [new, ov, iv] []; pure .next) := by intros; rfl) : PSd X G W (.AugAssign (.Subscript a b tpos) op e pos) (dAugIx f fa fb fe) :=
  PS.weak (ps_augS ha hb hg he ho set_list h1) fun D σ H q => by
    obtain ⟨F, I, ρ, E, R, f1, k⟩ := q
    refine ⟨F, I, ρ, _, E.ex, R, f1, fun o ρ1 v F1 I1 H1 f2 s1 R1 r1 => ?_, k.xend⟩
    obtain ⟨j, rfl, f2⟩ := locK_of f2
    refine ⟨F1, I1, ρ1, _, E.ex, R1, f2, fun o2 ρ2 w F2 I2 H2 f3 s2 R2 r2 => ?_, (k.later s1).xend⟩
    obtain ⟨i, rfl, f3⟩ := intK_of f3
    cases r2
    have s12 := s1.trans s2
    obtain ⟨ds, hc, f3⟩ := lstK_of f3
    obtain ⟨d, e1, f3⟩ := getK_of f3
    · obtain ⟨a, rfl, fp, ⟨rfl, vs, g1, g2⟩, g3⟩ := R2.cst r1 hc
      obtain ⟨u, h3, h4⟩ := atI_ok g2 e1
      refine ⟨a, vs, i, u, rfl, rfl, SqL.of g1, h3, F2, I2, ρ2, _, E.ex, R2, f3, fun o3 ρ3 w F3 I3 H3 f4 s3 R3 r3 => ?_, (k.later s12).xend⟩
      obtain ⟨e, e2, f4⟩ := vw1_of f4
      have s13 := s12.trans s3
      refine hs F3 I3 H3 σ ρ3 u w d e _ _ R3 (Dd.mono s3.inc h4) (vw_ok R3 r3 e2) f4 fun o4 v4 I4 H4 h s4 R4 r4 => ?_
      obtain ⟨d', rfl, h⟩ := onlyd1_of h
      exact set_run (p := pm X G) (s13.trans s4) R4 r1 r4 h fun ρ' F' I' H' h s' R' => k.nx ρ' σ F' I' H' h s' R'
end
end Dt

namespace Dt
open PySem PySem.Spec PyProof.Rows L2

/-! ### more rules -/
/-- a list's or a tuple's items -/
def itSeqK (o : O) (k : List D → Prop) : Prop := match o with
  | .d (.list ds) => k ds
  | .d (.tuple ds) => k ds
  | .tmp (.lst ds) => k ds
  | _ => False
def dIt (f : DE) : DI := fun ρ P PX => f ρ (fun o ρ1 => itSeqK o fun ds => P ds ρ1) PX
/-- what is read is a list or a tuple -/
def iSeq (K : PySem.W.Frag) (tl : TE) : TI := fun σ H R => tl σ H fun x H1 => ∃ a, x = .ref a ∧ (((∃ xs, SqL K H1 a xs) ∧ R (Itl K a) H1) ∨ ((∃ xs, SqT K H1 a xs) ∧ R (Itt K a) H1))
section
variable {X : Cx} {G : V → Nat → Option Addr → Prop} {W : WX} {pos pos' kp1 kp2 : Pos} {tg a e : Expr} {es : List Expr} {fa : DE} {g : DA} {t : DT}
theorem pi_seq {l : Expr} {tl : TE} (hl : PE X l tl) : PI X tg l (iSeq X.K tl) := ⟨fun pins s σ H R J h => thn (hl.run pins s σ H _ J h) fun v s1 ⟨x, H1, I1, r1, q1⟩ => by
  obtain ⟨u, rfl, q⟩ := q1
  cases r1
  have fr : ∀ b ∈ [s1.heap.objs.size], FpOk X pins H1 b := fun b hb => by
    obtain rfl : b = s1.heap.objs.size := by simpa using hb
    exact I1.fpOk (Nat.le_refl _) (I1.hok.fresh (Nat.le_refl _))
  rcases q with ⟨⟨xs, hq⟩, q⟩ | ⟨⟨xs, hq⟩, q⟩
  · obtain ⟨its, _, p, _⟩ := I1.list hq
    exact wpAny_pyIter_list p.isList ⟨s1.heap.objs.size, [s1.heap.objs.size], _, _, H1, rfl, I1.kept (t' := s1.toks) fun _ _ z => Heap.get?_push_of_some _ z, turn_list u _, ⟨_, Heap.get?_push_size _ rfl, rfl, rfl⟩, fr, q⟩
  · obtain ⟨its, _, p, _⟩ := I1.tuple hq
    exact wpAny_pyIter_tuple (show s1.heap.IsTuple u its.toArray from p) ⟨s1.heap.objs.size, [s1.heap.objs.size], _, _, H1, rfl, I1.kept (t' := s1.toks) fun _ _ z => Heap.get?_push_of_some _ z, turn_tuple u _, ⟨_, Heap.get?_push_size _ rfl, rfl, rfl⟩, fr, q⟩⟩
theorem i_seq (h : PEd X G W a fa) : PId X G W true tg a (dIt fa) := PI.weak (pi_seq h) fun σ H R q => by
  obtain ⟨F, I, ρ, P, PX, RR, f1, k, x⟩ := q
  refine ⟨F, I, ρ, _, PX, RR, f1, fun o ρ1 v F1 I1 H1 f2 s1 R1 r1 => ?_, x⟩
  unfold itSeqK at f2
  split at f2
  · cases r1 with
    | lst e r =>
      rename_i a vs
      exact ⟨a, rfl, .inl ⟨⟨_, SqL.of (R1.sub _ _ e)⟩, fun big => k _ ρ1 F1 I1 H1 _ f2 s1 R1 (itw_list (fun F' I' H' s s2 => SqL.of (s2 _ _ (s.inc _ _ e))) r (big _ _ (.inl (R1.sub _ _ e))))⟩⟩
  · cases r1 with
    | tup e z r =>
      rename_i a o vs
      exact ⟨a, rfl, .inr ⟨⟨_, sqF (R1.sub _ _ e)⟩, fun big => k _ ρ1 F1 I1 H1 _ f2 s1 R1 (itw_tup (fun F' I' H' s s2 => sqF (s2 _ _ (s.inc _ _ e))) r (big _ _ (.inr ⟨_, R1.sub _ _ e⟩)))⟩⟩
  · obtain ⟨a, rfl, fp, ⟨rfl, vs, e, r⟩, hf⟩ := r1
    exact ⟨a, rfl, .inl ⟨⟨_, SqL.of e⟩, fun big => k _ ρ1 F1 I1 H1 _ f2 s1 R1 (itw_list (fun F' I' H' s s2 => SqL.of (s.keep _ _ e (hf a (by simp)).1)) r (big _ _ (.inl e)))⟩⟩
  · exact f2.elim
theorem pt_of_pw (h : PWd X G W a t) : PTd X G W a t := PW.pt h
theorem call_intD : CallR X (.type "int") rIntD := fun pins s σ H xs us Q I r h => h.elim (call_int_str pins s σ H xs us Q I r) (call_int1 pins s σ H xs us Q I r)
theorem get_list : PGet X (rIxL X.K) := fun pins s σ H o i ov iv Q I ro ri h => by
  obtain ⟨p, xs, i, z, rfl, rfl, hq, he, q⟩ := h
  cases ro
  obtain ⟨t, rfl⟩ := ri
  obtain ⟨its, r, pl, hz⟩ := I.list hq
  obtain ⟨j, h1, h2, h3, h4, h5⟩ := atI_get he
  obtain ⟨w, ew, rw'⟩ := r.get h2
  have hl := r.length
  have hn := line63
  have fin : EP X pins σ Q w s := ⟨z, H, I, rw', q⟩
  by_cases h0 : 0 ≤ i
  · have hj : i.toNat = j := by
      rw [seqIndex_of h0 h5] at h1
      exact Option.some.inj h1
    exact PySem.wpAny_getItem_list pl.isList h0 (by omega) (by rw [hj]; simpa using ew) fin
  · have hj : (i + (its.toArray.size : Int)).toNat = j := by
      rw [seqIndex_neg (by omega) (by omega)] at h1
      have := Option.some.inj h1
      rw [List.size_toArray, ← hl]
      exact this
    exact PySem.wpAny_getItem_list_neg pl.isList (by omega) (by rw [List.size_toArray, ← hl]; omega) (by omega) (by rw [hj]; simpa using ew) fin
theorem e_sortR {j : Nat} (hg : Gl X "sorted") (hm : X.mg "sorted" = none) (ha : PAd X G W (a :: es) g)
    (he : backTo pos (starEach (a :: es) X.env) = (false, eval a X.env) :: backTo pos (starEach es X.env) := by rfl) (hpl : (backTo pos (starEach (a :: es) X.env)).any (·.1) = false := by rfl)
    (hall : (backToKw pos (keywordEach [⟨some "reverse", .Constant (.bool true) j kp1, kp2⟩] X.env)).all (·.1.isSome) = true := by rfl) (hnone : (backToKw pos (keywordEach [⟨some "reverse", .Constant (.bool true) j kp1, kp2⟩] X.env)).any (·.1.isNone) = false := by rfl)
    (hks : (backToKw pos (keywordEach [⟨some "reverse", .Constant (.bool true) j kp1, kp2⟩] X.env)).filterMap (·.1) = [Str.ofString "reverse"] := by rfl) :
    PEd X G W (.Call (.Name "sorted" pos') (a :: es) [⟨some "reverse", .Constant (.bool true) j kp1, kp2⟩] pos) (dCB sortRF g) :=
  PE.weak (pe_callBK (cr_srtR (b := true)) hg hm (by decide +kernel) ha (pk_cons pe_bl pk_nil) (by decide) (by decide) he hpl hall hnone hks) fun σ H Q q => by
    obtain ⟨F, I, ρ, P, PX, R, f1, k, x⟩ := q
    refine ⟨F, I, ρ, _, PX, R, f1, fun os ρ1 vs F1 I1 H1 f2 s1 R1 r1 => ?_, x⟩
    obtain ⟨ds, e, f3⟩ := vwsK_of f2
    exact ⟨rfl, s_sortR F1 I1 H1 σ ρ1 vs ds _ Q R1 (vws_ok R1 r1 e) f3 fun o v' I' H' h s' R' r' => k o ρ1 v' F1 I' H' h (s1.trans s') R' (r'.older fun b e => s1.old e)⟩
end
end Dt

namespace Dt
open PySem PySem.Spec PyProof.Rows L2

/-! ### the laws' machine of draws: what its three defs promise -/
structure StH (H : Hp) (a g c : Addr) (gs : List Int) (cur : Int) (cs : List Int) (cnt : Int) : Prop where
  ag : a ≠ g
  ac : a ≠ c
  gc : g ≠ c
  ha : H a = some (.lst [.ref g, .int cur, .ref c, .int cnt])
  hg : H g = some (.lst (gs.map V.int))
  hc : H c = some (.lst (cs.map V.int))
def spMix : Sp := fun vs H Q _ => ∃ a g c gs cur cs cnt, vs = [.ref a] ∧ StH H a g c gs cur cs cnt ∧ 0 ≤ cnt ∧ cnt < 2 ^ 60 ∧ ∀ r, 0 ≤ r → r < 1000000007 → Q (.int r) (upd H a (.lst [.ref g, .int cur, .ref c, .int (cnt + 1)]))
def spDraw : Sp := fun vs H Q _ => ∃ a g c gs cur cs cnt m, vs = [.ref a, .int m] ∧ StH H a g c gs cur cs cnt ∧ (∀ g ∈ gs, 0 < g) ∧ 0 ≤ cur ∧ 0 ≤ cnt ∧ cnt < 2 ^ 59 ∧ 0 < m ∧ m ≤ 10 ^ 70 ∧
  ∀ k gs' cur' cnt' H', 0 ≤ k → k < m → StH H' a g c gs' cur' cs cnt' → (∀ g ∈ gs', g ∈ gs) → gs'.length ≤ gs.length → 0 ≤ cur' → cnt ≤ cnt' → cnt' ≤ cnt + 8 → (∀ x, x ≠ a → x ≠ g → H' x = H x) → Q (.int k) H'
def spStart (K : PySem.W.Frag) : Sp := fun vs H Q _ => ∃ (s : Addr) (ns : List Int), vs = [.ref s] ∧ SqL K H s (ns.map V.int) ∧ ns.length ≤ 63 ∧
  ∀ a g c gs cs H', H a = none → H g = none → H c = none → Same H H' → StH H' a g c gs 0 cs 0 → (∀ g ∈ gs, 0 < g) → gs.length ≤ 63 → (∀ c ∈ cs, 0 ≤ c ∧ c < 2147483629) → cs.length ≤ 63 → Q (.ref a) H'
section
variable {H H' : Hp} {a g c : Addr} {gs gs' : List Int} {cur cur' : Int} {cs : List Int} {cnt cnt' : Int}
theorem StH.setA (h : StH H a g c gs cur cs cnt) : StH (upd H a (.lst [.ref g, .int cur', .ref c, .int cnt'])) a g c gs cur' cs cnt' :=
  ⟨h.ag, h.ac, h.gc, upd_same, by rw [upd_ne h.ag.symm]; exact h.hg, by rw [upd_ne h.ac.symm]; exact h.hc⟩
theorem StH.setG (h : StH H a g c gs cur cs cnt) : StH (upd H g (.lst (gs'.map V.int))) a g c gs' cur cs cnt :=
  ⟨h.ag, h.ac, h.gc, by rw [upd_ne h.ag]; exact h.ha, upd_same, by rw [upd_ne h.gc.symm]; exact h.hc⟩
end
theorem seq_key {t u : TS} {D : Ends} {σ : L2.St} {H : Hp} (J : L2.St → Hp → Prop) (hk : ∀ σ' H', J σ' H' → u D σ' H') (h : (∀ σ' H', J σ' H' → u D σ' H') → tSeq t u D σ H) : tSeq t u D σ H := h hk
theorem pow_small {j : Nat} {m : Int} (e : (1000000007 : Int) ^ j < m) (h : m ≤ 10 ^ 70) : j < 8 := by
  refine Nat.lt_of_not_le fun z => ?_
  obtain ⟨k, rfl⟩ := Nat.exists_eq_add_of_le z
  rw [Int.pow_add] at e
  have h1 : (0 : Int) < 1000000007 ^ k := Int.pow_pos (by decide)
  have h2 : (1000000007 : Int) ^ 8 * 1 ≤ 1000000007 ^ 8 * 1000000007 ^ k := Int.mul_le_mul_of_nonneg_left h1 (by decide)
  have h3 : (10 : Int) ^ 70 < 1000000007 ^ 8 * 1 := by decide
  exact absurd (Int.lt_of_lt_of_le (Int.lt_of_lt_of_le h3 h2) (Int.le_trans (Int.le_of_lt e) h)) (Int.lt_irrefl _)
/-- of a state in a slot -/
def sp__law_draw : DSp := fun os P PX => match os with
  | [.lent a (.st b), .d (.int m)] => (0 < m ∧ m ≤ 10 ^ 70 ∧ b ≤ 10 ^ 15) ∧ ∀ k : Int, 0 ≤ k → k < m → P (.d (.int k)) [.lent a (.st (b + 8)), .d (.int m)]
  | _ => False
theorem draw_imp {p : Pm} {vs : List V} {H : Hp} {Q : VK} {E : XK} (h : spOf p sp__law_draw vs H Q E) : spDraw vs H Q E := by
  obtain ⟨F, I, os, P, PX, R, hF, hsp, k, kx⟩ := h
  unfold sp__law_draw at hsp
  split at hsp
  · rename_i a b m
    obtain ⟨⟨m1, m2, m3⟩, hsp⟩ := hsp
    have hl := R.len
    rw [List.length_map, List.length_map] at hl
    obtain ⟨v, w, rfl⟩ : ∃ v w, vs = [v, w] := by
      match vs, hl with
      | [v, w], _ => exact ⟨v, w, rfl⟩
    obtain ⟨u, e1, r1⟩ := R.slot 0 _ rfl
    obtain ⟨u2, e2, r2⟩ := R.slot 1 _ rfl
    cases e1
    cases e2
    obtain ⟨rfl, fp, ⟨g, c, gs, cur, cs, cnt, rfl, n1, n2, n3, h1, h2, h3, s1, s2, s3, s4, s5, s6, s7⟩, own⟩ := r1
    cases r2
    refine ⟨a, g, c, gs, cur, cs, cnt, m, rfl, ⟨n1, n2, n3, h1, h2, h3⟩, s1, s2, s4, by omega, m1, m2, fun kk gs' cur' cnt' H' k0 k1 st hg hl hc q1 q2 oth => ?_⟩
    obtain ⟨fa, ia, _, na⟩ := own a (by simp)
    obtain ⟨fg, ig, _, ng⟩ := own g (by simp)
    obtain ⟨fc, ic, _, nc⟩ := own c (by simp)
    have hne : ∀ x y, I x = some y → H' x = some y := fun x y e => by
      rw [oth x (fun z => by rw [z, ia] at e; cases e) (fun z => by rw [z, ig] at e; cases e)]
      exact R.sub x y e
    have th : ∀ x, H x ≠ none → H' x ≠ none := fun x e => by
      by_cases ha : x = a
      · rw [ha, st.ha]; simp
      · by_cases hg : x = g
        · rw [hg, st.hg]; simp
        · rw [oth x ha hg]; exact e
    have st' : Step F I H F I H' := ⟨fun x y e n => by
        rw [oth x (fun z => by rw [z, fa] at n; cases n) (fun z => by rw [z, fg] at n; cases n)]; exact e,
      fun _ _ e => e, fun _ e => .inl e, fun _ _ e => .inl e, th⟩
    refine k _ _ (.int kk) F I H' (hsp kk k0 k1) st' ⟨hne, fun x j e => ⟨(R.lab x j e).1, th x (R.lab x j e).2⟩, rfl, fun i s e => ?_⟩ (Dd.int kk)
    match i, e with
    | 0, e =>
      cases e
      refine ⟨_, rfl, rfl, [a, g, c], ⟨g, c, gs', cur', cs, cnt', rfl, n1, n2, n3, st.ha, st.hg, st.hc, fun x hx => s1 x (hg x hx), hc, s3, by omega, by omega, s6, by omega⟩, fun x hx => ?_⟩
      obtain ⟨y1, y2, y3, y4⟩ := own x hx
      exact ⟨y1, y2, trivial, th x y4⟩
    | 1, e => cases e; exact ⟨_, rfl, Dd.int m⟩
    | i + 2, e => simp at e
  · exact hsp.elim
/-! ### the law's def: its first statement makes the state -/
def spLaw (K : PySem.W.Frag) : Sp := fun vs H Q _ => ∃ (a : Addr) (ns : List Int), vs = [.ref a] ∧ SqL K H a (ns.map V.int) ∧ ns.length ≤ 63 ∧ ∀ H', Q (.bl true) H'
def lawEnds : DEnds where
  nx _ := False
  rt o _ := o = .d (.bool true)
  bk _ := False
  ct _ := False
  ex _ _ := False
theorem law_cont {p : Pm} {n : Nat} {H : Hp} {Q : VK} {E : XK} {b : DS} (hn : 2 ≤ n) (hb : ∀ a, b lawEnds (none :: some (.lent a (.st 0)) :: List.replicate (n - 2) none)) (hq : ∀ H', Q (.bl true) H') {σ0 : L2.St} (hσ : σ0.length = n) :
  ∀ a g c gs cs H', H a = none → H g = none → H c = none → Same H H' → StH H' a g c gs 0 cs 0 → (∀ g ∈ gs, 0 < g) → gs.length ≤ 63 → (∀ c ∈ cs, 0 ≤ c ∧ c < 2147483629) → cs.length ≤ 63 →
    tS p (fun cls d _ H => E cls d H) b { nx := fun _ H' => Q .non H', rt := Q } (σ0.set 1 (some (.ref a))) H' := by
  intro a g c gs cs H' na ng nc sm st h1 h2 h3 h4
  let F : Lab := fun b => if b = a ∨ b = g ∨ b = c then some 1 else none
  have hF : ∀ b j, F b = some j → b = a ∨ b = g ∨ b = c := fun b j e => by
    have e : (if b = a ∨ b = g ∨ b = c then some 1 else none) = some j := e
    split at e
    · assumption
    · cases e
  have hF1 : ∀ b, b = a ∨ b = g ∨ b = c → F b = some 1 := fun b e => if_pos e
  have there : ∀ b, b = a ∨ b = g ∨ b = c → H' b ≠ none := fun b e => by
    rcases e with rfl | rfl | rfl
    · rw [st.ha]; simp
    · rw [st.hg]; simp
    · rw [st.hc]; simp
  refine ⟨F, fun _ => none, _, lawEnds, ⟨(fun _ _ e => nomatch e), fun b j e => ⟨rfl, there b (hF b j e)⟩, by simp; omega, fun i sl e => ?_⟩, hb a, ⟨fun _ _ _ _ _ h => h.elim, fun _ _ _ _ _ h => h.elim, fun _ _ _ _ _ h => h.elim, fun o _ v _ _ _ _ h _ _ r => ?_, fun _ _ _ _ _ _ _ _ h => h.elim⟩⟩
  · match i, e with
    | 0, e => cases e
    | 1, e =>
      cases e
      refine ⟨.ref a, List.getElem?_set_self (by omega), rfl, [a, g, c], ⟨g, c, gs, 0, cs, 0, rfl, st.ag, st.ac, st.gc, st.ha, st.hg, st.hc, h1, Int.le_refl _, h3, Int.le_refl _, by omega, h4, h2⟩, fun b hb => ?_⟩
      have hb : b = a ∨ b = g ∨ b = c := by simpa using hb
      exact ⟨hF1 b hb, rfl, trivial, there b hb⟩
    | i + 2, e =>
      have := List.mem_of_getElem? e
      simp at e
      rw [List.getElem?_replicate] at e
      split at e <;> cases e
  · have h : o = .d (.bool true) := h
    subst h
    cases r
    exact hq _
end Dt

namespace Dt
open PySem PySem.Spec PyProof.Rows L2

/-! ### loops, plainly -/
section
variable {g : DG} {b : DS} {E : DEnds} {t : DT} {e : DE} {vs : List Nat} {P : List D → Rho → Prop}
theorem forGo_ind {α : Type} (enc : α → D) (Inv : List α → Rho → Prop)
    (step : ∀ x xs ρ (K : Rho → Prop), (∀ ρ', Inv xs ρ' → K ρ') → Inv (x :: xs) ρ → g (enc x) ρ fun ρ1 => b { E with nx := K, ct := K, bk := E.nx } ρ1) (done : ∀ ρ, Inv [] ρ → E.nx ρ) : ∀ (xs : List α) (ρ : Rho), Inv xs ρ → forGo g b E (xs.map enc) ρ
  | [], ρ, h => by rw [List.map_nil, forGo_nilE]; exact done ρ h
  | x :: xs, ρ, h => by rw [List.map_cons, forGo_consE]; exact step x xs ρ _ (fun ρ' h' => forGo_ind enc Inv step done xs ρ' h') h
theorem forGo_id (Inv : List D → Rho → Prop)
    (step : ∀ x xs ρ (K : Rho → Prop), (∀ ρ', Inv xs ρ' → K ρ') → Inv (x :: xs) ρ → g x ρ fun ρ1 => b { E with nx := K, ct := K, bk := E.nx } ρ1) (done : ∀ ρ, Inv [] ρ → E.nx ρ) (xs : List D) (ρ : Rho) (h : Inv xs ρ) : forGo g b E xs ρ := by
  have := forGo_ind (g := g) (b := b) (E := E) id Inv step done xs ρ h
  simpa using this
theorem compGo_ind {α : Type} (enc : α → D) (Inv : List α → List D → Rho → Prop)
    (step : ∀ x xs acc ρ (K : List D → Rho → Prop), (∀ acc' ρ', Inv xs acc' ρ' → K acc' ρ') → Inv (x :: xs) acc ρ → g (enc x) ρ fun ρ1 => t ρ1 (fun b ρ2 => (b = true → e ρ2 (fun o ρ3 => onlyd o fun d' => K (acc ++ [d']) (wipeR ρ3 vs)) noX) ∧ (b = false → K acc (wipeR ρ2 vs))) noX)
    (done : ∀ acc ρ, Inv [] acc ρ → P acc ρ) : ∀ (xs : List α) (acc : List D) (ρ : Rho), Inv xs acc ρ → compGo g t e vs P (xs.map enc) acc ρ
  | [], acc, ρ, h => by rw [List.map_nil, compGo_nilE]; exact done acc ρ h
  | x :: xs, acc, ρ, h => by rw [List.map_cons, compGo_consE]; exact step x xs acc ρ _ (fun acc' ρ' h' => compGo_ind enc Inv step done xs acc' ρ' h') h
/-- each item gives an item, nothing else changes -/
theorem compGo_map {α : Type} (enc : α → D) (f : α → D) {xs : List α} {acc : List D} {ρ : Rho}
    (step : ∀ x ∈ xs, ∀ acc (K : List D → Rho → Prop), K (acc ++ [f x]) ρ → g (enc x) ρ fun ρ1 => t ρ1 (fun b ρ2 => (b = true → e ρ2 (fun o ρ3 => onlyd o fun d' => K (acc ++ [d']) (wipeR ρ3 vs)) noX) ∧ (b = false → K acc (wipeR ρ2 vs))) noX)
    (done : P (acc ++ xs.map f) ρ) : compGo g t e vs P (xs.map enc) acc ρ := by
  refine compGo_ind enc (fun r acc' ρ' => ρ' = ρ ∧ (∀ x ∈ r, x ∈ xs) ∧ acc' ++ r.map f = acc ++ xs.map f) (fun x r acc' ρ' K k h => ?_) (fun acc' ρ' h => ?_) xs acc ρ ⟨rfl, fun _ h => h, rfl⟩
  · obtain ⟨rfl, h1, h2⟩ := h
    refine step x (h1 x List.mem_cons_self) acc' K (k _ _ ⟨rfl, fun y hy => h1 y (List.mem_cons_of_mem _ hy), ?_⟩)
    rw [← h2]; simp
  · obtain ⟨rfl, _, h2⟩ := h
    rw [← h2] at done; simpa using done
theorem compGo_filter {α : Type} (enc : α → D) (keep : α → Bool) (f : α → D) {xs : List α} {acc : List D} {ρ : Rho}
    (step : ∀ x ∈ xs, ∀ acc (K : List D → Rho → Prop), (keep x = true → K (acc ++ [f x]) ρ) → (keep x = false → K acc ρ) → g (enc x) ρ fun ρ1 => t ρ1 (fun b ρ2 => (b = true → e ρ2 (fun o ρ3 => onlyd o fun d' => K (acc ++ [d']) (wipeR ρ3 vs)) noX) ∧ (b = false → K acc (wipeR ρ2 vs))) noX)
    (done : P (acc ++ (xs.filter keep).map f) ρ) : compGo g t e vs P (xs.map enc) acc ρ := by
  refine compGo_ind enc (fun r acc' ρ' => ρ' = ρ ∧ (∀ x ∈ r, x ∈ xs) ∧ acc' ++ (r.filter keep).map f = acc ++ (xs.filter keep).map f) (fun x r acc' ρ' K k h => ?_) (fun acc' ρ' h => ?_) xs acc ρ ⟨rfl, fun _ h => h, rfl⟩
  · obtain ⟨rfl, h1, h2⟩ := h
    refine step x (h1 x List.mem_cons_self) acc' K (fun e => k _ _ ⟨rfl, fun y hy => h1 y (List.mem_cons_of_mem _ hy), ?_⟩) (fun e => k _ _ ⟨rfl, fun y hy => h1 y (List.mem_cons_of_mem _ hy), ?_⟩)
    · rw [← h2, List.filter_cons_of_pos e]; simp
    · rw [← h2, List.filter_cons_of_neg (by simp [e])]
  · obtain ⟨rfl, _, h2⟩ := h
    rw [← h2] at done; simpa using done
/-- each item gives an item of a kind (drawn), the state goes on: b is the bound of draws -/
theorem compGo_draw {α : Type} (enc : α → D) (c : Nat) (R : α → D → Prop) (St : Nat → Rho) {xs : List α} {b0 : Nat}
    (step : ∀ x ∈ xs, ∀ acc b1 (K : List D → Rho → Prop), b0 ≤ b1 → b1 ≤ b0 + c * xs.length → (∀ d b2, R x d → b1 ≤ b2 → b2 ≤ b1 + c → K (acc ++ [d]) (St b2)) → g (enc x) (St b1) fun ρ1 => t ρ1 (fun b ρ2 => (b = true → e ρ2 (fun o ρ3 => onlyd o fun d' => K (acc ++ [d']) (wipeR ρ3 vs)) noX) ∧ (b = false → K acc (wipeR ρ2 vs))) noX)
    (done : ∀ ds b2, Paired R xs ds → b0 ≤ b2 → b2 ≤ b0 + c * xs.length → P ds (St b2)) : compGo g t e vs P (xs.map enc) [] (St b0) := by
  refine compGo_ind enc (fun r acc ρ => ∃ p b1, ρ = St b1 ∧ xs = p ++ r ∧ Paired R p acc ∧ b0 ≤ b1 ∧ b1 ≤ b0 + c * p.length) (fun x r acc ρ K k h => ?_) (fun acc ρ h => ?_) xs [] (St b0) ⟨[], b0, rfl, rfl, .nil, Nat.le_refl _, Nat.le_refl _⟩
  · obtain ⟨p, b1, rfl, h1, h2, h3, h4⟩ := h
    have hl : p.length + 1 ≤ xs.length := by rw [h1]; simp
    have hm : c * p.length + c ≤ c * xs.length := by
      have := Nat.mul_le_mul_left c hl
      rw [Nat.mul_add, Nat.mul_one] at this; exact this
    refine step x (by rw [h1]; simp) acc b1 K h3 (by omega) fun d b2 hr q1 q2 => k _ _ ⟨p ++ [x], b2, rfl, by rw [h1]; simp, ?_, by omega, ?_⟩
    · exact paired_snoc h2 hr
    · rw [List.length_append]; simp only [List.length_cons, List.length_nil]; rw [Nat.mul_add]; omega
  · obtain ⟨p, b1, rfl, h1, h2, h3, h4⟩ := h
    have : xs = p := by rw [h1]; simp
    subst this
    exact done acc b1 h2 h3 h4
where paired_snoc {α β : Type} {R : α → β → Prop} : ∀ {p : List α} {q : List β} {x : α} {y : β}, Paired R p q → R x y → Paired R (p ++ [x]) (q ++ [y])
  | _, _, _, _, .nil, h => .cons h .nil
  | _, _, _, _, .cons a r, h => .cons a (paired_snoc r h)
end
/-- ints of a kind, drawn -/
theorem paired_ints {α : Type} {R : α → D → Prop} {S : Int → Prop} (h : ∀ x d, R x d → ∃ i, d = .int i ∧ S i) : ∀ {xs : List α} {ds : List D}, Paired R xs ds → ∃ ns : List Int, ds = ns.map PyData.int ∧ ns.length = xs.length ∧ ∀ n ∈ ns, S n
  | _, _, .nil => ⟨[], rfl, rfl, by simp⟩
  | _, _, .cons r rr => by
    obtain ⟨i, rfl, hi⟩ := h _ _ r
    obtain ⟨ns, rfl, h2, h3⟩ := paired_ints h rr
    exact ⟨i :: ns, rfl, by simp [h2], by simpa using ⟨hi, h3⟩⟩
theorem paired_len {α β : Type} {R : α → β → Prop} : ∀ {xs : List α} {ys : List β}, Paired R xs ys → ys.length = xs.length
  | _, _, .nil => rfl
  | _, _, .cons _ r => by simp [paired_len r]
/-- while, by what falls -/
theorem dWhile_ind {t : DT} {b : DS} {E : DEnds} {ρ : Rho} (W : Nat → Rho → Prop) (m : Nat) (h0 : W m ρ)
    (turn : ∀ m ρ (K : Rho → Prop), (∀ m' ρ', m' < m → W m' ρ' → K ρ') → W m ρ → t ρ (fun c ρ1 => (c = true → b { E with nx := K, ct := K, bk := E.nx } ρ1) ∧ (c = false → E.nx ρ1)) E.ex) : dWhile t b E ρ := by
  unfold dWhile
  exact ⟨W, ⟨m, h0⟩, fun m ρ w => turn m ρ _ (fun m' ρ' h1 h2 => ⟨m', h1, h2⟩) w⟩

/-! ### codecs -/
structure Cod (α : Type) where
  enc : α → D
  dec : D → Option α
  h1 : ∀ a, dec (enc a) = some a
  h2 : ∀ d a, dec d = some a → d = enc a
@[irreducible] def Cod.K {α : Type} (c : Cod α) (d : D) (k : α → Prop) : Prop := match c.dec d with
  | some a => k a
  | none => False
theorem Cod.K_enc {α : Type} (c : Cod α) (a : α) (k : α → Prop) : c.K (c.enc a) k = k a := by unfold Cod.K; rw [c.h1]
theorem Cod.K_of {α : Type} {c : Cod α} {d : D} {k : α → Prop} (h : c.K d k) : ∃ a, d = c.enc a ∧ k a := by
  unfold Cod.K at h
  split at h
  · exact ⟨_, c.h2 _ _ (by assumption), h⟩
  · exact h.elim
theorem Cod.K_mk {α : Type} {c : Cod α} {d : D} {k : α → Prop} (a : α) (h : d = c.enc a) (q : k a) : c.K d k := by rw [h, Cod.K_enc]; exact q
theorem Cod.inj {α : Type} (c : Cod α) {a b : α} (h : c.enc a = c.enc b) : a = b := by
  have := c.h1 a; rw [h, c.h1] at this; exact (Option.some.inj this).symm
def decL {α : Type} (f : D → Option α) : List D → Option (List α)
  | [] => some []
  | d :: ds => match f d with
    | some a => (match decL f ds with
      | some as => some (a :: as)
      | none => none)
    | none => none
theorem decL_enc {α : Type} (c : Cod α) : ∀ as : List α, decL c.dec (as.map c.enc) = some as
  | [] => rfl
  | a :: as => by simp [decL, c.h1, decL_enc c as]
theorem decL_eq {α : Type} (c : Cod α) : ∀ {ds : List D} {as : List α}, decL c.dec ds = some as → ds = as.map c.enc
  | [], as, h => by cases h; rfl
  | d :: ds, as, h => by
    cases e1 : c.dec d with
    | none => simp [decL, e1] at h
    | some a =>
      cases e2 : decL c.dec ds with
      | none => simp [decL, e1, e2] at h
      | some as2 =>
        simp [decL, e1, e2] at h
        rw [← h, List.map_cons, ← decL_eq c e2, ← c.h2 _ _ e1]
def cInt : Cod Int := ⟨.int, fun d => match d with | .int i => some i | _ => none, fun _ => rfl, fun d a h => by cases d <;> simp_all⟩
def cStr : Cod Str := ⟨.str, fun d => match d with | .str i => some i | _ => none, fun _ => rfl, fun d a h => by cases d <;> simp_all⟩
def cBool : Cod Bool := ⟨.bool, fun d => match d with | .bool i => some i | _ => none, fun _ => rfl, fun d a h => by cases d <;> simp_all⟩
def cT {α : Type} (c : Cod α) : Cod (List α) := ⟨fun as => .tuple (as.map c.enc), fun d => match d with | .tuple ds => decL c.dec ds | _ => none, fun as => decL_enc c as, fun d a h => by
  cases d <;> simp at h
  rw [decL_eq c h]⟩
def cL {α : Type} (c : Cod α) : Cod (List α) := ⟨fun as => .list (as.map c.enc), fun d => match d with | .list ds => decL c.dec ds | _ => none, fun as => decL_enc c as, fun d a h => by
  cases d <;> simp at h
  rw [decL_eq c h]⟩
def cP {α β : Type} (c : Cod α) (e : Cod β) : Cod (α × β) := ⟨fun p => .tuple [c.enc p.1, e.enc p.2], fun d => match d with
  | .tuple [x, y] => (match c.dec x with
    | some a => (match e.dec y with
      | some b => some (a, b)
      | none => none)
    | none => none)
  | _ => none, fun p => by simp [c.h1, e.h1], fun d p h => by
    split at h
    · rename_i x y
      cases e1 : c.dec x with
      | none => simp [e1] at h
      | some a =>
        cases e2 : e.dec y with
        | none => simp [e1, e2] at h
        | some b =>
          simp [e1, e2] at h
          rw [← h, ← c.h2 _ _ e1, ← e.h2 _ _ e2]
    · cases h⟩
def cTri {α β γ : Type} (c : Cod α) (e : Cod β) (f : Cod γ) : Cod (α × β × γ) := ⟨fun p => .tuple [c.enc p.1, e.enc p.2.1, f.enc p.2.2], fun d => match d with
  | .tuple [x, y, z] => (match c.dec x with
    | some a => (match e.dec y with
      | some b => (match f.dec z with
        | some u => some (a, b, u)
        | none => none)
      | none => none)
    | none => none)
  | _ => none, fun p => by simp [c.h1, e.h1, f.h1], fun d p h => by
    split at h
    · rename_i x y z
      cases e1 : c.dec x with
      | none => simp [e1] at h
      | some a =>
        cases e2 : e.dec y with
        | none => simp [e1, e2] at h
        | some b =>
          cases e3 : f.dec z with
          | none => simp [e1, e2, e3] at h
          | some u =>
            simp [e1, e2, e3] at h
            rw [← h, ← c.h2 _ _ e1, ← e.h2 _ _ e2, ← f.h2 _ _ e3]
    · cases h⟩
abbrev Heap1 := List Int
def cHeap : Cod Heap1 := cT cInt
def cRule : Cod (List Heap1) := cT cHeap
/-- a heap, a rule as data -/
abbrev hD (h : Heap1) : D := .tuple (h.map PyData.int)
abbrev rD (r : List Heap1) : D := .tuple (r.map hD)
theorem heap_enc (h : Heap1) : cHeap.enc h = hD h := rfl
theorem rule_enc (r : List Heap1) : cRule.enc r = rD r := rfl
def heapK (d : D) (k : Heap1 → Prop) : Prop := cHeap.K d k
def ruleK (d : D) (k : List Heap1 → Prop) : Prop := cRule.K d k
theorem heapK_enc (h : Heap1) (k : Heap1 → Prop) : heapK (hD h) k = k h := cHeap.K_enc h k
theorem ruleK_enc (r : List Heap1) (k : List Heap1 → Prop) : ruleK (rD r) k = k r := cRule.K_enc r k
theorem heapK_nil (k : Heap1 → Prop) : heapK (.tuple []) k = k [] := cHeap.K_enc [] k
theorem ruleK_nil (k : List Heap1 → Prop) : ruleK (.tuple []) k = k [] := cRule.K_enc [] k
theorem heapK_of {d : D} {k : Heap1 → Prop} (h : heapK d k) : ∃ a, d = hD a ∧ k a := Cod.K_of h
theorem ruleK_of {d : D} {k : List Heap1 → Prop} (h : ruleK d k) : ∃ a, d = rD a ∧ k a := Cod.K_of h
theorem intInj : ∀ {a b : List Int}, a.map PyData.int = b.map PyData.int → a = b := fun {a b} h => cHeap.inj (a := a) (b := b) (by show PyData.tuple _ = PyData.tuple _; rw [show a.map cInt.enc = a.map PyData.int from rfl, h]; rfl)

/-! ### == of data -/
theorem eqv_ints : ∀ a b : List Int, PyData.eqvAll (a.map PyData.int) (b.map PyData.int) = decide (a = b)
  | [], [] => by simp [PyData.eqvAll]
  | [], b :: bs => by simp [PyData.eqvAll]
  | a :: as, [] => by simp [PyData.eqvAll]
  | a :: as, b :: bs => by
    simp only [List.map_cons, PyData.eqvAll, eqv_ints as bs, eqv_int]
    by_cases h : a = b <;> simp [h]
/-! ### picking -/
theorem atI_lt {α : Type} {ds : List α} {i : Int} (h0 : 0 ≤ i) (h1 : i < ds.length) : ∃ h : i.toNat < ds.length, atI ds i = some ds[i.toNat] := by
  have h : i.toNat < ds.length := by omega
  refine ⟨h, ?_⟩
  obtain ⟨j, rfl⟩ : ∃ j : Nat, i = j := ⟨i.toNat, (Int.toNat_of_nonneg h0).symm⟩
  exact atI_nat (List.getElem?_eq_getElem h)
theorem pick {α β : Type} {enc : α → β} (as : List α) {ds : List β} {i : Int} {P : β → Prop} (e : ds = as.map enc) (h0 : 0 ≤ i) (h1 : i < as.length) (k : ∀ a ∈ as, P (enc a)) : getK (atI ds i) P := by
  subst e
  obtain ⟨h, e⟩ := atI_lt (ds := as.map enc) h0 (by simpa using h1)
  refine getK_mk _ e ?_
  rw [List.getElem_map]
  exact k _ (List.getElem_mem _)
theorem pickI (as : List Int) {ds : List D} {i : Int} {P : D → Prop} (e : ds = as.map PyData.int) (h0 : 0 ≤ i) (h1 : i < as.length) (k : ∀ a ∈ as, P (.int a)) : getK (atI ds i) P := pick as e h0 h1 k
theorem pickB {n : Int} (as : List Int) (lo hi : Int) (h : n ∈ as) (q : as.all (fun a => decide (lo ≤ a) && decide (a ≤ hi)) = true := by decide) : lo ≤ n ∧ n ≤ hi := by
  have := List.all_eq_true.mp q n h
  simp only [Bool.and_eq_true, decide_eq_true_eq] at this
  exact this

/-! ### data that may be compared -/
structure Good {α : Type} [DecidableEq α] (c : Cod α) (n : Nat) : Prop where
  lay : ∀ a, (c.enc a).canLay0 = true
  dep : ∀ a, (c.enc a).depth ≤ n
  eqv : ∀ a b, PyData.eqv (c.enc a) (c.enc b) = decide (a = b)
theorem Good.sh {α : Type} [DecidableEq α] {c : Cod α} {n : Nat} (g : Good c n) (hn : n ≤ 64) (a : α) : SeqAt.shaped (c.enc a) = true := by
  unfold SeqAt.shaped
  rw [g.lay, decide_eq_true (Nat.le_trans (g.dep a) hn)]; rfl
theorem good_int : Good cInt 0 := ⟨fun _ => rfl, fun _ => by simp [cInt, PyData.depth], fun a b => by simp only [cInt, PyData.eqv]; rfl⟩
theorem good_bool : Good cBool 0 := ⟨fun _ => rfl, fun _ => by simp [cBool, PyData.depth], fun a b => by simp only [cBool, PyData.eqv]; cases a <;> cases b <;> rfl⟩
theorem good_all {α : Type} [DecidableEq α] {c : Cod α} {n : Nat} (g : Good c n) : ∀ as : List α, PyData.canLayAll0 (as.map c.enc) = true ∧ PyData.depthAll (as.map c.enc) ≤ n
  | [] => by simp [PyData.canLayAll0, PyData.depthAll]
  | a :: as => by
    obtain ⟨h1, h2⟩ := good_all g as
    have := g.dep a
    simp only [List.map_cons, PyData.canLayAll0, PyData.depthAll, g.lay, h1, Bool.and_self, true_and]
    omega
theorem good_eqv {α : Type} [DecidableEq α] {c : Cod α} {n : Nat} (g : Good c n) : ∀ as bs : List α, PyData.eqvAll (as.map c.enc) (bs.map c.enc) = decide (as = bs)
  | [], [] => by simp [PyData.eqvAll]
  | [], _ :: _ => by simp [PyData.eqvAll]
  | _ :: _, [] => by simp [PyData.eqvAll]
  | a :: as, b :: bs => by
    simp only [List.map_cons, PyData.eqvAll, good_eqv g as bs, g.eqv]
    by_cases h : a = b <;> simp [h]
theorem Good.T {α : Type} [DecidableEq α] {c : Cod α} {n : Nat} (g : Good c n) : Good (cT c) (n + 1) :=
  ⟨fun as => by simp only [cT, PyData.canLay0]; exact (good_all g as).1, fun as => by simp only [cT, PyData.depth]; have := (good_all g as).2; omega, fun as bs => by simp only [cT, PyData.eqv]; exact good_eqv g as bs⟩
theorem Good.L {α : Type} [DecidableEq α] {c : Cod α} {n : Nat} (g : Good c n) : Good (cL c) (n + 1) :=
  ⟨fun as => by simp only [cL, PyData.canLay0]; exact (good_all g as).1, fun as => by simp only [cL, PyData.depth]; have := (good_all g as).2; omega, fun as bs => by simp only [cL, PyData.eqv]; exact good_eqv g as bs⟩
theorem Good.P {α β : Type} [DecidableEq α] [DecidableEq β] {c : Cod α} {e : Cod β} {n m : Nat} (g : Good c n) (g' : Good e m) : Good (cP c e) (max n m + 1) :=
  ⟨fun a => by simp only [cP, PyData.canLay0, PyData.canLayAll0, g.lay, g'.lay, Bool.and_self], fun a => by
    have := g.dep a.1
    have := g'.dep a.2
    simp only [cP, PyData.depth, PyData.depthAll]; omega, fun a b => by
    obtain ⟨a1, a2⟩ := a
    obtain ⟨b1, b2⟩ := b
    simp only [cP, PyData.eqv, PyData.eqvAll, g.eqv, g'.eqv]
    by_cases h : a1 = b1 <;> by_cases h' : a2 = b2 <;> simp [h, h']⟩
theorem Good.Tri {α β γ : Type} [DecidableEq α] [DecidableEq β] [DecidableEq γ] {c : Cod α} {e : Cod β} {f : Cod γ} {n m k : Nat} (g : Good c n) (g' : Good e m) (g'' : Good f k) : Good (cTri c e f) (max n (max m k) + 1) :=
  ⟨fun a => by simp only [cTri, PyData.canLay0, PyData.canLayAll0, g.lay, g'.lay, g''.lay, Bool.and_self], fun a => by
    have := g.dep a.1
    have := g'.dep a.2.1
    have := g''.dep a.2.2
    simp only [cTri, PyData.depth, PyData.depthAll]; omega, fun a b => by
    obtain ⟨a1, a2, a3⟩ := a
    obtain ⟨b1, b2, b3⟩ := b
    simp only [cTri, PyData.eqv, PyData.eqvAll, g.eqv, g'.eqv, g''.eqv]
    by_cases h : a1 = b1 <;> by_cases h' : a2 = b2 <;> by_cases h'' : a3 = b3 <;> simp [h, h', h'']⟩
theorem good_heap : Good cHeap 1 := good_int.T
theorem good_rule : Good cRule 2 := good_heap.T
theorem sh_int (i : Int) : SeqAt.shaped (.int i) = true := good_int.sh (by decide) i
theorem sh_bool (i : Bool) : SeqAt.shaped (.bool i) = true := good_bool.sh (by decide) i
theorem sh_none : SeqAt.shaped .none = true := rfl
theorem sh_heap (h : List Int) : SeqAt.shaped (hD h) = true := good_heap.sh (by decide) h
theorem sh_lints (h : List Int) : SeqAt.shaped (.list (h.map PyData.int)) = true := good_int.L.sh (by decide) h
theorem sh_rule (h : List (List Int)) : SeqAt.shaped (rD h) = true := good_rule.sh (by decide) h
theorem sh_lheaps (h : List (List Int)) : SeqAt.shaped (.list (h.map hD)) = true := good_heap.L.sh (by decide) h
theorem eqv_I (a b : Int) : PyData.eqv (.int a) (.int b) = decide (a = b) := good_int.eqv a b
theorem eqv_B (a b : Bool) : PyData.eqv (.bool a) (.bool b) = decide (a = b) := good_bool.eqv a b
theorem eqv_H (a b : List Int) : PyData.eqv (hD a) (hD b) = decide (a = b) := good_heap.eqv a b
theorem eqv_R (a b : List (List Int)) : PyData.eqv (rD a) (rD b) = decide (a = b) := good_rule.eqv a b
theorem eqv_LI (a b : List Int) : PyData.eqv (.list (a.map PyData.int)) (.list (b.map PyData.int)) = decide (a = b) := good_int.L.eqv a b
theorem eqv_LH (a b : List (List Int)) : PyData.eqv (.list (a.map hD)) (.list (b.map hD)) = decide (a = b) := good_heap.L.eqv a b
theorem getK_some {α : Type} (d : α) (k : α → Prop) : getK (some d) k = k d := by unfold getK; rfl
theorem getK_in {α : Type} {o : Option α} {d : α} {k : α → Prop} (e : o = some d) (h : k d) : getK o k := getK_mk d e h
theorem heapK_in {h : Heap1} {k : Heap1 → Prop} (q : k h) : heapK (hD h) k := by rw [heapK_enc]; exact q
theorem ruleK_in {h : List Heap1} {k : List Heap1 → Prop} (q : k h) : ruleK (rD h) k := by rw [ruleK_enc]; exact q
theorem intsK_in {h : List Int} {k : List Int → Prop} (q : k h) : intsK (h.map PyData.int) k := by rw [intsK_map]; exact q
theorem strsK_in {h : List Str} {k : List Str → Prop} (q : k h) : strsK (h.map PyData.str) k := by rw [strsK_map]; exact q
theorem boolsK_in {h : List Bool} {k : List Bool → Prop} (q : k h) : boolsK (h.map PyData.bool) k := by rw [boolsK_map]; exact q
theorem intsK_mk {ds : List D} {k : List Int → Prop} (h : List Int) (e : ds = h.map PyData.int) (q : k h) : intsK ds k := by rw [e, intsK_map]; exact q
theorem strsK_mk {ds : List D} {k : List Str → Prop} (h : List Str) (e : ds = h.map PyData.str) (q : k h) : strsK ds k := by rw [e, strsK_map]; exact q
theorem boolsK_mk {ds : List D} {k : List Bool → Prop} (h : List Bool) (e : ds = h.map PyData.bool) (q : k h) : boolsK ds k := by rw [e, boolsK_map]; exact q
theorem heapK_mk {d : D} {k : Heap1 → Prop} (h : Heap1) (e : d = hD h) (q : k h) : heapK d k := by rw [e, heapK_enc]; exact q
theorem ruleK_mk {d : D} {k : List Heap1 → Prop} (h : List Heap1) (e : d = rD h) (q : k h) : ruleK d k := by rw [e, ruleK_enc]; exact q
/-- two ways -/
theorem br {p : Prop} [Decidable p] {A B : Prop} (h1 : p → A) (h2 : ¬ p → B) : (decide p = true → A) ∧ (decide p = false → B) := ⟨fun h => h1 (of_decide_eq_true h), fun h => h2 (of_decide_eq_false h)⟩
theorem brN {p : Prop} [Decidable p] {A B : Prop} (h1 : ¬ p → A) (h2 : p → B) : ((!decide p) = true → A) ∧ ((!decide p) = false → B) := by
  by_cases h : p <;> simp [h] <;> first | exact h1 h | exact h2 h
theorem brT {A B : Prop} (h1 : A) : (true = true → A) ∧ (true = false → B) := ⟨fun _ => h1, fun h => nomatch h⟩
theorem brF {A B : Prop} (h1 : B) : (false = true → A) ∧ (false = false → B) := ⟨fun h => (nomatch h), fun _ => h1⟩
theorem brB {c : Bool} {A B : Prop} (h1 : c = true → A) (h2 : c = false → B) : (c = true → A) ∧ (c = false → B) := ⟨h1, h2⟩
theorem brL {α : Type} {xs : List α} {A B : Prop} (h1 : xs ≠ [] → A) (h2 : xs = [] → B) : ((!xs.isEmpty) = true → A) ∧ ((!xs.isEmpty) = false → B) := by
  cases xs with
  | nil => exact ⟨fun h => (nomatch h), fun _ => h2 rfl⟩
  | cons x xs => exact ⟨fun _ => h1 (by simp), fun h => nomatch h⟩
theorem brLm {α β : Type} {f : α → β} {xs : List α} {A B : Prop} (h1 : xs ≠ [] → A) (h2 : xs = [] → B) : ((!(xs.map f).isEmpty) = true → A) ∧ ((!(xs.map f).isEmpty) = false → B) := brL (fun h => h1 fun e => h (by rw [e]; rfl)) fun h => h2 (List.map_eq_nil_iff.mp h)
theorem brZ {i : Int} {A B : Prop} (h1 : i ≠ 0 → A) (h2 : i = 0 → B) : ((i != 0) = true → A) ∧ ((i != 0) = false → B) := by
  by_cases h : i = 0 <;> simp [h] <;> first | exact h1 h | exact h2 h
/-- one turn -/
theorem forGo_cons {g : DG} {b : DS} {E : DEnds} {d : D} {ds : List D} {ρ : Rho} (h : g d ρ fun ρ1 => b { E with nx := forGo g b E ds, ct := forGo g b E ds, bk := E.nx } ρ1) : forGo g b E (d :: ds) ρ := by rw [forGo_consE]; exact h
theorem forGo_nil {g : DG} {b : DS} {E : DEnds} {ρ : Rho} (h : E.nx ρ) : forGo g b E [] ρ := by rw [forGo_nilE]; exact h
theorem compGo_cons {g : DG} {t : DT} {e : DE} {vs : List Nat} {P : List D → Rho → Prop} {d : D} {ds acc : List D} {ρ : Rho} (h : g d ρ fun ρ1 => t ρ1 (fun b ρ2 => (b = true → e ρ2 (fun o ρ3 => onlyd o fun d' => compGo g t e vs P ds (acc ++ [d']) (wipeR ρ3 vs)) noX) ∧ (b = false → compGo g t e vs P ds acc (wipeR ρ2 vs))) noX) : compGo g t e vs P (d :: ds) acc ρ := by rw [compGo_consE]; exact h
theorem compGo_nil {g : DG} {t : DT} {e : DE} {vs : List Nat} {P : List D → Rho → Prop} {acc : List D} {ρ : Rho} (h : P acc ρ) : compGo g t e vs P [] acc ρ := by rw [compGo_nilE]; exact h
/-! ### heaps -/
def isHeap (h : Heap1) : Prop := h.Pairwise (· ≥ ·) ∧ ∀ x ∈ h, 1 ≤ x
theorem len_srtR (ns : List Int) : (srt ns).reverse.length = ns.length := by rw [List.length_reverse, (srt_perm ns).length_eq]
theorem mem_srtR {ns : List Int} {x : Int} : x ∈ (srt ns).reverse ↔ x ∈ ns := by rw [List.mem_reverse, (srt_perm ns).mem_iff]
theorem perm_srtR (ns : List Int) : (srt ns).reverse.Perm ns := (List.reverse_perm _).trans (srt_perm ns)
theorem down_srtR (ns : List Int) : (srt ns).reverse.Pairwise (· ≥ ·) := by
  rw [List.pairwise_reverse]
  exact (srt_up ns).imp fun h => h
theorem isHeap_srtR {ns : List Int} {S : Int → Prop} (h : ∀ n ∈ ns, 1 ≤ n ∧ S n) : isHeap (srt ns).reverse := ⟨down_srtR ns, fun x hx => (h x (mem_srtR.mp hx)).1⟩
theorem srtR_self {h : Heap1} (p : h.Pairwise (· ≥ ·)) : (srt h).reverse = h := (srtR_eq (List.Perm.refl h) p).symm
/-! ### two ways by == -/
theorem brDT {p : Prop} [Decidable p] {A B : Prop} (h : p) (q : A) : (decide p = true → A) ∧ (decide p = false → B) := ⟨fun _ => q, fun z => absurd h (of_decide_eq_false z)⟩
theorem brDF {p : Prop} [Decidable p] {A B : Prop} (h : ¬ p) (q : B) : (decide p = true → A) ∧ (decide p = false → B) := ⟨fun z => absurd (of_decide_eq_true z) h, fun _ => q⟩
theorem brNT {p : Prop} [Decidable p] {A B : Prop} (h : ¬ p) (q : A) : ((!decide p) = true → A) ∧ ((!decide p) = false → B) := brN (fun _ => q) fun z => absurd z h
theorem brNF {p : Prop} [Decidable p] {A B : Prop} (h : p) (q : B) : ((!decide p) = true → A) ∧ ((!decide p) = false → B) := brN (fun z => absurd h z) fun _ => q
theorem brE {x y : D} {p : Prop} [Decidable p] {A B : Prop} (e : PyData.eqv x y = decide p) (h1 : p → A) (h2 : ¬ p → B) : (PyData.eqv x y = true → A) ∧ (PyData.eqv x y = false → B) := by rw [e]; exact br h1 h2
theorem brNE {x y : D} {p : Prop} [Decidable p] {A B : Prop} (e : PyData.eqv x y = decide p) (h1 : ¬ p → A) (h2 : p → B) : ((!PyData.eqv x y) = true → A) ∧ ((!PyData.eqv x y) = false → B) := by rw [e]; exact brN h1 h2
theorem brET {x y : D} {A B : Prop} (e : PyData.eqv x y = true) (q : A) : (PyData.eqv x y = true → A) ∧ (PyData.eqv x y = false → B) := by rw [e]; exact brT q
theorem brNET {x y : D} {A B : Prop} (e : PyData.eqv x y = true) (q : B) : ((!PyData.eqv x y) = true → A) ∧ ((!PyData.eqv x y) = false → B) := by rw [e]; exact brF q
theorem eqvT_I {a b : Int} (h : a = b) : PyData.eqv (.int a) (.int b) = true := by rw [eqv_I, decide_eq_true h]
theorem eqvT_B {a b : Bool} (h : a = b) : PyData.eqv (.bool a) (.bool b) = true := by rw [eqv_B, decide_eq_true h]
theorem eqvT_H {a b : List Int} (h : a = b) : PyData.eqv (hD a) (hD b) = true := by rw [eqv_H, decide_eq_true h]
theorem eqvT_R {a b : List (List Int)} (h : a = b) : PyData.eqv (rD a) (rD b) = true := by rw [eqv_R, decide_eq_true h]
theorem eqvT_LI {a b : List Int} (h : a = b) : PyData.eqv (.list (a.map PyData.int)) (.list (b.map PyData.int)) = true := by rw [eqv_LI, decide_eq_true h]
theorem eqvT_LH {a b : List (List Int)} (h : a = b) : PyData.eqv (.list (a.map hD)) (.list (b.map hD)) = true := by rw [eqv_LH, decide_eq_true h]
theorem eqvT_of {x y : D} (h : x = y) (l : SeqAt.shaped x = true) (r : PyData.eqv x x = true) : PyData.eqv x y = true := by rw [← h]; exact r
end Dt

namespace Dt
open PySem PySem.Spec PyProof.Rows L2

/-! ### try: clauses with and without a name, with and without else -/
abbrev TCl := Value × Option Nat × (Addr → Value → Option Addr → TS)
/-- behind a suite the clause's name stands for nothing -/
abbrev goneE (o : Option Nat) (D : Ends) : Ends := match o with
  | none => D
  | some i => { nx := fun σ' H' => D.nx (σ'.set i none) H', rt := D.rt, bk := fun σ' H' => D.bk (σ'.set i none) H', ct := fun σ' H' => D.ct (σ'.set i none) H' }
abbrev bindE (o : Option Nat) (a : Addr) (σ : L2.St) : L2.St := match o with
  | none => σ
  | some i => σ.set i (some (.ref a))
/-- what the clauses wish of an exception of the body -/
def wCl (K : PySem.W.Frag) (Wout : WX) (D : Ends) : List TCl → WX
  | [] => Wout
  | (c, o, ts) :: r => fun cls d σ H => ∃ b, PySem.W.exmOne K cls c = some b ∧ (b = true → ∀ a, H a = none → ts a cls d (goneE o D) (bindE o a σ) H) ∧ (b = false → wCl K Wout D r cls d σ H)
inductive ClOk (X : Cx) : List ExceptHandler → List TCl → Prop
  | nil : ClOk X [] []
  | bare {x : Str} {c : Value} {ts : Addr → Value → Option Addr → TS} {b₀ : Stmt} {suite : List Stmt} {np pos' : Pos} {hds : List ExceptHandler} {l : List TCl} (hc : Names X x c)
      (hsu : ∀ (a : Addr) (oe : Obj) (cls : Value) (d : Option Addr) (pn : List (Addr × Obj)), Zc cls d oe → (∃ vs, oe.data = .fields vs) → PSs (X.suite a ((a, oe) :: pn)) (b₀ :: suite) (ts a cls d)) (r : ClOk X hds l) :
      ClOk X (.ExceptHandler (some (.Name x np)) none (b₀ :: suite) pos' :: hds) ((c, none, ts) :: l)
  | named {x n : Str} {i : Nat} {c : Value} {ts : Addr → Value → Option Addr → TS} {b₀ : Stmt} {suite : List Stmt} {np pos' : Pos} {hds : List ExceptHandler} {l : List TCl} (hi : X.N[i]? = some n) (hln : X.env.kindOf n = some .local) (hc : Names X x c)
      (hsu : ∀ (a : Addr) (oe : Obj) (cls : Value) (d : Option Addr) (pn : List (Addr × Obj)), Zc cls d oe → (∃ vs, oe.data = .fields vs) → PSs (X.suite a ((a, oe) :: pn)) (b₀ :: suite) (ts a cls d)) (r : ClOk X hds l) :
      ClOk X (.ExceptHandler (some (.Name x np)) (some n) (b₀ :: suite) pos' :: hds) ((c, some i, ts) :: l)
section
variable {X : Cx} {body orelse : List Stmt} {h₀ : ExceptHandler} {hds : List ExceptHandler} {l : List TCl} {pos : Pos} {tb : WX → TS} {u : TS} {Wout : WX}
theorem ps_tryG (ho : PSs X orelse u) (hs : X.stack = X.env :: X.outer) (hf : X.env.frame = some X.env.locals) (hN : X.N.Nodup) (tk : L2.Takes X Wout)
    (hb : ∀ (W : WX) (pn : List (Addr × Obj)) (xe : Value → Shared → Prop), L2.Takes (X.tr pn xe) W → PassesOwn (model X.prog X.w) X.A X.env xe → PSs (X.tr pn xe) body (tb W))
    (hh : ClOk X (h₀ :: hds) l) : PS X (.Try body (h₀ :: hds) orelse [] pos) (fun D σ H => tb (wCl X.K Wout D l) { D with nx := u D } σ H) := by
  refine ⟨fun pins s σ H D I h => wpAny_Try_except ?_⟩
  have ok := I.ok
  have fr0 : X.A.frames = some (X.env :: X.outer) := by rw [ok.frames, hs]
  let wish : Value → Shared → Prop := fun e s₁ => wpAny (model X.prog X.w) X.A (noteFrame e X.env) (fun _ s₂ => wpAny (model X.prog X.w) X.A (setFlight e none) (fun _ s₃ => wpAny (model X.prog X.w) X.A (handleBy e X.env (h₀ :: hds)) (SP X pins D) X.xe s₃) X.xe s₂) X.xe s₁
  have catch_ : L2.Takes (X.tr (X.pn ++ pins) wish) (wCl X.K Wout D l) := by
    rintro v s' ⟨a, B, sI, pins', σ', H', cls, d, rfl, J', nb, up, sky, na, os, ag, w⟩
    have J : Inv X pins σ' H' sI := J'.ofTry ok
    have sky' : Sky B (X.env :: X.outer) a (Zc cls d) X.env.locals s'.heap := by rw [← hs]; exact sky
    show wpAny (model X.prog X.w) X.A (noteFrame (.ref a) X.env) _ X.xe s'
    refine Sky.land Zc.steady fr0 hf sky' fun h3 fl3 up3 => ?_
    have J3 : Inv X pins σ' H' { s' with heap := h3 } := J.landed nb fl3.1 (up.trans up3) os ag
    obtain ⟨oe3, vs3, he3, hz3, hd3⟩ := fl3.there
    have nfr : a ∉ frs (X.env :: X.outer) := fun hm => by
      obtain ⟨_, o', e', hnf⟩ := fl3.2.2.1.mem hm
      rw [he3] at e'; cases e'
      exact hnf _ hd3
    have nL : a ≠ X.env.locals := fun z => nfr (List.mem_filterMap.mpr ⟨X.env, List.mem_cons_self, by rw [hf, z]⟩)
    have nF : a ∉ X.fs := fun hm => by
      obtain ⟨e, he, q⟩ := List.mem_filterMap.mp hm
      exact nfr (List.mem_filterMap.mpr ⟨e, List.mem_cons_of_mem _ he, q⟩)
    have S3 := J3.suite he3 hd3 na nL nF
    have LT : PySem.W.Looks (model X.prog X.w) h3 (typeOf (.ref a)) cls := fun A Q E s k q => wpAny_typeOf_ref (k _ _ he3) (by rw [hz3.1]; exact q)
    have test : ∀ {x : Str} {c : Value} {np : Pos} {Q : Value → Shared → Prop} {E : Value → Shared → Prop}, Names X x c → Q c { s' with heap := h3 } → wpAny (model X.prog X.w) (X.A.mark (some (.ref a))) (eval (.Name x np) X.env) Q E { s' with heap := h3 } := fun {x c np Q E} hc q => by
      obtain ⟨hg, hdbg, hm | ⟨hm, hv, hnn⟩⟩ := hc
      · exact ld_glob (X := X.suite a ((a, oe3) :: (X.pn ++ pins))) S3 hg hm q hdbg
      · exact ld_blt (X := X.suite a ((a, oe3) :: (X.pn ++ pins))) S3 hg hm hv q hnn hdbg
    have go : ∀ {hs' : List ExceptHandler} {l' : List TCl}, ClOk X hs' l' → wCl X.K Wout D l' cls d σ' H' →
        wpAny (model X.prog X.w) X.A (handleBy (.ref a) X.env hs') (SP X pins D) X.xe { s' with heap := h3 } := by
      intro hs' l' hk
      induction hk with
      | nil =>
        intro w
        refine wpAny_handleBy_nil ?_
        obtain ⟨_, _, _, oe, vs, T, _, _, he, _, hd, h1, _⟩ := id fl3
        have fin : wpAny (model X.prog X.w) X.A (setFlight (.ref a) X.env.frame) (fun _ s4 => wpAny (model X.prog X.w) X.A (throw (.ref a) : Sem Flow) (SP X pins D) X.xe s4) X.xe { s' with heap := h3 } := by
          rw [hf]
          exact HandSPX.setFlight_upZ fl3 fun h4 hh4 up4 => wpAny_throw (tk _ _ ⟨a, B, sI, pins, σ', H', cls, d, rfl, J, nb, (up.trans up3).trans up4, .inr (.inr (by rw [hs]; exact hh4)), na, os, ag, w⟩)
        unfold PySem.passOn
        refine wpAny_bind (wpAny_field he hd h1 ?_)
        rw [if_neg (show ¬ ((Value.ref T == Value.none) = true) from by simp)]
        first
          | exact wpAny_bind (wpAny_pure (wpAny_bind fin))
          | exact wpAny_bind fin
      | @bare x c ts b₀ suite np pos' hds2 l2 hc hsu r ih =>
        rintro ⟨b, hb1, hyes, hno⟩
        refine wpAny_handleBy_cons (codeAny_handlers_test (test hc ((PySem.W.exm_one (M := model X.prog X.w) J3.kIn LT hb1).here ?_))) (by intro q; cases q)
        cases b with
        | true =>
          refine codeAny_handlers_suite (HandSPX.lands_againZ fl3 fun h4 fl4 up4 => ?_)
          have J4 : Inv X pins σ' H' { s' with heap := h4 } := J.landed nb fl4.1 ((up.trans up3).trans up4) os ag
          obtain ⟨oe4, vs4, he4, hz4, hd4⟩ := fl4.there
          refine wpAny_mono ((hsu a oe4 cls d (X.pn ++ pins) hz4 ⟨_, hd4⟩).run [] _ _ H' _ (J4.suite he4 hd4 na nL nF) (hyes rfl a na)) (fun f s6 hsp => ?_) (fun _ _ z => False.elim z)
          cases f with
          | next => obtain ⟨σ6, H6, S6, q6⟩ := hsp; exact ⟨_, _, S6.unsuite ok, q6⟩
          | brk => obtain ⟨σ6, H6, S6, q6⟩ := hsp; exact ⟨_, _, S6.unsuite ok, q6⟩
          | cont => obtain ⟨σ6, H6, S6, q6⟩ := hsp; exact ⟨_, _, S6.unsuite ok, q6⟩
          | ret u => obtain ⟨v6, σ6, H6, S6, r6, q6⟩ := hsp; exact ⟨_, _, _, S6.unsuite ok, r6, q6⟩
        | false => exact ih (hno rfl)
      | @named x n i c ts b₀ suite np pos' hds2 l2 hi hln hc hsu r ih =>
        rintro ⟨b, hb1, hyes, hno⟩
        refine wpAny_handleBy_cons (codeAny_handlers_test (test hc ((PySem.W.exm_one (M := model X.prog X.w) J3.kIn LT hb1).here ?_))) (by intro q; cases q)
        cases b with
        | true =>
          refine codeAny_handlers_suite_as (HandSPX.lands_againZ fl3 fun h4 fl4 up4 => ?_)
          have J4 : Inv X pins σ' H' { s' with heap := h4 } := J.landed nb fl4.1 ((up.trans up3).trans up4) os ag
          obtain ⟨oe4, vs4, he4, hz4, hd4⟩ := fl4.there
          refine store_ok (X := X.suite a ((a, oe4) :: (X.pn ++ pins))) (v := .ref a) (J4.suite he4 hd4 na nL nF) hN hi (.inl hln) rfl (fun s5 S5 => ?_) (.inr hln)
          refine wpAny_mono ((hsu a oe4 cls d (X.pn ++ pins) hz4 ⟨_, hd4⟩).run [] s5 _ H' _ S5 (hyes rfl a na)) (fun f s6 hsp => ?_) (fun _ _ z => False.elim z)
          have fin : ∀ {σ6 : L2.St} {H6 : Hp} {Q : Shared → Prop}, Inv (X.suite a ((a, oe4) :: (X.pn ++ pins))) [] σ6 H6 s6 → (∀ s7, Inv X pins (σ6.set i none) H6 s7 → Q s7) →
              wpAny (model X.prog X.w) X.A (do bindName X.env n .none; unbindBehindTheSuite X.env n pos') (fun _ s7 => Q s7) X.xe s6 := fun {σ6 H6 Q} S6 hq => gone_ok (S6.unsuite ok) hN hi hln hq
          cases f with
          | next => obtain ⟨σ6, H6, S6, q6⟩ := hsp; exact fin S6 fun s7 J7 => ⟨_, _, J7, q6⟩
          | brk => obtain ⟨σ6, H6, S6, q6⟩ := hsp; exact fin S6 fun s7 J7 => ⟨_, _, J7, q6⟩
          | cont => obtain ⟨σ6, H6, S6, q6⟩ := hsp; exact fin S6 fun s7 J7 => ⟨_, _, J7, q6⟩
          | ret u => obtain ⟨v6, σ6, H6, S6, r6, q6⟩ := hsp; exact fin S6 fun s7 J7 => ⟨_, _, _, J7, r6, q6⟩
        | false => exact ih (hno rfl)
    exact go hh w
  refine wpAny_mono ((hb (wCl X.K Wout D l) (X.pn ++ pins) wish catch_ PassesOwn.looking).run [] s σ H { D with nx := u D } (I.toTry _) h) (fun f s1 hsp => ?_) (fun e s1 he => he)
  cases f with
  | next => obtain ⟨σ', H', J', q⟩ := hsp; exact ho.run pins s1 σ' H' D (J'.ofTry ok) q
  | brk => obtain ⟨σ', H', J', q⟩ := hsp; exact ⟨σ', H', J'.ofTry ok, q⟩
  | cont => obtain ⟨σ', H', J', q⟩ := hsp; exact ⟨σ', H', J'.ofTry ok, q⟩
  | ret u => obtain ⟨v, σ', H', J', r, q⟩ := hsp; exact ⟨v, σ', H', J'.ofTry ok, r, q⟩
end

/-! ### what the written part says of the exception classes -/
/-- ks: the classes of the text, ca: where they stand -/
structure XF (K : PySem.W.Frag) (mg : Str → Option Value) (ks : List Nat) (ca : Nat → Addr) : Prop where
  has : ∀ n ∈ ks, mg (exN n) = some (.ref (ca n))
  exm : ∀ n ∈ ks, ∀ m ∈ ks, PySem.W.exmOne K (.ref (ca n)) (.ref (ca m)) = some (subX n m)
  kit : ∀ n ∈ ks, ∀ m ∈ ks, PySem.W.kitOne K (.ref (ca n)) (.ref (ca m)) = some (subX n m)
  kitV : ∀ n ∈ ks, PySem.W.kitOne K (.ref (ca n)) (.type "ValueError") = some true
  exc : ∀ n ∈ ks, ExcC K (ca n)
  xf : ∀ n ∈ ks, XfC K (ca n)
  kp : ∀ n ∈ ks, PySem.W.keepIn K (.ref (ca n)) = true
  sub : ∀ n ∈ ks, PySem.W.subIn K (.ref (ca n)) (.type "BaseException") = some true
  typ : ∀ n ∈ ks, PySem.W.typeIn K (.ref (ca n)) = some (.type "type")
  own : ∀ n ∈ ks, n ≤ 16 → PySem.W.excIn K (ca n) [.type "ValueError", .type "Exception", .type "BaseException", .type "object"] "ValueError.__new__" = true
def excB (K : PySem.W.Frag) (D : Addr) : Bool := decide (PySem.W.findIn K (.ref D) "__getattribute__" = some (some (.builtin "BaseException.__getattribute__"))) && decide (PySem.W.findIn K (.ref D) "__getattr__" = some none) && decide (PySem.W.subIn K (.ref D) (.type "BaseException") = some true) &&
  PySem.W.hasDictIn K D && decide (PySem.W.findIn K (.ref D) "__class__" = some (some (.builtin "object.__class__"))) && decide (PySem.W.specialIn K (.builtin "object.__class__") "__get__" = some (some (.builtin "getset_descriptor.__get__"))) && decide (PySem.W.takesIn K (.builtin "object.__class__") = some true) && decide (PySem.W.mroIn K D (.type "object") = some true)
def xchk (K : PySem.W.Frag) (ks : List (Nat × Addr)) : Bool := ks.all fun p => (ks.all fun q => decide (PySem.W.exmOne K (.ref p.2) (.ref q.2) = some (subX p.1 q.1)) && decide (PySem.W.kitOne K (.ref p.2) (.ref q.2) = some (subX p.1 q.1))) &&
  decide (PySem.W.kitOne K (.ref p.2) (.type "ValueError") = some true) && excB K p.2 && xfB K p.2 && PySem.W.keepIn K (.ref p.2) && decide (PySem.W.subIn K (.ref p.2) (.type "BaseException") = some true) && decide (PySem.W.typeIn K (.ref p.2) = some (.type "type")) &&
  (!decide (p.1 ≤ 16) || PySem.W.excIn K p.2 [.type "ValueError", .type "Exception", .type "BaseException", .type "object"] "ValueError.__new__")
theorem excB_ok {K : PySem.W.Frag} {D : Addr} (h : excB K D = true) : ExcC K D := by
  unfold excB at h
  simp only [Bool.and_eq_true, decide_eq_true_eq] at h
  obtain ⟨⟨⟨⟨⟨⟨⟨h1, h2⟩, h3⟩, h4⟩, h5⟩, h6⟩, h7⟩, h8⟩ := h
  exact ⟨h1, h2, h3, h4, h5, h6, h7, h8⟩
theorem XF.mk_of {K : PySem.W.Frag} {mg : Str → Option Value} {ks : List Nat} {ca : Nat → Addr} (h : ∀ n ∈ ks, mg (exN n) = some (.ref (ca n))) (c : xchk K (ks.map fun n => (n, ca n)) = true) : XF K mg ks ca := by
  unfold xchk at c
  rw [List.all_eq_true] at c
  have g : ∀ n ∈ ks, _ := fun n hn => c (n, ca n) (List.mem_map_of_mem hn)
  simp only [Bool.and_eq_true, decide_eq_true_eq, List.all_eq_true] at g
  refine ⟨h, fun n hn m hm => ?_, fun n hn m hm => ?_, fun n hn => ?_, fun n hn => ?_, fun n hn => ?_, fun n hn => ?_, fun n hn => ?_, fun n hn => ?_, fun n hn h16 => ?_⟩ <;> obtain ⟨⟨⟨⟨⟨⟨⟨g1, g2⟩, g3⟩, g4⟩, g5⟩, g6⟩, g7⟩, g8⟩ := g n hn
  · exact (g1 (m, ca m) (List.mem_map_of_mem hm)).1
  · exact (g1 (m, ca m) (List.mem_map_of_mem hm)).2
  · exact g2
  · exact excB_ok g3
  · exact xfB_ok g4
  · exact g5
  · exact g6
  · exact g7
  · rw [decide_eq_true h16] at g8; exact g8
def inN (n : Nat) (ks : List Nat) : Bool := ks.any (· == n)
theorem inN_mem {n : Nat} {ks : List Nat} (h : inN n ks = true) : n ∈ ks := by
  unfold inN at h
  rw [List.any_eq_true] at h
  obtain ⟨x, hx, e⟩ := h
  rw [beq_iff_eq] at e
  exact e ▸ hx

/-! ### other exceptions in hand -/
section
variable {K : PySem.W.Frag} {mg : Str → Option Value} {G G' : V → Nat → Option Addr → Prop} {I H : Hp} {F : Lab} {σ : L2.St} {ρ : Rho}
mutual
theorem Dd.reG : ∀ {v : V} {d : D}, Dd ⟨K, mg, G⟩ I v d → Dd ⟨K, mg, G'⟩ I v d
  | _, _, .non => .non
  | _, _, .bl b => .bl b
  | _, _, .int i => .int i
  | _, _, .str x => .str x
  | _, _, .lst h hs => .lst h (DdAll.reG hs)
  | _, _, .tup h z hs => .tup h z (DdAll.reG hs)
  | _, _, .ins c h hs => .ins c h (DdFs.reG hs)
  | _, _, .dic h hs => .dic h (DdKv.reG hs)
theorem DdAll.reG : ∀ {vs : List V} {ds : List D}, DdAll ⟨K, mg, G⟩ I vs ds → DdAll ⟨K, mg, G'⟩ I vs ds
  | _, _, .nil => .nil
  | _, _, .cons h hs => .cons (Dd.reG h) (DdAll.reG hs)
theorem DdFs.reG : ∀ {vs : List (Str × V)} {ds : List (D × D)}, DdFs ⟨K, mg, G⟩ I vs ds → DdFs ⟨K, mg, G'⟩ I vs ds
  | _, _, .nil => .nil
  | _, _, .cons h hs => .cons (Dd.reG h) (DdFs.reG hs)
theorem DdKv.reG : ∀ {vs : List (Key × V)} {ds : List (D × D)}, DdKv ⟨K, mg, G⟩ I vs ds → DdKv ⟨K, mg, G'⟩ I vs ds
  | _, _, .nil => .nil
  | _, _, .cons h hs => .cons (Dd.reG h) (DdKv.reG hs)
end
theorem OwnAt.reG {a : Addr} {fp : List Addr} {c : C} (h : OwnAt ⟨K, mg, G⟩ I H a fp c) : OwnAt ⟨K, mg, G'⟩ I H a fp c := by
  cases c with
  | lst ds => obtain ⟨e, vs, h1, h2⟩ := h; exact ⟨e, vs, h1, h2.reG⟩
  | dic ds => obtain ⟨e, vs, h1, h2⟩ := h; exact ⟨e, vs, h1, Paired.mapP h2 fun _ _ z => ⟨z.1, z.2.reG⟩⟩
  | dcN ds => obtain ⟨e, vs, h1, h2⟩ := h; exact ⟨e, vs, h1, Paired.mapP h2 fun _ _ z => ⟨z.1, z.2.1, z.2.2.1, z.2.2.2.reG⟩⟩
  | st b => exact h
theorem Own.reG {j : Option Nat} {N : Addr → Prop} {a : Addr} {c : C} (h : Own ⟨K, mg, G⟩ F I H j N a c) : Own ⟨K, mg, G'⟩ F I H j N a c := by
  obtain ⟨fp, h1, h2⟩ := h
  exact ⟨fp, h1.reG, h2⟩
theorem XdOk.reG {d : Option Addr} {fs : List (Str × D)} (h : XdOk ⟨K, mg, G⟩ I d fs) : XdOk ⟨K, mg, G'⟩ I d fs := by
  rcases h with h | ⟨dd, fv, h1, h2, h3⟩
  · exact .inl h
  · exact .inr ⟨dd, fv, h1, h2, Paired.mapP h3 fun _ _ z => ⟨z.1, z.2.reG⟩⟩
theorem SlotOk.reG {i : Nat} {v : V} {s : S} (n : ∀ x, s ≠ .exc x) (h : SlotOk ⟨K, mg, G⟩ F I H i v s) : SlotOk ⟨K, mg, G'⟩ F I H i v s := by
  cases s with
  | d d => exact Dd.reG h
  | own c => obtain ⟨a, e, h⟩ := h; exact ⟨a, e, h.reG⟩
  | lent a c => exact ⟨h.1, h.2.reG⟩
  | exc x => exact absurd rfl (n x)
/-- no exception is in hand: any may be said to be -/
theorem Rel.inG (R : Rel ⟨K, mg, noG⟩ F I H σ ρ) : Rel ⟨K, mg, G⟩ F I H σ ρ := ⟨R.sub, R.lab, R.len, fun i s e => by
  obtain ⟨v, h1, h2⟩ := R.slot i s e
  refine ⟨v, h1, h2.reG fun x z => ?_⟩
  subst z
  obtain ⟨_, g, _⟩ := h2
  exact g⟩
/-- all exceptions are let go -/
def wipeX (ρ : Rho) : Rho := ρ.map fun s => match s with
  | some (.exc _) => none
  | s => s
theorem wipeX_get {i : Nat} {s : S} (h : (wipeX ρ)[i]? = some (some s)) : ρ[i]? = some (some s) ∧ ∀ x, s ≠ .exc x := by
  unfold wipeX at h
  rw [List.getElem?_map, Option.map_eq_some_iff] at h
  obtain ⟨o, h1, h2⟩ := h
  split at h2
  · cases h2
  · rename_i hn
    subst h2
    exact ⟨h1, fun x z => hn x (by rw [z])⟩
theorem Rel.outG (R : Rel ⟨K, mg, G⟩ F I H σ ρ) : Rel ⟨K, mg, G'⟩ F I H σ (wipeX ρ) := ⟨R.sub, R.lab, by unfold wipeX; rw [List.length_map]; exact R.len, fun i s e => by
  obtain ⟨h1, h2⟩ := wipeX_get e
  obtain ⟨v, h3, h4⟩ := R.slot i s h1
  exact ⟨v, h3, h4.reG h2⟩⟩
theorem Rel.unset {i : Nat} (R : Rel ⟨K, mg, G⟩ F I H σ ρ) : Rel ⟨K, mg, G⟩ F I H (σ.set i none) (ρ.set i none) := ⟨R.sub, R.lab, by simpa using R.len, fun k s e => by
  by_cases hk : i = k
  · subst hk
    by_cases hl : i < ρ.length
    · rw [List.getElem?_set_self hl] at e; cases e
    · rw [List.getElem?_eq_none (by simpa using hl)] at e; cases e
  · rw [List.getElem?_set_ne hk] at e
    obtain ⟨v, h1, h2⟩ := R.slot k s e
    exact ⟨v, by rw [List.getElem?_set_ne hk]; exact h1, h2⟩⟩
def plainO : O → Prop
  | .exc _ => False
  | _ => True
theorem ResOk.reG {H0 : Hp} {v : V} {o : O} (n : plainO o) (h : ResOk ⟨K, mg, G⟩ F I H0 H σ v o) : ResOk ⟨K, mg, G'⟩ F I H0 H σ v o := by
  cases o with
  | d d => exact Dd.reG h
  | tmp c => obtain ⟨a, e, h⟩ := h; exact ⟨a, e, h.reG⟩
  | loc j => exact h
  | exc x => exact n.elim
end

/-! ### try and raise, by data -/
/-- the exception at a, of the class cls, its own dict d -/
def Ga (mg : Str → Option Value) (a : Addr) (cls : Value) (d : Option Addr) : V → Nat → Option Addr → Prop := fun v n dd => v = .ref a ∧ mg (exN n) = some cls ∧ dd = d
def outX (o : Option Nat) (ρ : Rho) : Rho := match o with
  | none => wipeX ρ
  | some i => (wipeX ρ).set i none
def bindX (o : Option Nat) (x : Exn) (ρ : Rho) : Rho := match o with
  | none => ρ
  | some i => ρ.set i (some (.exc x))
def suiteE (o : Option Nat) (E : DEnds) : DEnds where
  nx ρ := E.nx (outX o ρ)
  bk ρ := E.bk (outX o ρ)
  ct ρ := E.ct (outX o ρ)
  rt r ρ := plainO r ∧ E.rt r (wipeX ρ)
  ex _ _ := False
def dHand (E : DEnds) (x : Exn) (ρ : Rho) : List (Nat × Option Nat × DS) → Prop
  | [] => E.ex x ρ
  | (T, o, b) :: r => (subX x.nm T = true → b (suiteE o E) (bindX o x ρ)) ∧ (subX x.nm T = false → dHand E x ρ r)
def dTry (ks : List Nat) (f : DS) (cs : List (Nat × Option Nat × DS)) (g : DS) : DS := fun E ρ => f { E with nx := fun ρ' => g E ρ', ex := fun x ρ' => inN x.nm ks = true ∧ dHand E x ρ' cs } ρ
def dRaise (n : Nat) : DS := fun E ρ => E.ex ⟨n, []⟩ ρ
def dRaiseF (n : Nat) (fs : List Str) (g : DA) : DS := fun E ρ => g ρ (fun os ρ1 => onlyK os fun ds => ds.length = fs.length ∧ E.ex ⟨n, (fs.zip ds).reverse⟩ ρ1) E.ex
def clsOf (K : PySem.W.Frag) (mg : Str → Option Value) (ca : Nat → Addr) (cs : List (Nat × Option Nat × DS)) : List TCl := cs.map fun c => (.ref (ca c.1), c.2.1, fun a cls d => tS ⟨K, mg, Ga mg a cls d⟩ W0 c.2.2)
section
variable {K : PySem.W.Frag} {mg : Str → Option Value} {W : WX}
theorem w_hand {ks : List Nat} {ca : Nat → Addr} (xf : XF K mg ks ca) {E : DEnds} {D : Ends} {F : Lab} {I H : Hp} (k : SEnd ⟨K, mg, noG⟩ W F I H E D) {x : Exn} {cls : Value} {d : Option Addr} {F' : Lab} {I' H' : Hp} {σ' : L2.St} {ρ' : Rho} (hx : x.nm ∈ ks)
    (s' : Step F I H F' I' H') (R' : Rel ⟨K, mg, noG⟩ F' I' H' σ' ρ') (ex : ExOk ⟨K, mg, noG⟩ I' x cls d) : ∀ (cs : List (Nat × Option Nat × DS)), (∀ c ∈ cs, c.1 ∈ ks) → dHand E x ρ' cs → wCl K W D (clsOf K mg ca cs) cls d σ' H'
  | [], _, h => k.ex x ρ' cls d σ' F' I' H' h s' R' ex
  | (T, o, b) :: r, hc, h => by
    obtain ⟨Cx, e1, rfl, xd⟩ := ex
    have e2 : Cx = ca x.nm := by
      have := xf.has x.nm hx
      rw [show mg (exN x.nm) = some (.ref Cx) from e1] at this
      cases this; rfl
    subst e2
    have kk := k.later s'
    refine ⟨subX x.nm T, xf.exm _ hx T (hc _ List.mem_cons_self), fun hb a na => ?_, fun hb => w_hand xf k hx s' R' ⟨_, e1, rfl, xd⟩ r (fun c hm => hc c (List.mem_cons_of_mem _ hm)) (h.2 hb)⟩
    have h1 := h.1 hb
    have RS : Rel ⟨K, mg, Ga mg a (.ref (ca x.nm)) d⟩ F' I' H' (bindE o a σ') (bindX o x ρ') := by
      cases o with
      | none => exact R'.inG
      | some i => exact (R'.inG (G := Ga mg a (.ref (ca x.nm)) d)).setD (s := .exc x) (v := .ref a) ⟨d, ⟨rfl, e1, rfl⟩, xd.reG⟩
    refine ⟨F', I', _, suiteE o E, RS, h1, ⟨fun ρ2 σ2 F2 I2 H2 h2 s2 R2 => ?_, fun ρ2 σ2 F2 I2 H2 h2 s2 R2 => ?_, fun ρ2 σ2 F2 I2 H2 h2 s2 R2 => ?_, fun o2 ρ2 v σ2 F2 I2 H2 h2 s2 R2 r2 => ?_, fun _ _ _ _ _ _ _ _ h2 _ _ _ => h2.elim⟩⟩
    · cases o with
      | none => exact kk.nx _ σ2 F2 I2 H2 h2 s2 R2.outG
      | some i => exact kk.nx _ (σ2.set i none) F2 I2 H2 h2 s2 R2.outG.unset
    · cases o with
      | none => exact kk.bk _ σ2 F2 I2 H2 h2 s2 R2.outG
      | some i => exact kk.bk _ (σ2.set i none) F2 I2 H2 h2 s2 R2.outG.unset
    · cases o with
      | none => exact kk.ct _ σ2 F2 I2 H2 h2 s2 R2.outG
      | some i => exact kk.ct _ (σ2.set i none) F2 I2 H2 h2 s2 R2.outG.unset
    · have := kk.rt o2 _ v σ2 F2 I2 H2 h2.2 s2 R2.outG (r2.reG h2.1)
      cases o <;> exact this
theorem w_try {ks : List Nat} {ca : Nat → Addr} (xf : XF K mg ks ca) {f g : DS} {cs : List (Nat × Option Nat × DS)} (hc : ∀ c ∈ cs, c.1 ∈ ks) (D : Ends) (σ : L2.St) (H : Hp) (q : tS ⟨K, mg, noG⟩ W (dTry ks f cs g) D σ H) :
    tS ⟨K, mg, noG⟩ (wCl K W D (clsOf K mg ca cs)) f { D with nx := tS ⟨K, mg, noG⟩ W g D } σ H := by
  obtain ⟨F, I, ρ, E, R, f1, k⟩ := q
  refine ⟨F, I, ρ, _, R, f1, ⟨fun ρ2 σ2 F2 I2 H2 h2 s2 R2 => ⟨F2, I2, ρ2, E, R2, h2, k.later s2⟩, k.bk, k.ct, k.rt, fun x ρ2 cls d σ2 F2 I2 H2 h2 s2 R2 ex => ?_⟩⟩
  exact w_hand xf k (inN_mem h2.1) s2 R2 ex cs hc h2.2
end
section
variable {X : Cx} {W : WX} {pos pos2 p p2 : Pos} {body orelse : List Stmt} {h₀ : ExceptHandler} {hds : List ExceptHandler} {f g : DS} {cs : List (Nat × Option Nat × DS)} {ks : List Nat} {ca : Nat → Addr}
/-- the clauses of the text -/
inductive ClsD (X : Cx) (ks : List Nat) (ca : Nat → Addr) : List ExceptHandler → List (Nat × Option Nat × DS) → Prop
  | nil : ClsD X ks ca [] []
  | bare {T : Nat} {b : DS} {b₀ : Stmt} {suite : List Stmt} {x : Str} {np pos' : Pos} {hds : List ExceptHandler} {l : List (Nat × Option Nat × DS)} (hx : x = exN T) (hT : T ∈ ks) (hg : Gl X x) (hd : (x == ("__debug__" : Str)) = false)
      (hsu : ∀ (a : Addr) (oe : Obj) (cls : Value) (d : Option Addr) (pn : List (Addr × Obj)), Zc cls d oe → (∃ vs, oe.data = .fields vs) → PSsd (X.suite a ((a, oe) :: pn)) (Ga X.mg a cls d) W0 (b₀ :: suite) b) (r : ClsD X ks ca hds l) :
      ClsD X ks ca (.ExceptHandler (some (.Name x np)) none (b₀ :: suite) pos' :: hds) ((T, none, b) :: l)
  | named {T i : Nat} {n : Str} {b : DS} {b₀ : Stmt} {suite : List Stmt} {x : Str} {np pos' : Pos} {hds : List ExceptHandler} {l : List (Nat × Option Nat × DS)} (hx : x = exN T) (hT : T ∈ ks) (hg : Gl X x) (hd : (x == ("__debug__" : Str)) = false) (hi : X.N[i]? = some n) (hln : X.env.kindOf n = some .local)
      (hsu : ∀ (a : Addr) (oe : Obj) (cls : Value) (d : Option Addr) (pn : List (Addr × Obj)), Zc cls d oe → (∃ vs, oe.data = .fields vs) → PSsd (X.suite a ((a, oe) :: pn)) (Ga X.mg a cls d) W0 (b₀ :: suite) b) (r : ClsD X ks ca hds l) :
      ClsD X ks ca (.ExceptHandler (some (.Name x np)) (some n) (b₀ :: suite) pos' :: hds) ((T, some i, b) :: l)
theorem ClsD.ok (xf : XF X.K X.mg ks ca) : ∀ {hds : List ExceptHandler} {cs : List (Nat × Option Nat × DS)}, ClsD X ks ca hds cs → ClOk X hds (clsOf X.K X.mg ca cs) ∧ ∀ c ∈ cs, c.1 ∈ ks
  | _, _, .nil => ⟨.nil, by simp⟩
  | _, _, .bare hx hT hg hd hsu r => by
    obtain ⟨h1, h2⟩ := ClsD.ok xf r
    refine ⟨.bare ⟨hg, hd, .inl (by rw [hx]; exact xf.has _ hT)⟩ hsu h1, fun c hc => ?_⟩
    rcases List.mem_cons.mp hc with rfl | hc
    · exact hT
    · exact h2 c hc
  | _, _, .named hx hT hg hd hi hln hsu r => by
    obtain ⟨h1, h2⟩ := ClsD.ok xf r
    refine ⟨.named hi hln ⟨hg, hd, .inl (by rw [hx]; exact xf.has _ hT)⟩ hsu h1, fun c hc => ?_⟩
    rcases List.mem_cons.mp hc with rfl | hc
    · exact hT
    · exact h2 c hc
theorem z_try (xf : XF X.K X.mg ks ca) (hs : X.stack = X.env :: X.outer) (hf : X.env.frame = some X.env.locals) (hN : X.N.Nodup) (tk : L2.Takes X W)
    (hb : ∀ (W : WX) (pn : List (Addr × Obj)) (xe : Value → Shared → Prop), L2.Takes (X.tr pn xe) W → PassesOwn (model X.prog X.w) X.A X.env xe → PSsd (X.tr pn xe) noG W body f)
    (hh : ClsD X ks ca (h₀ :: hds) cs) (ho : PSsd X noG W orelse g) : PSd X noG W (.Try body (h₀ :: hds) orelse [] pos) (dTry ks f cs g) :=
  PS.weak (ps_tryG (tb := fun W => tS ⟨X.K, X.mg, noG⟩ W f) ho hs hf hN tk hb (hh.ok xf).1) fun D σ H q => w_try xf (hh.ok xf).2 D σ H q
theorem z_raise {n j : Nat} {x m : Str} (xf : XF X.K X.mg ks ca) (hc : X.calm = true) (tk : L2.Takes X W) (hn : n ∈ ks) (h16 : n ≤ 16) (hx : x = exN n) (hg : Gl X x) (hd : (x == ("__debug__" : Str)) = false := by decide) :
    PSd X noG W (.Raise (some (.Call (.Name x p) [.Constant (.str m) j p2] [] pos)) none pos2) (dRaise n) :=
  PS.weak (ps_raise hc tk (pmk_own PySem.F.excBase_ValueError (xf.own n hn h16) (by rw [hx]; exact xf.has n hn) (xf.kp n hn) (raises_own (xf.sub n hn) (xf.typ n hn)) hg hd)) fun D σ H q => by
    obtain ⟨F, I, ρ, E, R, f1, k⟩ := q
    exact k.ex ⟨n, []⟩ ρ _ _ σ F I H f1 (Step.refl ..) R ⟨_, xf.has n hn, rfl, .inl ⟨rfl, rfl⟩⟩
end
end Dt

namespace Dt
open PySem PySem.Spec PySem.Calls PyProof.Rows L2

/-! ### isinstance and the fields of an exception in hand, whatever it holds -/
section
variable {prog : Program} {w : World} {A : Around} {E : Value → Shared → Prop} {K : PySem.W.Frag} {x D : Addr} {ox : Obj} {od : Option Obj}
open PySem.W in
theorem class_of_exc {Q : Option Value → Shared → Prop} {s : Shared} (T : ExcC K D) (X : K.In s.heap) (J : PySem.W.InstAt s.heap x ox D od) (h : Q (some (.ref D)) { s with toks := s.toks + 1 }) : wpAny (model prog w) A (getAttr? (.ref x) "__class__") Q E s := by
  have hf : findObj K D od "__class__" = some (.bind (.builtin "getset_descriptor.__get__") (.builtin "object.__class__")) := by
    obtain ⟨cd, hc, _⟩ := any_some T.hd
    unfold findObj
    rw [hc, Option.bind_some, T.ha, Option.bind_some]
    simp [T.hn, T.ht]
  obtain ⟨hp, g, d, t, os⟩ := s
  have l0 := J.type (M := model prog w)
  have l3 := looks_find (M := model prog w) X J hf
  have l1 := looks_findIn (M := model prog w) X T.hg
  have l2 := looks_findIn (M := model prog w) X T.hk
  have up : Looks (model prog w) hp (isInstance (.ref x) (.type "BaseException")) true := l0.andThen (looks_subIn X T.hs)
  have n2 : (Value.builtin "BaseException.__getattribute__" == Value.builtin "object.__getattribute__") = false := by decide +kernel
  have n1 : (onTheHeap (Value.ref D) && Value.builtin "BaseException.__getattribute__" == Value.builtin "object.__getattribute__") = false := by rw [n2]; rfl
  have n0 : (false && onTheHeap (Value.builtin "BaseException.__getattribute__")) = false := rfl
  unfold getAttr? getAttrBy? getAttrBy
  refine wpAny_bind (wpAny_mkText (wpAny_bind (wpAny_attempt (wpAny_holding (wpAny_bind (l0.at (wpAny_bind (l1.at ?_))))))))
  show wpAny _ _ (ite ((onTheHeap (Value.ref D) && Value.builtin "BaseException.__getattribute__" == Value.builtin "object.__getattribute__") = true) _ _) _ _ _
  rw [n1, if_neg Bool.false_ne_true]
  unfold getAttrByItsOwn hookBefore
  refine wpAny_bind ?_
  rw [if_pos (show onTheHeap (Value.ref D) = true from rfl)]
  refine l2.at (wpAny_bind (wpAny_attempt (wpAny_holding ?_)))
  unfold callGetattribute
  rw [n0, if_neg Bool.false_ne_true]
  unfold boundAndCalled
  rw [PySem.F.excAttr_ValueError.ga.bind (.ref x)]
  refine wpAny_bind (wpAny_pure ?_)
  show wpAny _ _ (call (.builtin "BaseException.__getattribute__") [.ref x, .str "__class__" t]) _ _ _
  refine wpAny_call (codeAny_call_builtin PySem.F.excAttr_ValueError.ga.plain PySem.F.entry_bexc_ga (@check_slot (model prog w) _ _ ⟨hp, g, d, t + 1, os⟩ "BaseException.__getattribute__" "BaseException" "__getattribute__" (.ref x) [.str "__class__" t] [] _ (by decide +kernel) (by decide +kernel) up (PySem.F.args_bexc_ga (.ref x) (.str "__class__" t)) ?_))
  unfold Builtin.«object.__getattribute__»
  refine wpAny_bind (wpAny_of_eq (a := ((Value.ref x : Value), [Value.str "__class__" t])) (by first | rfl | (simp only [slotArgs]; rfl)) (wpAny_bind (wpAny_pure (wpAny_bind (l0.at (wpAny_bind (l3.at ?_)))))))
  show wpAny _ _ (holding [Value.builtin "object.__class__"] (call (.builtin "getset_descriptor.__get__") [.builtin "object.__class__", .ref x, .ref D]) >>= ret) _ _ _
  refine wpAny_bind (wpAny_holding (wpAny_call (class_get (s := ⟨hp, g, d, t + 1, os⟩) (ox := ox) (od := od) X J T.hm (wpAny_pure ?_))))
  show wpAny _ _ (handedOut (.ref D)) _ _ _
  rw [handedOut_of (v := .ref D) rfl]
  first
    | exact wpAny_pure (wpAny_pure h)
    | exact wpAny_pure h
    | exact wpAny_pure (wpAny_bind (wpAny_pure (wpAny_pure h)))
open PySem.W in
theorem kitx_of (T : ExcC K D) : KitX K (.ref x) (.ref D) (fun h => ∃ od, PySem.W.InstAt h x ox D od) where
  ty := fun _ _ _ ⟨_, J⟩ => J.type
  it := fun _ _ X _ => by
    obtain ⟨_, hc, _⟩ := any_some T.hd
    unfold clsIn at hc
    split at hc
    · rename_i ho
      intro A' Q' E' s' k q
      unfold isType loadHead
      exact wpAny_bind (wpAny_loadPart (k _ _ (X _ _ ho)) (wpAny_pure q))
    · cases hc
  ne := fun h tp dd its n sl X htp => by
    obtain ⟨_, hc, _⟩ := any_some T.hd
    refine Bool.eq_false_iff.mpr fun q => ?_
    obtain rfl : D = tp := Value.ref.inj (beq_iff_eq.mp q)
    unfold clsIn at hc
    split at hc
    · rename_i ho
      cases (X _ _ ho).symm.trans htp
    · cases hc
  ca := fun X ⟨_, J⟩ k => class_of_exc T X J k
end
/-- p's object is an exception in hand -/
def HandX (X : Cx) (p : Addr × Obj) : Prop := p ∈ X.pn ∧ ∃ vs, p.2.data = .fields vs
theorem inst_of {X : Cx} {pins : List (Addr × Obj)} {σ : L2.St} {H : Hp} {s : Shared} {p : Addr × Obj} {C : Addr} {d : Option Addr} (J : Inv X pins σ H s) (hp : HandX X p) (z : Zc (.ref C) d p.2) (hd : d = none ∨ ∃ dd fv, d = some dd ∧ H dd = some (.xd fv)) : ∃ od, PySem.W.InstAt s.heap p.1 p.2 C od := by
  obtain ⟨h1, vs, h2⟩ := hp
  obtain ⟨hget, _⟩ := J.pin p (List.mem_append.mpr (.inl h1))
  have nc : PySem.W.notCls p.2 := by unfold PySem.W.notCls; rw [h2] <;> trivial
  rcases hd with rfl | ⟨dd, fv, rfl, e⟩
  · exact ⟨none, hget, z.1, nc, by rw [z.2]; trivial⟩
  · have hx : ObjOk X.prog X.w H s.heap dd (.xd fv) := J.hok dd _ e
    obtain ⟨mA, hns, _⟩ := hx
    obtain ⟨od, ho, _⟩ := lookIn_ns hns
    exact ⟨some od, hget, z.1, nc, by rw [z.2]; exact ho⟩
def rIsX (K : PySem.W.Frag) (cls : Value) (a : Addr) (d : Option Addr) : List V → Hp → VK → Prop := fun xs H Q => ∃ (D : Addr) (c : V) (cv : Value) (b : Bool), cls = .ref D ∧ ExcC K D ∧ xs = [.ref a, c] ∧ (∀ u, RelV c u → u = cv) ∧ PySem.W.kitOne K (.ref D) cv = some b ∧ (d = none ∨ ∃ dd fv, d = some dd ∧ H dd = some (.xd fv)) ∧ Q (.bl b) H
theorem call_isX {X : Cx} {p : Addr × Obj} {cls : Value} {d : Option Addr} (hp : HandX X p) (z : Zc cls d p.2) : CallR X (.builtin "isinstance") (rIsX X.K cls p.1 d) := by
  intro pins s σ H xs us Q J r h
  obtain ⟨D, c, cv, b, rfl, T, rfl, hcv, e, hd, q⟩ := h
  obtain ⟨u1, u2, rfl, rx, rt⟩ : ∃ u1 u2, us = [u1, u2] ∧ RelV (.ref p.1) u1 ∧ RelV c u2 := by
    cases r with
    | cons rx rr => cases rr with
      | cons rt rr => cases rr; exact ⟨_, _, rfl, rx, rt⟩
  cases rx
  obtain rfl := hcv _ rt
  exact PySem.W.kia_one (kitx_of T) J.kIn (inst_of J hp z hd) e (fun z => nomatch z) fun tk => ⟨.bl b, H, J.kept (t' := tk) fun _ _ z => z, rfl, q⟩
/-- what is in hand in a context: p's object, of the class cls, its own dict d -/
structure InHand (X : Cx) (p : Addr × Obj) (cls : Value) (d : Option Addr) : Prop where
  hx : HandX X p
  z : Zc cls d p.2
def dIsE (ks : List Nat) (T : Nat) (f : DE) : DE := fun ρ P PX => f ρ (fun o ρ1 => match o with
  | .exc x => inN x.nm ks = true ∧ P (.d (.bool (subX x.nm T))) ρ1
  | _ => False) PX
theorem subX_V (n : Nat) : subX n 1 = true := by unfold subX; simp
def dFld (n0 : List Nat) (f : Str) (fa : DE) : DE := fun ρ P PX => fa ρ (fun o ρ1 => match o with
  | .exc x => inN x.nm n0 = true ∧ getK (x.fs.lookup f) fun v => P (.d v) ρ1
  | _ => False) PX
section
variable {X : Cx} {W : WX} {pos pos' tp : Pos} {a : Expr} {fa : DE} {ks : List Nat} {ca : Nat → Addr} {p : Addr × Obj} {cls : Value} {d : Option Addr}
theorem xd_cases {q : Pm} {I H : Hp} {fs : List (Str × D)} (s : Same I H) (h : XdOk q I d fs) : d = none ∨ ∃ dd fv, d = some dd ∧ H dd = some (.xd fv) := by
  rcases h with ⟨_, h⟩ | ⟨dd, fv, h1, h2, _⟩
  · exact .inl h
  · exact .inr ⟨dd, fv, h1, s _ _ h2⟩
theorem e_isE {T : Nat} {t : Str} (xf : XF X.K X.mg ks ca) (ih : InHand X p cls d) (hT : T ∈ ks) (ht : t = exN T) (hgt : Gl X t) (hg : Gl X "isinstance") (hm : X.mg "isinstance" = none) (ha : PEd X (Ga X.mg p.1 cls d) W a fa)
    (hdt : (t == ("__debug__" : Str)) = false := by decide)
    (h1 : starEach [.Name t tp] X.env = (false, eval (.Name t tp) X.env) :: starEach [] X.env := by rfl) (h2 : starEach [a, .Name t tp] X.env = (false, eval a X.env) :: starEach [.Name t tp] X.env := by rfl)
    (hpl : (backTo pos (starEach [.Name t tp] X.env)).any (·.1) = false := by rfl) : PEd X (Ga X.mg p.1 cls d) W (.Call (.Name "isinstance" pos') [a, .Name t tp] [] pos) (dIsE ks T fa) := by
  refine PE.weak (pe_callB (call_isX ih.hx ih.z) hg hm (by decide +kernel) (pa_cons ha (pa_cons (pe_glob (v := .ref (ca T)) hgt (by rw [ht]; exact xf.has T hT) rfl hdt) pa_nil h1) h2) (by decide) (by decide) h2 hpl) fun σ H Q q => ?_
  obtain ⟨F, I, ρ, P, PX, R, f1, k, x⟩ := q
  refine ⟨F, I, ρ, _, PX, R, f1, fun o ρ1 v F1 I1 H1 f2 s1 R1 r1 => ?_, x⟩
  split at f2
  · rename_i x0
    obtain ⟨hin, f2⟩ := f2
    obtain ⟨dd, ⟨rfl, e1, rfl⟩, xd⟩ := r1
    have e2 := xf.has x0.nm (inN_mem hin)
    rw [e1] at e2
    exact ⟨_, _, _, _, Option.some.inj e2, xf.exc _ (inN_mem hin), rfl, fun u hu => hu, xf.kit _ (inN_mem hin) T hT, xd_cases R1.sub xd, k _ _ _ _ _ _ f2 s1 R1 (Dd.bl _)⟩
  · exact f2.elim
theorem e_isV (xf : XF X.K X.mg ks ca) (ih : InHand X p cls d) (hgt : Gl X "ValueError") (hmt : X.mg "ValueError" = none) (hg : Gl X "isinstance") (hm : X.mg "isinstance" = none) (ha : PEd X (Ga X.mg p.1 cls d) W a fa)
    (h1 : starEach [.Name "ValueError" tp] X.env = (false, eval (.Name "ValueError" tp) X.env) :: starEach [] X.env := by rfl) (h2 : starEach [a, .Name "ValueError" tp] X.env = (false, eval a X.env) :: starEach [.Name "ValueError" tp] X.env := by rfl)
    (hpl : (backTo pos (starEach [.Name "ValueError" tp] X.env)).any (·.1) = false := by rfl) : PEd X (Ga X.mg p.1 cls d) W (.Call (.Name "isinstance" pos') [a, .Name "ValueError" tp] [] pos) (dIsE ks 1 fa) := by
  refine PE.weak (pe_callB (call_isX ih.hx ih.z) hg hm (by decide +kernel) (pa_cons ha (pa_cons (pe_bltn (v := .ty "ValueError") hgt hmt PyProof.Rows.Boot.«ValueError» rfl (by decide) (by decide)) pa_nil h1) h2) (by decide) (by decide) h2 hpl) fun σ H Q q => ?_
  obtain ⟨F, I, ρ, P, PX, R, f1, k, x⟩ := q
  refine ⟨F, I, ρ, _, PX, R, f1, fun o ρ1 v F1 I1 H1 f2 s1 R1 r1 => ?_, x⟩
  split at f2
  · rename_i x0
    obtain ⟨hin, f2⟩ := f2
    obtain ⟨dd, ⟨rfl, e1, rfl⟩, xd⟩ := r1
    have e2 := xf.has x0.nm (inN_mem hin)
    rw [e1] at e2
    rw [subX_V] at f2
    exact ⟨_, _, _, _, Option.some.inj e2, xf.exc _ (inN_mem hin), rfl, fun u hu => hu, xf.kitV _ (inN_mem hin), xd_cases R1.sub xd, k _ _ _ _ _ _ f2 s1 R1 (Dd.bl _)⟩
  · exact f2.elim
theorem paired_lookup {q : Pm} {I : Hp} {f : Str} : ∀ {fv : List (Str × V)} {fs : List (Str × D)} {v : D}, Paired (fun (u : Str × V) (q' : Str × D) => u.1 = q'.1 ∧ Dd q I u.2 q'.2) fv fs → fs.lookup f = some v → ∃ u, fv.lookup f = some u ∧ Dd q I u v
  | _, _, _, .nil, h => by simp at h
  | (n1, u1) :: fv, (n2, d2) :: fs, v, .cons r rr, h => by
    obtain ⟨rfl, r2⟩ := r
    simp only [List.lookup] at h ⊢
    cases e : (f == n1) with
    | true => rw [e] at h; simp at h; subst h; exact ⟨u1, by simp, r2⟩
    | false => rw [e] at h; obtain ⟨u, h1, h2⟩ := paired_lookup rr h; exact ⟨u, h1, h2⟩
/-- e.f of the exception in hand -/
theorem e_fld {f : Str} {n0 : List Nat} (xf : XF X.K X.mg ks ca) (ih : InHand X p cls d) (hno : ∀ n ∈ n0, n ∈ ks ∧ PySem.W.findIn X.K (.ref (ca n)) f = some none) (ha : PEd X (Ga X.mg p.1 cls d) W a fa)
    (hb : attributeBase a f X.env (eval a X.env) = eval a X.env := by rfl) : PEd X (Ga X.mg p.1 cls d) W (.Attribute a f pos) (dFld n0 f fa) := by
  let QQ : VK → VK := fun Q x H1 => ∃ D od v, x = .ref p.1 ∧ cls = .ref D ∧ d = some od ∧ XfC X.K D ∧ PySem.W.findIn X.K (.ref D) f = some none ∧ (∃ fv, H1 od = some (.xd fv) ∧ fv.lookup f = some v) ∧ Q v H1
  refine ⟨fun pins s σ H Q J h => attr_of hb (thn (ha.run pins s σ H (QQ Q) J ?_) fun u s1 hh => ?_)⟩
  · obtain ⟨F, I, ρ, P, PX, R, f1, k, x⟩ := h
    refine ⟨F, I, ρ, _, PX, R, f1, fun o ρ1 v F1 I1 H1 f2 s1 R1 r1 => ?_, x⟩
    split at f2
    · rename_i x0
      obtain ⟨hin, f2⟩ := f2
      obtain ⟨v0, e0, f2⟩ := getK_of f2
      obtain ⟨hk, hf⟩ := hno x0.nm (inN_mem hin)
      obtain ⟨dd, ⟨rfl, e1, rfl⟩, xd⟩ := r1
      have e2 := xf.has x0.nm hk
      rw [e1] at e2
      rcases xd with ⟨z, _⟩ | ⟨od, fv, h1, h2, h3⟩
      · rw [z] at e0; cases e0
      · obtain ⟨u, hu, ru⟩ := paired_lookup h3 e0
        exact ⟨_, od, u, rfl, Option.some.inj e2, h1, xf.xf _ hk, hf, ⟨fv, R1.sub _ _ h2, hu⟩, k _ _ _ _ _ _ f2 s1 R1 ru⟩
    · exact f2.elim
  · obtain ⟨x, H1, J1, rx, D, od, v, rfl, hD, hd, xc, hf, ⟨fv, e, l⟩, q⟩ := hh
    obtain rfl : u = Value.ref p.1 := rx
    have hx : ObjOk X.prog X.w H1 s1.heap od (.xd fv) := J1.hok od _ e
    obtain ⟨mA, hns, hr⟩ := hx
    obtain ⟨ob, ho, hl⟩ := lookIn_ns hns
    obtain ⟨u, hu, ru⟩ := RelO.some_of (v := v) (o := mA f) (by rw [← l]; exact hr f)
    obtain ⟨h1, vs, h2⟩ := ih.hx
    obtain ⟨hget, _⟩ := J1.pin p (List.mem_append.mpr (.inl h1))
    have z := ih.z
    rw [hD, hd] at z
    have Jx : PySem.W.InstAt s1.heap p.1 p.2 D (some ob) := ⟨hget, z.1, by unfold PySem.W.notCls; rw [h2] <;> trivial, by rw [z.2]; exact ho⟩
    exact HandSPX.exc_get J1.kIn Jx xc.ga xc.gg xc.exC (PySem.W.findObj_own xc.hdC hf rfl (by rw [hl, hu])) (handed_of ru) ⟨v, H1, J1.tok _, ru, q⟩
end

/-! ### defs that are called while an exception is in hand -/
/-- p's object stands by, out of the reach of what is tracked -/
structure FnE (P : Program) (w : World) (K : PySem.W.Frag) (mg : Str → Option Value) (base : Heap) (CX : CXT) (k : Nat) (f : Addr) (fd : FuncData) (ps : List Str) (p : Addr × Obj) (sp : Sp) : Prop where
  len : ∀ vs H Q E, sp vs H Q E → vs.length = ps.length
  run : ∀ (A : Around) (outer : List Env) (s : Shared) (H : Hp) (args : Args) (us : List Value) (vs : List V) (Q : VK) (E : XK), L2H.RoomH k A → L2H.PinOk outer H s p → Env0 P w K mg base A outer s H → BindsTo s fd args (ps.zip us) → Vals vs us → sp vs H Q E →
    codeAny (model P w) A (.call (.ref f) args) (CR CX outer P w H s Q E) s
section
variable {P : Program} {w : World} {K : PySem.W.Frag} {mg : Str → Option Value} {base : Heap}
theorem fn_E {CX : CXT} {k : Nat} {f : Addr} {name qual : Str} {params : Arguments} {body : List Stmt} {scope : Scope} {dV kV doc pm cdv ct oc : Value} {an od : Option Addr} {osl : Array (Option Value)} {N ps : List Str} {sp : Sp} {p : Addr × Obj}
    (lk : K.lookup f = some ⟨oc, od, .func (PySem.W.fnOf name qual params body scope dV kV doc pm an cdv ct), osl⟩) (hcd : PySem.W.codeIn K cdv qual = true) (S : FnScope N ps scope) (len : ∀ vs H Q E, sp vs H Q E → vs.length = ps.length)
    (hbody : ∀ (A : Around) (outer : List Env) (s : Shared) (H : Hp) (vs : List V) (Q : VK) (E : XK), L2H.RoomH k (A.deeper (envOfC qual scope s.heap.objs.size f cdv)) → sp vs H Q E →
      ∃ t, PSs (L2H.cxH CX P w K mg base N qual scope f cdv A outer s H E p) body t ∧ t { nx := fun _ H' => Q .non H', rt := Q } (L2.start N vs) H) :
    FnE P w K mg base CX (k + 1) f (PySem.W.fnOf name qual params body scope dV kV doc pm an cdv ct) ps p sp := ⟨len, fun A outer s H args us vs Q E hr hpin e0 hb r hsp => by
  have lim : s.heap.NoLimit := e0.mod.nolimit.keeps fun b o e => (e0.bs b o e).1
  have KX : K.In s.heap := e0.mod.kin.keeps fun b o e => (e0.bs b o e).1
  refine codeAny_call_function hr.depth (KX _ _ lk) rfl S.co S.gen rfl (PySem.W.codeRec_of KX hcd) (hb _ _ _ _ (wpAny_newFunctionEnv_cells S.kind (fun ⟨n, v⟩ hy => ?_) fun env he s1 x => ?_))
  · rcases S.par n (List.of_mem_zip hy).1 with q | q
    · exact .inl q
    · exact .inr ⟨q, PySem.W.cellsFrom_some _ _ _ (.inl q)⟩
  · subst he
    obtain ⟨t, ht, hq⟩ := hbody A outer s H vs Q E (hr.deeper _) hsp
    have J0 : Inv (L2H.cxH CX P w K mg base N qual scope f cdv A outer s H E p) [] (L2.start N vs) H s1 := L2H.inv_startH S hpin e0 (len _ _ _ _ hsp) r x
    refine ⟨lim.keeps x.toInCall.keep, codeAny_func (wpAny_mono (ht.run [] s1 (L2.start N vs) H _ J0 hq) (fun fl s' hs => ?_) fun e s' hs => hs)⟩
    cases fl with
    | ret u => obtain ⟨v, σ', H', J, rv, q⟩ := hs; exact ⟨v, H', J.os, J.bare, J.base, J.hok, rv, q⟩
    | next => obtain ⟨σ', H', J, q⟩ := hs; exact ⟨V.non, H', J.os, J.bare, J.base, J.hok, rfl, q⟩
    | brk => obtain ⟨_, _, _, q⟩ := hs; exact q.elim
    | cont => obtain ⟨_, _, _, q⟩ := hs; exact q.elim⟩
end
section
variable {X : Cx} {W : WX} {pos pos' : Pos} {a : Expr} {es : List Expr} {g : DA} {k : Nat} {x : Str} {f : Addr} {fd : FuncData} {ps : List Str} {sp : DSp} {p : Addr × Obj} {cls : Value} {d : Option Addr}
/-- arguments: data and exceptions in hand -/
def argX : List O → Option (List S)
  | [] => some []
  | .d d :: os => (match argX os with
    | some ds => some (.d d :: ds)
    | none => none)
  | .exc x :: os => (match argX os with
    | some ds => some (.exc x :: ds)
    | none => none)
  | _ :: _ => none
def argK (os : List O) (k : List S → Prop) : Prop := match argX os with
  | some ds => k ds
  | none => False
theorem argK_of {os : List O} {k : List S → Prop} (h : argK os k) : ∃ ds, argX os = some ds ∧ k ds := by
  unfold argK at h
  split at h
  · exact ⟨_, by assumption, h⟩
  · exact h.elim
def dCallE (sp : DSp) (g : DA) : DE := fun ρ P PX => g ρ (fun os ρ1 => argK os fun ss => sp ss (fun o _ => P o ρ1) (fun x _ => PX x ρ1)) PX
theorem argX_ok {q : Pm} {F : Lab} {I H0 H : Hp} {σ : L2.St} : ∀ {vs : List V} {os : List O} {ss : List S}, ResAll q F I H0 H σ vs os → argX os = some ss → Paired (fun v s => ∀ F' H' i, SlotOk q F' I H' i v s) vs ss
  | _, _, _, .nil, h => by cases h; exact .nil
  | _, _, _, .cons (b := o) r rs, h => by
    cases o with
    | d d =>
      unfold argX at h
      split at h
      · cases h; exact .cons (fun _ _ _ => r) (argX_ok rs (by assumption))
      · cases h
    | exc x =>
      unfold argX at h
      split at h
      · cases h; exact .cons (fun _ _ _ => r) (argX_ok rs (by assumption))
      · cases h
    | tmp c => cases h
    | loc j => cases h
theorem paired_at {α β : Type} {R : α → β → Prop} : ∀ {xs : List α} {ys : List β} {i : Nat} {y : β}, Paired R xs ys → ys[i]? = some y → ∃ x, xs[i]? = some x ∧ R x y
  | _, _, _, _, .nil, h => by simp at h
  | _, _, 0, _, .cons r _, h => by simp at h; subst h; exact ⟨_, rfl, r⟩
  | _, _, i + 1, y, .cons _ rr, h => by
    obtain ⟨x, h1, h2⟩ := paired_at (i := i) rr (by simpa using h)
    exact ⟨x, by simpa using h1, h2⟩
theorem w_callE {q : Pm} (σ : L2.St) (H : Hp) (Q : VK) (h : tE q W (dCallE sp g) σ H Q) : tA q W g σ H fun vs H1 => spOf q sp vs H1 Q (WE W σ) := by
  obtain ⟨F, I, ρ, P, PX, R, f, k, x⟩ := h
  refine ⟨F, I, ρ, _, PX, R, f, fun os ρ1 vs F1 I1 H1 h s1 R1 r1 => ?_, x⟩
  obtain ⟨ss, e, h⟩ := argK_of h
  have r := argX_ok r1 e
  refine ⟨fun _ => none, I1, ss, _, _, ⟨R1.sub, (fun a j z => nomatch z), by rw [List.length_map, List.length_map]; exact (plen r).symm, fun i s z => ?_⟩, (fun a j z => nomatch z), h, fun o os' v F' I' H' h s' R' r' => ?_, fun x' os' cls d F' I' H' h s' R' ex => ?_⟩
  · rw [map_some_get] at z
    obtain ⟨v, h1, h2⟩ := paired_at r z
    exact ⟨v, map_some_get.mpr h1, h2 _ _ _⟩
  · obtain ⟨R2, s2⟩ := after_call R1 s' R'.sub
    exact k o ρ1 v F1 I' H' h (s1.trans s2) R2 ((ret_ok R1 r').older fun b => s1.old)
  · obtain ⟨R2, s2⟩ := after_call R1 s' R'.sub
    exact x x' ρ1 cls d F1 I' H' h (s1.trans s2) R2 ex
where plen {α β : Type} {R : α → β → Prop} : ∀ {xs : List α} {ys : List β}, Paired R xs ys → xs.length = ys.length
  | _, _, .nil => rfl
  | _, _, .cons _ r => by simp [plen r]
theorem run_E {pins : List (Addr × Obj)} {σ : L2.St} {H : Hp} {s : Shared} {Q : VK} {us : List Value} {vs : List V} {sp : Sp} {E : L2.St → XK} (F : FnE X.prog X.w X.K X.mg X.base (L2.CX X.prog X.w) k f fd ps p sp) (hr : L2H.RoomH k X.A) (hp : HandX X p) (hb : Binds X.K fd ps []) (hx : PassesAt (L2.CX X.prog X.w) X σ (E σ))
    (J : Inv X pins σ H s) (r : Vals vs us) (h : sp vs H Q (E σ)) : wpAny (model X.prog X.w) X.A (call (.ref f) us) (EP X pins σ Q) X.xe s := by
  have hl : us.length = ps.length := by rw [← r.length]; exact F.len _ _ _ _ h
  have b := hb s us J.kIn (by rw [List.append_nil]; exact hl)
  rw [List.append_nil] at b
  have P1 := J.pin p (List.mem_append_left _ hp.1)
  have hpin : L2H.PinOk X.stack H s p := ⟨P1.1, P1.2.1, fun hm => (List.mem_cons.mp (J.stkSub p.1 hm)).elim P1.2.2.1 P1.2.2.2.1, P1.2.2.2.2⟩
  refine wpAny_call (codeAny_mono (F.run X.A X.stack s H ⟨us, []⟩ us vs Q (E σ) hr hpin J.env0 b r h) fun r s' hq => ?_)
  match r, hq with
  | .error e, hq => exact hx pins H s e s' J hq
  | .ok (.ret u), hq => exact J.after hq
  | .ok .next, hq => exact hq.elim
  | .ok .brk, hq => exact hq.elim
  | .ok .cont, hq => exact hq.elim
theorem e_callE (F : FnE X.prog X.w X.K X.mg X.base (L2.CX X.prog X.w) k f fd ps p (spOf ⟨X.K, X.mg, Ga X.mg p.1 cls d⟩ sp)) (ih : InHand X p cls d) (hx : ∀ σ, PassesAt (L2.CX X.prog X.w) X σ (WE W σ)) (hr : L2H.RoomH k X.A) (hg : Gl X x) (hm : X.mg x = some (.ref f)) (hk : PySem.W.keepIn X.K (.ref f) = true) (hb : Binds X.K fd ps [])
    (ha : PAd X (Ga X.mg p.1 cls d) W (a :: es) g) (hdb : (x == ("__debug__" : Str)) = false := by decide) (he : starEach (a :: es) X.env = (false, eval a X.env) :: starEach es X.env := by rfl) (hpl : (backTo pos (starEach es X.env)).any (·.1) = false := by rfl) :
    PEd X (Ga X.mg p.1 cls d) W (.Call (.Name x pos') (a :: es) [] pos) (dCallE sp g) := PE.weak ⟨fun pins s σ H Q J h => by
      refine wpAny_Call_Name_kw (ld_glob J hg hm ?_ hdb)
      refine PySem.W.callWith_K (h₀ := X.base) J.ok.mod.kin hk (thn (ha.run pos pins s σ H _ J h) fun us s1 ⟨vs, H1, I1, r, q⟩ => ⟨I1.kIn, ?_⟩) he hpl
      exact run_E (E := WE W) F hr ih.hx hb (hx σ) I1 r q⟩ w_callE
end
/-- a def called so, by its data reading -/
theorem fn_dtE {P : Program} {w : World} {K : PySem.W.Frag} {mg : Str → Option Value} {base : Heap} {x qual : Str} {st : Stmt} {f : Addr} {fd : FuncData} {N ps : List Str} {k : Nat} {sp : DSp} {b : DS} {p : Addr × Obj} {cls : Value} {dd : Option Addr} (F : Fun K x qual st f fd) (hS : FnScope N ps (defScope st)) (hl : ∀ os PP PX, sp os PP PX → os.length = ps.length)
    (hd : ∀ (cdv : Value) (A : Around) (outer : List Env) (s : Shared) (H : Hp) (E : XK), L2H.RoomH k (A.deeper (envOfC qual (defScope st) s.heap.objs.size f cdv)) →
      PSsd (L2H.cxH (L2.CX P w) P w K mg base N qual (defScope st) f cdv A outer s H E p) (Ga mg p.1 cls dd) (fun cls d _ H => E cls d H) (defBody st) b)
    (hb : ∀ os PP PX, sp os PP PX → b (endsOf os PP PX) (rho0 N.length os)) : FnE P w K mg base (L2.CX P w) (k + 1) f fd ps p (spOf ⟨K, mg, Ga mg p.1 cls dd⟩ sp) := by
  obtain ⟨oc, od, kV, doc, pm, an, cdv, ct, osl, rfl, lk, hcd⟩ := F.ex
  refine fn_E lk hcd hS (fun vs H Q E h => ?_) fun A outer s H vs Q E hr h => ⟨_, hd cdv A outer s H E hr, body_ok hb h⟩
  obtain ⟨F, I, os, PP, PX, R, hF, hsp, _⟩ := h
  have e := R.len
  rw [List.length_map, List.length_map] at e
  rw [← hl os PP PX hsp, e]
theorem inHand_cxH {P : Program} {w : World} {K : PySem.W.Frag} {mg : Str → Option Value} {base : Heap} {CX : CXT} {N : List Str} {qual : Str} {sc : Scope} {f : Addr} {cdv : Value} {A : Around} {outer : List Env} {s : Shared} {H : Hp} {E : XK} {p : Addr × Obj} {cls : Value} {d : Option Addr} (z : Zc cls d p.2) (hd : ∃ vs, p.2.data = .fields vs) :
    InHand (L2H.cxH CX P w K mg base N qual sc f cdv A outer s H E p) p cls d := ⟨⟨by show p ∈ [p]; simp, hd⟩, z⟩
theorem inHand_suite {X : Cx} {a : Addr} {oe : Obj} {pn : List (Addr × Obj)} {cls : Value} {d : Option Addr} (z : Zc cls d oe) (hd : ∃ vs, oe.data = .fields vs) : InHand (X.suite a ((a, oe) :: pn)) (a, oe) cls d := ⟨⟨by show (a, oe) ∈ (a, oe) :: pn; simp, hd⟩, z⟩
theorem roomH_suite {X : Cx} {k : Nat} {a : Addr} {pn : List (Addr × Obj)} (hr : Room k X.A) : L2H.RoomH k (X.suite a pn).A := ⟨hr.dp, hr.un⟩
end Dt

namespace Dt
open PySem PySem.Spec PyProof.Rows L2

/-! ### enumerate and zip over lists and tuples alike (b: it is a tuple) -/
def SqK (K : PySem.W.Frag) (H : Hp) (b : Bool) (a : Addr) (xs : List V) : Prop := match b with
  | false => SqL K H a xs
  | true => SqT K H a xs
def isSq (b : Bool) (h : Heap) (a : Addr) (its : Array Value) : Prop := match b with
  | false => h.IsList a its
  | true => h.IsTuple a its
def itSq (b : Bool) (h : Heap) (it a : Addr) (i : Nat) : Prop := match b with
  | false => h.IsListIter it a i
  | true => h.IsTupleIter it a i
def obSq (b : Bool) (a : Addr) : Obj := match b with
  | false => { cls := .type "list_iterator", data := .fields #[.ref a, .int 0 0] }
  | true => { cls := .type "tuple_iterator", data := .fields #[.ref a, .int 0 0] }
theorem sqDraws {prog : Program} {w : World} {A : Around} (hh : A.handled = none) (b : Bool) (it a : Addr) (hne : a ≠ it) (items : Array Value) :
    Draws prog w A it [it, a] items.size (fun i v => items[i]? = some v) (fun i h => itSq b h it a i ∧ isSq b h a items) := by
  cases b
  · exact Draws.list hh it a hne items
  · exact Draws.tuple hh it a hne items
theorem sqBegins (b : Bool) (a : Addr) (items : Array Value) : Begins (.ref a) (obSq b a) fun h => isSq b h a items := by
  cases b
  · exact begins_list a items
  · exact begins_tuple a items
theorem itSq_at {b : Bool} {h h' : Heap} {it a : Addr} {i : Nat} (x : itSq b h it a i) (k : ∀ o, h.get? it = some o → h'.get? it = some o) : itSq b h' it a i := by
  cases b <;> (obtain ⟨o, h1, h2, h3⟩ := x; exact ⟨o, k o h1, h2, h3⟩)
theorem itSq_new {b : Bool} {h : Heap} {it a : Addr} (e : h.get? it = some (obSq b a)) : itSq b h it a 0 := by
  cases b <;> exact ⟨_, e, rfl, rfl⟩
theorem itSq_obj {b : Bool} {h : Heap} {it a : Addr} {i : Nat} (x : itSq b h it a i) : ∃ o, h.get? it = some o ∧ ∀ v, o.data ≠ .cell v := by
  cases b <;> (obtain ⟨o, h1, h2, h3⟩ := x; exact ⟨o, h1, fun v z => by rw [h3] at z; cases z⟩)
theorem Inv.sq {X : Cx} {pins : List (Addr × Obj)} {σ : L2.St} {H : Hp} {s : Shared} {b : Bool} {a : Addr} {xs : List V} (J : L2.Inv X pins σ H s) (h : SqK X.K H b a xs) : ∃ its : List Value, Vals xs its ∧ isSq b s.heap a its.toArray ∧ xs.length ≤ sizeLine := by
  cases b
  · obtain ⟨its, r, p, z⟩ := J.list h; exact ⟨its, r, p.isList, z⟩
  · obtain ⟨its, r, p, z⟩ := J.tuple h; exact ⟨its, r, p, z⟩
theorem Inv.sq_inj {X : Cx} {pins : List (Addr × Obj)} {σ : L2.St} {H : Hp} {s : Shared} {b : Bool} {a : Addr} {xs ys : List V} (J : L2.Inv X pins σ H s) (h : SqK X.K H b a xs) (h' : SqK X.K H b a ys) : xs = ys := by
  cases b
  · exact J.list_inj h h'
  · exact J.tuple_inj h h'
theorem isSq_lt {b : Bool} {h : Heap} {a : Addr} {its : Array Value} (x : isSq b h a its) : a < h.objs.size := by
  cases b
  · obtain ⟨o, e, _⟩ := x; exact Heap.lt_size e
  · obtain ⟨o, e, _⟩ := x; exact Heap.lt_size e
/-- the sequence at a as it stands at each turn, each item in a new pair with its number from k on -/
def IteS (K : PySem.W.Frag) (b : Bool) (k : Int) (a : Addr) : It :=
  ⟨fun i H => ∃ (xs : List V) (x : V), SqK K H b a xs ∧ xs[i]? = some x, fun i H v H' => ∃ T x, v = .ref T ∧ H T = none ∧ H' = upd H T (.tup [.int (k + (i : Nat)), x]) ∧ ∀ xs, SqK K H b a xs → xs[i]? = some x, fun i H => ∃ xs : List V, SqK K H b a xs ∧ xs.length = i⟩
theorem new_pair {X : Cx} {H : Hp} {h : Heap} {T : Addr} {x y : V} {u v : Value} (rx : RelV x u) (ry : RelV y v) (hT : h.IsTuple T #[u, v]) : ObjOk X.prog X.w (upd H T (.tup [x, y])) h T (.tup [x, y]) := by
  obtain ⟨o, e, c, n, d⟩ := hT
  exact ⟨by show 2 ≤ sizeLine; decide, [u, v], .cons rx (.cons ry .nil), ⟨o, e, c, n, d⟩⟩
theorem keep_tup {h h' : Heap} {T : Addr} {vs : Array Value} {wr : List Addr} (x : h.IsTuple T vs) (n : T ∉ wr) (k : ∀ b o, b ∉ wr → h.get? b = some o → h'.get? b = some o) : h'.IsTuple T vs := by
  obtain ⟨o, e, r⟩ := x
  exact ⟨o, k T o n e, r⟩
theorem turn_enumS {P : Program} {w : World} {K : PySem.W.Frag} {elts : List Expr} {kk : Nat} {tpos : Pos} (b : Bool) (k : Int) (a e it : Addr) (hai : a ≠ it) (hae : a ≠ e) (hei : e ≠ it) :
    Turn P w K (.Tuple elts kk tpos) (IteS K b k a) [e, it] e (fun i h => (∃ old, IsEnum h e it (k + ((i : Nat) : Int)) old) ∧ itSq b h it a i) where
  mem := by simp
  obj := fun i h st c hc => by
    obtain ⟨⟨old, he⟩, hi⟩ := st
    have e' : c = e ∨ c = it := by simpa using hc
    rcases e' with rfl | rfl
    · exact ⟨_, he, fun v q => nomatch q⟩
    · exact itSq_obj hi
  keep := fun i h h' st kp => let ⟨⟨old, he⟩, hi⟩ := st; ⟨⟨old, kp e (by simp) _ he⟩, itSq_at hi fun o q => kp it (by simp) o q⟩
  item := by
    intro X hP hw hK hc i pins s σ H E J hf st hg
    subst hP hw hK
    obtain ⟨xs, x, hq, hx⟩ := hg
    obtain ⟨its, rv, p, hz⟩ := Inv.sq J hq
    obtain ⟨u, hu, ru⟩ := rv.get hx
    have hil : i < its.toArray.size := by
      have := (List.getElem?_eq_some_iff.mp hu).1
      simpa using this
    have W := WalksT.enumFrom k (sqDraws (prog := X.prog) (w := X.w) (A := X.A.in1) (J.ok.hd hc) b it a hai its.toArray) e hei (by simp; exact ⟨hei, Ne.symm hae⟩) (by simp)
    refine W.item i s _ _ hil ⟨st.1, st.2, p⟩ fun T vals h' tk hP hT0 hT hM kp => ⟨_, rfl, W.go elts kk tpos i T _ _ _ hM fun h'' st' kp' => ?_⟩
    obtain ⟨t, x', hx', rfl⟩ := hP
    have ex : x' = u := by
      have hx' : its.toArray[i]? = some x' := hx'
      rw [List.getElem?_toArray, hu] at hx'
      exact (Option.some.inj hx').symm
    subst ex
    have hT2 := keep_tup hT (W.apart i T h' hM) kp'
    have J1 : L2.Inv X pins σ (upd H T (.tup [.int (k + (i : Nat)), x])) { s with heap := h'', toks := tk } := J.turnedNew (ch := [e, it]) (fun c o hb q => kp' c o hb (kp c o hb q)) hf hT0 (new_pair ⟨_, rfl⟩ ru hT2)
    refine ⟨.ref T, _, J1, rfl, ⟨T, x, rfl, J.hok.fresh hT0, rfl, fun ys hy => by rw [Inv.sq_inj J hy hq]; exact hx⟩, ⟨st'.1, st'.2.1⟩, fun c hc' => ?_⟩
    have hne : c ≠ T := fun z => by
      obtain ⟨o, ho, _⟩ : ∃ o, s.heap.get? c = some o ∧ ∀ v, o.data ≠ .cell v := by
        have e' : c = e ∨ c = it := by simpa using hc'
        rcases e' with rfl | rfl
        · obtain ⟨old, he⟩ := st.1; exact ⟨_, he, fun v q => nomatch q⟩
        · exact itSq_obj st.2
      exact absurd (Heap.lt_size ho) (Nat.not_lt.mpr (by rw [z]; exact hT0))
    rw [upd_ne hne]
    exact (hf c hc').1
  done := by
    intro X hP hw hK hc i pins s σ H E J hf st hg
    subst hP hw hK
    obtain ⟨xs, hq, hx⟩ := hg
    obtain ⟨its, rv, p, hz⟩ := Inv.sq J hq
    have hil : i = its.toArray.size := by rw [List.size_toArray, ← rv.length, hx]
    have W := WalksT.enumFrom k (sqDraws (prog := X.prog) (w := X.w) (A := X.A.in1) (J.ok.hd hc) b it a hai its.toArray) e hei (by simp; exact ⟨hei, Ne.symm hae⟩) (by simp)
    subst hil
    exact W.done s _ _ ⟨st.1, st.2, p⟩ fun h' tk kp => ⟨rfl, J.turnedL kp hf⟩
  self := fun A i s Q E st h => let ⟨⟨_, he⟩, _⟩ := st; wpAny_pyIter_enum he h
/-- two sequences side by side -/
def ItzS (K : PySem.W.Frag) (b b' : Bool) (a a' : Addr) : It :=
  ⟨fun i H => ∃ (xs ys : List V) (x y : V), SqK K H b a xs ∧ SqK K H b' a' ys ∧ xs[i]? = some x ∧ ys[i]? = some y,
    fun i H v H' => ∃ T x y, v = .ref T ∧ H T = none ∧ H' = upd H T (.tup [x, y]) ∧ (∀ xs, SqK K H b a xs → xs[i]? = some x) ∧ ∀ ys, SqK K H b' a' ys → ys[i]? = some y,
    fun i H => ∃ xs ys : List V, SqK K H b a xs ∧ SqK K H b' a' ys ∧ i = min xs.length ys.length⟩
theorem turn_zipS {P : Program} {w : World} {K : PySem.W.Frag} {elts : List Expr} {kk : Nat} {tpos : Pos} (b b' : Bool) (a a' z TI TO i1 i2 : Addr) (S : ZipSep2 z TI TO i1 i2 [i1, a] [i2, a']) (h1 : a ≠ i1) (h2 : a' ≠ i2) :
    Turn P w K (.Tuple elts kk tpos) (ItzS K b b' a a') [z, TI, TO, i1, i2] z (fun i h => IsZip h z TI TO .none ∧ IsTupOf2 h TI (.ref i1) (.ref i2) ∧ (∃ a1 a2, IsTupOf2 h TO a1 a2) ∧ itSq b h i1 a i ∧ itSq b' h i2 a' i) where
  mem := by simp
  obj := fun i h st c hc => by
    obtain ⟨hz, hTI, ⟨a1, a2, hTO⟩, hi1, hi2⟩ := st
    have e' : c = z ∨ c = TI ∨ c = TO ∨ c = i1 ∨ c = i2 := by simpa using hc
    rcases e' with rfl | rfl | rfl | rfl | rfl
    · exact ⟨_, hz, fun v q => nomatch q⟩
    · exact ⟨_, hTI, fun v q => nomatch q⟩
    · exact ⟨_, hTO, fun v q => nomatch q⟩
    · exact itSq_obj hi1
    · exact itSq_obj hi2
  keep := fun i h h' st kp => let ⟨hz, hTI, ⟨a1, a2, hTO⟩, hi1, hi2⟩ := st
    ⟨kp z (by simp) _ hz, kp TI (by simp) _ hTI, ⟨a1, a2, kp TO (by simp) _ hTO⟩, itSq_at hi1 fun o q => kp i1 (by simp) o q, itSq_at hi2 fun o q => kp i2 (by simp) o q⟩
  item := by
    intro X hP hw hK hc i pins s σ H E J hf st hg
    subst hP hw hK
    obtain ⟨xs, ys, x, y, hq, hq', hx, hy⟩ := hg
    obtain ⟨its, rv, p, hz⟩ := Inv.sq J hq
    obtain ⟨its', rv', p', hz'⟩ := Inv.sq J hq'
    obtain ⟨u, hu, ru⟩ := rv.get hx
    obtain ⟨u', hu', ru'⟩ := rv'.get hy
    have hil : i < min its.toArray.size its'.toArray.size := by
      have e1 := (List.getElem?_eq_some_iff.mp hu).1
      have e2 := (List.getElem?_eq_some_iff.mp hu').1
      rw [List.size_toArray, List.size_toArray]
      omega
    have W := WalksT.zipD2 S (sqDraws (prog := X.prog) (w := X.w) (A := X.A.in1) (J.ok.hd hc) b i1 a h1 its.toArray) (sqDraws (prog := X.prog) (w := X.w) (A := X.A.in1) (J.ok.hd hc) b' i2 a' h2 its'.toArray)
    obtain ⟨g1, g2, g3, g4, g5⟩ := st
    refine W.item i s _ _ hil ⟨g1, g2, g3, ⟨g4, p⟩, g5, p'⟩ fun T vals h' tk hP hT0 hT hM kp => ⟨_, rfl, W.go elts kk tpos i T _ _ _ hM fun h'' st' kp' => ?_⟩
    obtain ⟨x1, x2, hx1, hx2, rfl⟩ := hP
    have ex : x1 = u := by
      have hx1 : its.toArray[i]? = some x1 := hx1
      rw [List.getElem?_toArray, hu] at hx1
      exact (Option.some.inj hx1).symm
    have ex' : x2 = u' := by
      have hx2 : its'.toArray[i]? = some x2 := hx2
      rw [List.getElem?_toArray, hu'] at hx2
      exact (Option.some.inj hx2).symm
    subst ex ex'
    have hT2 := keep_tup hT (W.apart i T h' hM) kp'
    have sub : ∀ c ∈ [z, TO, i1, i2], c ∈ [z, TI, TO, i1, i2] := fun c hc' => by
      have e' : c = z ∨ c = TO ∨ c = i1 ∨ c = i2 := by simpa using hc'
      rcases e' with rfl | rfl | rfl | rfl <;> simp
    have J1 : L2.Inv X pins σ (upd H T (.tup [x, y])) { s with heap := h'', toks := tk } := J.turnedNew (ch := [z, TO, i1, i2]) (fun c o hb q => kp' c o hb (kp c o hb q)) (fun c hc' => hf c (sub c hc')) hT0 (new_pair ru ru' hT2)
    obtain ⟨k1, k2, k3, k4, k5⟩ := st'
    refine ⟨.ref T, _, J1, rfl, ⟨T, x, y, rfl, J.hok.fresh hT0, rfl, fun zs hy' => by rw [Inv.sq_inj J hy' hq]; exact hx, fun zs hy' => by rw [Inv.sq_inj J hy' hq']; exact hy⟩, ⟨k1, k2, k3, k4.1, k5.1⟩, fun c hc' => ?_⟩
    have hne : c ≠ T := fun q => by
      obtain ⟨o, ho⟩ : ∃ o, s.heap.get? c = some o := by
        obtain ⟨a1, a2, g3⟩ := g3
        have e' : c = z ∨ c = TI ∨ c = TO ∨ c = i1 ∨ c = i2 := by simpa using hc'
        rcases e' with rfl | rfl | rfl | rfl | rfl
        · exact ⟨_, g1⟩
        · exact ⟨_, g2⟩
        · exact ⟨_, g3⟩
        · obtain ⟨o, e, _⟩ := itSq_obj g4; exact ⟨o, e⟩
        · obtain ⟨o, e, _⟩ := itSq_obj g5; exact ⟨o, e⟩
      exact absurd (Heap.lt_size ho) (Nat.not_lt.mpr (by rw [q]; exact hT0))
    rw [upd_ne hne]
    exact (hf c hc').1
  done := by
    intro X hP hw hK hc i pins s σ H E J hf st hg
    subst hP hw hK
    obtain ⟨xs, ys, hq, hq', hx⟩ := hg
    obtain ⟨its, rv, p, hz⟩ := Inv.sq J hq
    obtain ⟨its', rv', p', hz'⟩ := Inv.sq J hq'
    have hil : i = min its.toArray.size its'.toArray.size := by rw [List.size_toArray, List.size_toArray, ← rv.length, ← rv'.length, hx]
    have W := WalksT.zipD2 S (sqDraws (prog := X.prog) (w := X.w) (A := X.A.in1) (J.ok.hd hc) b i1 a h1 its.toArray) (sqDraws (prog := X.prog) (w := X.w) (A := X.A.in1) (J.ok.hd hc) b' i2 a' h2 its'.toArray)
    obtain ⟨g1, g2, g3, g4, g5⟩ := st
    subst hil
    refine W.done s _ _ ⟨g1, g2, g3, ⟨g4, p⟩, g5, p'⟩ fun h' tk kp => ⟨rfl, J.turnedL (ch := [z, TO, i1, i2]) kp fun c hc' => hf c ?_⟩
    have e' : c = z ∨ c = TO ∨ c = i1 ∨ c = i2 := by simpa using hc'
    rcases e' with rfl | rfl | rfl | rfl <;> simp
  self := fun A i s Q E st h => wpAny_pyIter_zip st.1 h

/-! ### how they begin -/
set_option maxHeartbeats 1000000 in
theorem enum_new1 {v : Value} {o : Obj} {G : Heap → Prop} (B : Begins v o G) :
    Meets (Builtin.«enumerate.__new__» ⟨[.type "enumerate", v], []⟩) (fun _ R s => G s.heap ∧
      R (.ok (.ret (.ref (s.heap.push o).objs.size))) { s with heap := (s.heap.push o).push { cls := .type "enumerate", data := .fields #[.none, .bool false, .ref s.heap.objs.size, rawInt 0, .none, .none] } }) :=
  .of_wp fun prog w A R s h => by
    obtain ⟨hp, g, d, tk, os⟩ := s
    obtain ⟨h1, h⟩ := h
    have hsub := sub_enumerate
    have q1 : ∀ {A' : Around} {E : Value → Shared → Prop} {Q : Value → Shared → Prop}, Q (.ref hp.objs.size) ⟨hp.push o, g, d, tk, os⟩ → wpAny (model prog w) A' (pyIter v) Q E ⟨hp, g, d, tk, os⟩ := fun q => B.iter prog w _ _ ⟨hp, g, d, tk, os⟩ _ h1 q
    wp_walk using q1
    refine wpAny_stack_any fun st => wpAny_pure ?_
    split
    · rename_i c _ _ _ _ _
      cases (c == Value.type "enumerate") <;> (wp_walk using q1; exact ⟨_, rfl, h⟩)
    · wp_walk using q1
      exact ⟨_, rfl, h⟩
theorem enum_begins1 {prog : Program} {w : World} {A : Around} {E : Value → Shared → Prop} {s : Shared} {v : Value} {o : Obj} {G : Heap → Prop} {Q : Value → Shared → Prop} (B : Begins v o G) (h1 : G s.heap)
    (h : ∀ h', IsEnum h' (s.heap.objs.size + 1) s.heap.objs.size 0 .none → h'.get? s.heap.objs.size = some o → (∀ b o, s.heap.get? b = some o → h'.get? b = some o) → Q (.ref (s.heap.objs.size + 1)) { s with heap := h' }) :
    wpAny (model prog w) A (call (.type "enumerate") [v]) Q E s := by
  refine callType_new F.called_enumerate (by decide) (F.typeCall_enumerate_1 _) (F.newCall_enumerate_1 _) (fun obj => F.args_object_init_2 obj _) F.entry_enumerate_new (enum_new1 B) ⟨h1, ?_⟩
  have z0 : (s.heap.push o).objs.size = s.heap.objs.size + 1 := Heap.size_push ..
  show _ ∧ _
  rw [z0]
  have he : IsEnum ((s.heap.push o).push { cls := .type "enumerate", data := .fields #[.none, .bool false, .ref s.heap.objs.size, rawInt 0, .none, .none] }) (s.heap.objs.size + 1) s.heap.objs.size 0 .none := by
    have q := Heap.get?_push_size (s.heap.push o) (o := { cls := .type "enumerate", data := .fields #[.none, .bool false, .ref s.heap.objs.size, rawInt 0, .none, .none] }) rfl
    rw [z0] at q; exact q
  exact ⟨⟨_, he, rfl⟩, h _ he (Heap.get?_push_of_some _ (Heap.get?_push_size _ B.free)) fun b o x => Heap.get?_push_of_some _ (Heap.get?_push_of_some _ x)⟩
def iEnS (K : PySem.W.Frag) (ta : TA) : TI := fun σ H R => ta σ H fun vs H1 => ∃ a xs b, vs = [.ref a] ∧ SqK K H1 b a xs ∧ R (IteS K b 0 a) H1
def iZpS (K : PySem.W.Frag) (ta : TA) : TI := fun σ H R => ta σ H fun vs H1 => ∃ a a' xs ys b b', vs = [.ref a, .ref a'] ∧ SqK K H1 b a xs ∧ SqK K H1 b' a' ys ∧ R (ItzS K b b' a a') H1
section
variable {X : Cx} {e e2 : Expr} {ta : TA} {p pos tpos : Pos} {elts : List Expr} {kk : Nat}
theorem pi_enS (hg : Gl X "enumerate") (hm : X.mg "enumerate" = none) (ha : PA X [e] ta) (hs : starEach [e] X.env = [(false, eval e X.env)] := by rfl) :
    PI X (.Tuple elts kk tpos) (.Call (.Name "enumerate" p) [e] [] pos) (iEnS X.K ta) := by
  refine ⟨fun pins s σ H R J h => Call_ (ld_blt J hg hm boot_enumerate (PyProof.Rows.callWith_type1 (thn (ha.run pos pins s σ H _ J h) fun us s1 ⟨vs, H1, I1, r1, q1⟩ => ?_) hs rfl))⟩
  obtain ⟨a, xs, b, rfl, hq, q⟩ := q1
  cases r1 with
  | cons r rr =>
    cases rr
    cases r
    obtain ⟨its, rv, p', hz⟩ := Inv.sq I1 hq
    have la := isSq_lt p'
    refine enum_begins1 (sqBegins b a its.toArray) p' fun h' he hit hk => wpAny_pyIter_enum he ?_
    have I2 : L2.Inv X pins σ H1 { s1 with heap := h' } := I1.kept (t' := s1.toks) hk
    refine ⟨s1.heap.objs.size + 1, [s1.heap.objs.size + 1, s1.heap.objs.size], _, _, H1, rfl, I2, turn_enumS b 0 a (s1.heap.objs.size + 1) s1.heap.objs.size (Nat.ne_of_lt la) (Nat.ne_of_lt (Nat.lt_succ_of_lt la)) (Nat.succ_ne_self _), ⟨⟨.none, he⟩, itSq_new hit⟩, fun c hc => ?_, q⟩
    have hle : s1.heap.objs.size ≤ c := by
      rcases (by simpa using hc : c = s1.heap.objs.size + 1 ∨ c = s1.heap.objs.size) with z | z
      · rw [z]; exact Nat.le_add_right _ _
      · rw [z]; exact Nat.le_refl _
    exact I1.fpOk hle (I1.hok.fresh hle)
theorem pi_zpS (hg : Gl X "zip") (hm : X.mg "zip" = none) (ha : PA X [e, e2] ta)
    (hs : starEach [e, e2] X.env = (false, eval e X.env) :: starEach [e2] X.env := by rfl) (hpl : (backTo pos (starEach [e2] X.env)).any (·.1) = false := by rfl) :
    PI X (.Tuple elts kk tpos) (.Call (.Name "zip" p) [e, e2] [] pos) (iZpS X.K ta) := by
  refine ⟨fun pins s σ H R J h => Call_ (ld_blt J hg hm PyProof.Rows.boot_zip (PyProof.Rows.callWith_type1 (thn (ha.run pos pins s σ H _ J h) fun us s1 ⟨vs, H1, I1, r1, q1⟩ => ?_) hs hpl))⟩
  obtain ⟨a, a', xs, ys, b, b', rfl, hq, hq', q⟩ := q1
  cases r1 with
  | cons r rr =>
    cases rr with
    | cons r' rr =>
      cases rr
      cases r
      cases r'
      obtain ⟨its, rv, p1, _⟩ := Inv.sq I1 hq
      obtain ⟨its2, rv2, p2, _⟩ := Inv.sq I1 hq'
      have la := isSq_lt p1
      have lb := isSq_lt p2
      refine zip_begins2 (sqBegins b a its.toArray) (sqBegins b' a' its2.toArray) p1 p2 fun h' hz hTI hTO h1 h2 hsz hk => wpAny_pyIter_zip hz ?_
      have I2 : L2.Inv X pins σ H1 { s1 with heap := h' } := I1.kept (t' := s1.toks) hk
      refine ⟨s1.heap.objs.size + 4, [s1.heap.objs.size + 4, s1.heap.objs.size + 2, s1.heap.objs.size + 3, s1.heap.objs.size, s1.heap.objs.size + 1], _, _, H1, rfl, I2,
        turn_zipS b b' a a' _ _ _ _ _ (zip_sep2 (fp1 := [a]) (fp2 := [a']) (fun c hc => by simp at hc; rw [hc]; exact la) (fun c hc => by simp at hc; rw [hc]; exact lb)) (Nat.ne_of_lt la) (Nat.ne_of_lt (Nat.lt_succ_of_lt lb)), ⟨hz, hTI, ⟨_, _, hTO⟩, itSq_new h1, itSq_new h2⟩, fun c hc => ?_, q⟩
      have hle : s1.heap.objs.size ≤ c := by
        rcases (by simpa using hc : c = s1.heap.objs.size + 4 ∨ c = s1.heap.objs.size + 2 ∨ c = s1.heap.objs.size + 3 ∨ c = s1.heap.objs.size ∨ c = s1.heap.objs.size + 1) with z | z | z | z | z
        · rw [z]; exact Nat.le_add_right _ _
        · rw [z]; exact Nat.le_add_right _ _
        · rw [z]; exact Nat.le_add_right _ _
        · rw [z]; exact Nat.le_refl _
        · rw [z]; exact Nat.le_add_right _ _
      exact I1.fpOk hle (I1.hok.fresh hle)
end

/-! ### by data -/
/-- arguments that are lists or tuples: data, or new lists -/
def sqO : O → Option (List D)
  | .d (.list ds) => some ds
  | .d (.tuple ds) => some ds
  | .tmp (.lst ds) => some ds
  | _ => none
def pairD (k : Int) : Nat → List D → List D
  | _, [] => []
  | i, d :: ds => .tuple [.int (k + (i : Nat)), d] :: pairD k (i + 1) ds
theorem pairD_len (k : Int) : ∀ (i : Nat) (ds : List D), (pairD k i ds).length = ds.length
  | _, [] => rfl
  | i, d :: ds => by simp [pairD, pairD_len k (i + 1) ds]
theorem pairD_get (k : Int) : ∀ (i : Nat) (ds : List D) (j : Nat) (d : D), ds[j]? = some d → (pairD k i ds)[j]? = some (.tuple [.int (k + ((i + j : Nat) : Int)), d])
  | i, d :: ds, 0, e, h => by simp at h; subst h; rfl
  | i, d :: ds, j + 1, e, h => by
    have := pairD_get k (i + 1) ds j e (by simpa using h)
    simp only [pairD, List.getElem?_cons_succ, this]
    have e1 : i + 1 + j = i + (j + 1) := by omega
    rw [e1]
  | i, [], j, e, h => by simp at h
def zipD : List D → List D → List D
  | x :: xs, y :: ys => .tuple [x, y] :: zipD xs ys
  | _, _ => []
theorem zipD_len : ∀ (xs ys : List D), (zipD xs ys).length = min xs.length ys.length
  | [], ys => by simp [zipD]
  | _ :: _, [] => by simp [zipD]
  | x :: xs, y :: ys => by simp [zipD, zipD_len xs ys]
theorem zipD_get : ∀ (xs ys : List D) (j : Nat) (x y : D), xs[j]? = some x → ys[j]? = some y → (zipD xs ys)[j]? = some (.tuple [x, y])
  | x :: xs, y :: ys, 0, _, _, h, h' => by simp at h h'; subst h h'; rfl
  | x :: xs, y :: ys, j + 1, _, _, h, h' => by simpa [zipD] using zipD_get xs ys j _ _ (by simpa using h) (by simpa using h')
  | [], _, j, _, _, h, _ => by simp at h
  | _ :: _, [], j, _, _, _, h => by simp at h
def dItE (g : DA) : DI := fun ρ P PX => g ρ (fun os ρ1 => match os with
  | [o] => getK (sqO o) fun ds => P (pairD 0 0 ds) ρ1
  | _ => False) PX
def dItZ (g : DA) : DI := fun ρ P PX => g ρ (fun os ρ1 => match os with
  | [o, o'] => getK (sqO o) fun xs => getK (sqO o') fun ys => P (zipD xs ys) ρ1
  | _ => False) PX
section
variable {p : Pm} {F F' : Lab} {I I' H0 H H' : Hp} {σ : L2.St} {ρ : Rho} {v : V} {o : O} {ds : List D}
/-- such an argument stands while nobody touches it -/
theorem sq_src (R : Rel p F I H σ ρ) (r : ResOk p F I H0 H σ v o) (h : sqO o = some ds) : ∃ (b : Bool) (a : Addr) (vs : List V), v = .ref a ∧ SqK p.K H b a vs ∧ DdAll p I vs ds ∧ ((∃ x, H a = some (.lst vs) ∨ H a = some (.frz x (.tup vs)))) ∧ ∀ F' I' H', Step F I H F' I' H' → Same I' H' → SqK p.K H' b a vs := by
  unfold sqO at h
  split at h
  · cases h
    cases r with
    | lst e q =>
      rename_i a vs
      exact ⟨false, a, vs, rfl, SqL.of (R.sub _ _ e), q, ⟨default, .inl (R.sub _ _ e)⟩, fun F' I' H' s s2 => SqL.of (s2 _ _ (s.inc _ _ e))⟩
  · cases h
    cases r with
    | tup e z q =>
      rename_i a ob vs
      exact ⟨true, a, vs, rfl, sqF (R.sub _ _ e), q, ⟨ob, .inr (R.sub _ _ e)⟩, fun F' I' H' s s2 => sqF (s2 _ _ (s.inc _ _ e))⟩
  · cases h
    obtain ⟨a, rfl, fp, ⟨rfl, vs, e, q⟩, hf⟩ := r
    exact ⟨false, a, vs, rfl, SqL.of e, q, ⟨default, .inl e⟩, fun F' I' H' s s2 => SqL.of (s.keep _ _ e (hf a (by simp)).1)⟩
  · cases h
theorem big_src {a : Addr} {vs : List V} (big : Big H) (h : ∃ x, H a = some (.lst vs) ∨ H a = some (.frz x (.tup vs))) : vs.length ≤ sizeLine := by
  obtain ⟨x, h | h⟩ := h
  · exact big a vs (.inl h)
  · exact big a vs (.inr ⟨x, h⟩)
theorem item_pair {I H : Hp} {T : Addr} {x y : V} {d e : D} (h1 : Dd p I x d) (h2 : Dd p I y e) : ItemT p I (upd H T (.tup [x, y])) (.ref T) (.tuple [d, e]) := ⟨T, [x, y], [d, e], rfl, rfl, .inl (.inl upd_same), .cons h1 (.cons h2 .nil)⟩
theorem itw_enum {b : Bool} {a : Addr} {vs : List V} (h : ∀ F' I' H', Step F I H F' I' H' → Same I' H' → SqK p.K H' b a vs) (r : DdAll p I vs ds) (z : vs.length ≤ sizeLine) : ItW p false (IteS p.K b 0 a) F I H (pairD 0 0 ds) where
  ex := by
    refine ⟨fun H => SqK p.K H b a vs, YPair (fun i => some (.int (0 + ((i : Nat) : Int)))) (fun i => vs[i]?), ?_, h, fun i H1 x H2 hi hy F1 I1 s1 s2 hl => ?_⟩
    · rw [pairD_len, ← r.length]
      exact ⟨fun i H hi hg => ⟨vs, _, hg, List.getElem?_eq_getElem hi⟩, fun H hg => ⟨vs, hg, rfl⟩, fun i H x H' hi hg ⟨T, y, e1, e2, e3, e4⟩ => ⟨T, _, y, e1, e2, e3, rfl, e4 vs hg⟩⟩
    · obtain ⟨T, x1, y, rfl, hT, rfl, e1, e2⟩ := hy
      cases e1
      obtain ⟨d, h1, h2⟩ := r.getV e2
      refine ⟨I1, _, pairD_get 0 0 ds i d h1, same_upd hT, fun _ _ e => e, fun c y e => same_upd hT _ _ (s2 _ _ e), fun _ e => .inl e, ?_⟩
      have e0 : (0 : Int) + ((0 + i : Nat) : Int) = 0 + ((i : Nat) : Int) := by simp
      rw [e0]
      exact item_pair (.int _) (Dd.mono s1.inc h2)
  big := by rw [pairD_len, ← r.length]; exact z
theorem itw_zip {b b' : Bool} {a a' : Addr} {vs ws : List V} {es : List D} (h : ∀ F' I' H', Step F I H F' I' H' → Same I' H' → SqK p.K H' b a vs) (h' : ∀ F' I' H', Step F I H F' I' H' → Same I' H' → SqK p.K H' b' a' ws) (r : DdAll p I vs ds) (r' : DdAll p I ws es) (z : vs.length ≤ sizeLine) : ItW p false (ItzS p.K b b' a a') F I H (zipD ds es) where
  ex := by
    refine ⟨fun H => SqK p.K H b a vs ∧ SqK p.K H b' a' ws, YPair (fun i => vs[i]?) (fun i => ws[i]?), ?_, fun F' I' H' s s2 => ⟨h _ _ _ s s2, h' _ _ _ s s2⟩, fun i H1 x H2 hi hy F1 I1 s1 s2 hl => ?_⟩
    · rw [zipD_len, ← r.length, ← r'.length]
      exact ⟨fun i H hi hg => ⟨vs, ws, _, _, hg.1, hg.2, List.getElem?_eq_getElem (by omega), List.getElem?_eq_getElem (by omega)⟩, fun H hg => ⟨vs, ws, hg.1, hg.2, rfl⟩, fun i H x H' hi hg ⟨T, x1, y, e1, e2, e3, e4, e5⟩ => ⟨T, x1, y, e1, e2, e3, e4 vs hg.1, e5 ws hg.2⟩⟩
    · obtain ⟨T, x1, y, rfl, hT, rfl, e1, e2⟩ := hy
      obtain ⟨d, h1, h2⟩ := r.getV e1
      obtain ⟨e, h3, h4⟩ := r'.getV e2
      exact ⟨I1, _, zipD_get ds es i d e h1 h3, same_upd hT, fun _ _ e => e, fun c y e => same_upd hT _ _ (s2 _ _ e), fun _ e => .inl e, item_pair (Dd.mono s1.inc h2) (Dd.mono s1.inc h4)⟩
  big := by rw [zipD_len, ← r.length]; omega
end
section
variable {X : Cx} {G : V → Nat → Option Addr → Prop} {W : WX} {e e2 : Expr} {g : DA} {p pos tpos : Pos} {elts : List Expr} {kk : Nat}
theorem i_enum (hg : Gl X "enumerate") (hm : X.mg "enumerate" = none) (ha : PAd X G W [e] g) (hs : starEach [e] X.env = [(false, eval e X.env)] := by rfl) : PId X G W false (.Tuple elts kk tpos) (.Call (.Name "enumerate" p) [e] [] pos) (dItE g) := PI.weak (pi_enS hg hm ha hs) fun σ H R q => by
  obtain ⟨F, I, ρ, P, PX, RR, f1, k, x⟩ := q
  refine ⟨F, I, ρ, _, PX, RR, f1, fun os ρ1 vs F1 I1 H1 f2 s1 R1 r1 => ?_, x⟩
  split at f2
  · obtain ⟨ds, e, f2⟩ := getK_of f2
    cases r1 with
    | cons r rr =>
      cases rr
      obtain ⟨b, a, ws, rfl, hq, hd, hb, hst⟩ := sq_src R1 r e
      exact ⟨a, ws, b, rfl, hq, fun big => k _ ρ1 F1 I1 H1 _ f2 s1 R1 (itw_enum hst hd (big_src big hb))⟩
  · exact f2.elim
theorem i_zip (hg : Gl X "zip") (hm : X.mg "zip" = none) (ha : PAd X G W [e, e2] g)
    (hs : starEach [e, e2] X.env = (false, eval e X.env) :: starEach [e2] X.env := by rfl) (hpl : (backTo pos (starEach [e2] X.env)).any (·.1) = false := by rfl) : PId X G W false (.Tuple elts kk tpos) (.Call (.Name "zip" p) [e, e2] [] pos) (dItZ g) := PI.weak (pi_zpS hg hm ha hs hpl) fun σ H R q => by
  obtain ⟨F, I, ρ, P, PX, RR, f1, k, x⟩ := q
  refine ⟨F, I, ρ, _, PX, RR, f1, fun os ρ1 vs F1 I1 H1 f2 s1 R1 r1 => ?_, x⟩
  split at f2
  · obtain ⟨ds, e, f2⟩ := getK_of f2
    obtain ⟨es, e', f2⟩ := getK_of f2
    cases r1 with
    | cons r rr =>
      cases rr with
      | cons r' rr =>
        cases rr
        obtain ⟨b, a, ws, rfl, hq, hd, hb, hst⟩ := sq_src R1 r e
        obtain ⟨b', a', ws', rfl, hq', hd', hb', hst'⟩ := sq_src R1 r' e'
        exact ⟨a, a', ws, ws', b, b', rfl, hq, hq', fun big => k _ ρ1 F1 I1 H1 _ f2 s1 R1 (itw_zip hst hst' hd hd' (big_src big hb))⟩
  · exact f2.elim
end
end Dt

namespace Dt
open PySem PySem.Spec PyProof.Rows L2

/-! ### a, b = x, y -/
def tParN (is : List Nat) (ta : TA) : TS := fun D σ H => ta σ H fun vs H1 => ∃ ws : List V, vs = ws ∧ ws.length = is.length ∧ D.nx ((is.zip ws).foldl (fun s p => s.set p.1 (some p.2)) σ) H1
section
variable {X : Cx} {i j l : Nat} {x y z : Str} {a b c : Expr} {ta : TA} {px py pz pt pos : Pos} {kt k2 pt2}
theorem ps_par2 (hc : X.calm = true) (hN : X.N.Nodup) (hi : X.N[i]? = some x) (hj : X.N[j]? = some y) (hij : i ≠ j)
    (hx : X.env.scope.names.lookup x = some .local) (hy : X.env.scope.names.lookup y = some .local) (ha : PA X [a, b] ta)
    (hw : swappedStores [.Tuple [.Name x px, .Name y py] kt pt] (.Tuple [a, b] k2 pt2) X.env = pure (some [x, y]))
    (hs : swapsWithSole [.Tuple [.Name x px, .Name y py] kt pt] (.Tuple [a, b] k2 pt2) pos.line X.env = pure false := by rfl) :
    PS X (.Assign [.Tuple [.Name x px, .Name y py] kt pt] (.Tuple [a, b] k2 pt2) pos) (tParN [i, j] ta) := by
  refine ⟨fun pins s σ H D J h => ?_⟩
  rw [exec_Assign_arm]
  refine wpAny_bind (wpAny_standAt ?_)
  rw [hs]
  refine wpAny_bind (wpAny_pure ?_)
  rw [if_neg (by decide)]
  refine wpAny_bind (Tuple_ (thn (ha.run _ pins s σ H _ J h) fun us s1 ⟨vs, H1, J1, r1, q1⟩ => ?_))
  obtain ⟨ws, rfl, hl, q1⟩ := q1
  obtain ⟨v1, v2, rfl⟩ : ∃ v1 v2, vs = [v1, v2] := by
    match vs, hl with
    | [v1, v2], _ => exact ⟨_, _, rfl⟩
  obtain ⟨u1, u2, rfl, r1', r2'⟩ : ∃ u1 u2, us = [u1, u2] ∧ RelV v1 u1 ∧ RelV v2 u2 := by
    cases r1 with
    | cons p q => cases q with
      | cons p' q' => cases q'; exact ⟨_, _, rfl, p, p'⟩
  refine wpAny_newObj_type ?_ (by show 2 ≤ sizeLine; decide)
  have J2 : L2.Inv X pins σ H1 { s1 with heap := s1.heap.push { cls := .type "tuple", data := .seq [u1, u2].toArray } } := J1.kept (t' := s1.toks) fun b o e => Heap.get?_push_of_some _ e
  rw [hw]
  refine wpAny_bind (wpAny_pure ?_)
  show wpAny (model X.prog X.w) X.A (do rule "assign.swapped-stores"; let items ← unpackItems (.ref s1.heap.objs.size) 2 none; assignInOrder [fun v => bindName X.env y v, fun v => bindName X.env x v] items.reverse; pure Flow.next) _ _ _
  refine wpAny_bind (wpAny_rule (wpAny_bind (unpackItems_tuple (items := #[u1, u2]) (J.ok.hd hc) (IsTup.new s1.heap _) fun h' hx' => ?_)))
  have J3 := J2.kept (h' := h') (t' := s1.toks) fun b o e => hx' b o (Nat.ne_of_lt (Heap.lt_size e)) e
  show wpAny _ _ (assignInOrder [fun v => bindName X.env y v, fun v => bindName X.env x v] [u2, u1] >>= fun _ => pure Flow.next) _ _ _
  refine wpAny_bind (assignInOrder_cons (wpAny_bindName (store_ok J3 hN hj (.inl hy) r2' (fun s2 J4 => ?_) (.inr hy))))
  refine assignInOrder_cons (wpAny_bindName (store_ok J4 hN hi (.inl hx) r1' (fun s3 J5 => assignInOrder_nil (wpAny_pure ?_)) (.inr hx)))
  rw [List.set_comm _ _ (Ne.symm hij)] at J5
  exact ⟨_, H1, J5, q1⟩
end
/-- data to slots -/
def setsD (ρ : Rho) : List Nat → List D → Rho
  | i :: is, d :: ds => setsD (ρ.set i (some (.d d))) is ds
  | _, _ => ρ
def dPar (is : List Nat) (g : DA) : DS := fun E ρ => g ρ (fun os ρ1 => onlyK os fun ds => ds.length = is.length ∧ E.nx (setsD ρ1 is ds)) E.ex
section
variable {X : Cx} {G : V → Nat → Option Addr → Prop} {W : WX} {i j l : Nat} {x y z : Str} {a b c : Expr} {g : DA} {px py pz pt pos : Pos} {kt k2 pt2}
theorem Rel.sets {p : Pm} {F : Lab} {I H : Hp} : ∀ {is : List Nat} {vs : List V} {ds : List D} {σ : L2.St} {ρ : Rho}, Rel p F I H σ ρ → DdAll p I vs ds → vs.length = is.length → Rel p F I H ((is.zip vs).foldl (fun s q => s.set q.1 (some q.2)) σ) (setsD ρ is ds)
  | [], _, _, _, _, R, _, _ => by simpa [setsD] using R
  | i :: is, [], _, _, _, R, _, h => by simp at h
  | i :: is, v :: vs, _, _, _, R, .cons r rs, h => by
    simp only [List.zip_cons_cons, List.foldl_cons, setsD]
    exact Rel.sets (R.setD (s := .d _) r) rs (by simpa using h)
theorem w_par {p : Pm} {is : List Nat} (D : Ends) (σ : L2.St) (H : Hp) (q : tS p W (dPar is g) D σ H) : tParN is (tA p W g) D σ H := by
  obtain ⟨F, I, ρ, E, R, f1, k⟩ := q
  refine ⟨F, I, ρ, _, E.ex, R, f1, fun os ρ1 vs F1 I1 H1 f2 s1 R1 r1 => ?_, k.xend⟩
  obtain ⟨ds, e, hl, f2⟩ := onlyK_of f2
  have r := onlyD_ok r1 e
  have hv : vs.length = is.length := by rw [r.length]; exact hl
  exact ⟨vs, rfl, hv, k.nx _ _ F1 I1 H1 f2 s1 (R1.sets r hv)⟩
theorem z_par2 (hc : X.calm = true) (hN : X.N.Nodup) (hi : X.N[i]? = some x) (hj : X.N[j]? = some y) (hij : i ≠ j)
    (hx : X.env.scope.names.lookup x = some .local) (hy : X.env.scope.names.lookup y = some .local) (ha : PAd X G W [a, b] g)
    (hw : swappedStores [.Tuple [.Name x px, .Name y py] kt pt] (.Tuple [a, b] k2 pt2) X.env = pure (some [x, y]))
    (hs : swapsWithSole [.Tuple [.Name x px, .Name y py] kt pt] (.Tuple [a, b] k2 pt2) pos.line X.env = pure false := by rfl) :
    PSd X G W (.Assign [.Tuple [.Name x px, .Name y py] kt pt] (.Tuple [a, b] k2 pt2) pos) (dPar [i, j] g) := PS.weak (ps_par2 hc hN hi hj hij hx hy ha hw hs) w_par
/-- a, b = e -/
def dAsgT (f : DE) (g : DG) : DS := fun E ρ => f ρ (fun o ρ1 => onlyd1 o fun d => g d ρ1 E.nx) E.ex
theorem z_asgT {tg e : Expr} {f : DE} {gg : DG} {vs : List Nat} (he : PEd X G W e f) (hg : PGd X G true vs tg gg) (hs : swapsWithSole [tg] e pos.line X.env = pure false := by rfl) (hw : swappedStores [tg] e X.env = pure none := by rfl)
    (h1 : (assignEach [tg] X.env).map (·.2) = [assign tg X.env] := by rfl) : PSd X G W (.Assign [tg] e pos) (dAsgT f gg) := PS.weak (ps_asg he hg hs hw h1) fun D σ H q => by
  obtain ⟨F, I, ρ, E, R, f1, k⟩ := q
  refine ⟨F, I, ρ, _, E.ex, R, f1, fun o ρ1 v F1 I1 H1 f2 s1 R1 r1 => ?_, k.xend⟩
  obtain ⟨d, rfl, f2⟩ := onlyd1_of f2
  exact ⟨F1, I1, ρ1, d, E.nx, R1, r1, f2, fun ρ' σ' h R' _ => k.nx ρ' σ' F1 I1 H1 h s1 R'⟩
/-! ### list(range(n)) -/
def dLRg (f : DE) : DE := fun ρ P PX => f ρ (fun o ρ1 => intK o fun n => (-(2 ^ 62) ≤ n ∧ n ≤ 16000000) ∧ P (.tmp (.lst ((List.range n.toNat).map fun i => PyData.int (i : Nat)))) ρ1) PX
theorem e_lrg {fa : DE} {q0 pos' : Pos} (hc : X.calm = true) (hg : Gl X "list") (hm : X.mg "list" = none) (hg2 : Gl X "range") (hm2 : X.mg "range" = none) (ha : PEd X G W a fa) (na : starEach [a] X.env = (false, eval a X.env) :: starEach [] X.env := by rfl)
    (nb : starEach [.Call (.Name "range" q0) [a] [] pos'] X.env = (false, eval (.Call (.Name "range" q0) [a] [] pos') X.env) :: starEach [] X.env := by rfl) :
    PEd X G W (.Call (.Name "list" px) [.Call (.Name "range" q0) [a] [] pos'] [] pos) (dLRg fa) := PE.weak (pe_listRg hc hg hm (prg_1 hg2 hm2 ha na) nb) fun σ H Q q => by
  obtain ⟨F, I, ρ, P, PX, R, f1, k, x⟩ := q
  refine ⟨F, I, ρ, _, PX, R, f1, fun o ρ1 v F1 I1 H1 f2 s1 R1 r1 => ?_, x⟩
  obtain ⟨n, rfl, hn, f3⟩ := intK_of f2
  cases r1
  refine ⟨n, rfl, ⟨by omega, by omega, by omega, by omega, by omega⟩, fun q0 hq => ?_⟩
  have e : rgV 0 n = ((List.range n.toNat).map fun i => ((i : Nat) : Int)).map V.int := by
    unfold rgV
    rw [List.map_map]
    simp
  have e2 : ((List.range n.toNat).map fun i => PyData.int (i : Nat)) = ((List.range n.toNat).map fun i => ((i : Nat) : Int)).map PyData.int := by rw [List.map_map]; rfl
  rw [e]
  rw [e2] at f3
  exact Kont.lst (P := fun o => P o ρ1) (fun o v' I' H' h s' R' r' => k o ρ1 v' F1 I' H' h (s1.trans s') R' (r'.older fun b e => s1.old e)) R1 f3 (DdAll.ints _) hq
/-! ### isinstance(x, (T, U)) -/
theorem isT_any {K : PySem.W.Frag} {T U : String} {d : D} (hT : okT T) (hU : okT U) (n : noInst d) : PySem.W.kitAny K (.type (tyName d)) [.type T, .type U] = some (isT T d || isT U d) := by
  have h1 := isT_of (p := ⟨K, fun _ => none, noG⟩) hT n
  have h2 := isT_of (p := ⟨K, fun _ => none, noG⟩) hU n
  unfold PySem.W.kitAny
  rw [h1]
  cases isT T d with
  | true => rfl
  | false =>
    show PySem.W.kitAny K _ [.type U] = _
    unfold PySem.W.kitAny
    rw [h2]
    cases isT U d <;> rfl
theorem e_isi2 {T U : String} {x y : Str} {fa : DE} {tp up pos' : Pos} {k0 : Nat} (hT : okT T) (hU : okT U) (hg : Gl X "isinstance") (hm : X.mg "isinstance" = none) (hg2 : Gl X x) (hm2 : X.mg x = none) (hv2 : bootBuiltins x = some (.type T)) (hg3 : Gl X y) (hm3 : X.mg y = none) (hv3 : bootBuiltins y = some (.type U)) (ha : PEd X G W a fa)
    (hn2 : x ≠ "__name__" := by decide) (hd2 : (x == ("__debug__" : Str)) = false := by decide) (hn3 : y ≠ "__name__" := by decide) (hd3 : (y == ("__debug__" : Str)) = false := by decide)
    (h0 : starEach [.Name y up] X.env = (false, eval (.Name y up) X.env) :: starEach [] X.env := by rfl) (h1 : starEach [.Name x tp, .Name y up] X.env = (false, eval (.Name x tp) X.env) :: starEach [.Name y up] X.env := by rfl)
    (h3 : starEach [.Tuple [.Name x tp, .Name y up] k0 pt] X.env = (false, eval (.Tuple [.Name x tp, .Name y up] k0 pt) X.env) :: starEach [] X.env := by rfl)
    (h2 : starEach [a, .Tuple [.Name x tp, .Name y up] k0 pt] X.env = (false, eval a X.env) :: starEach [.Tuple [.Name x tp, .Name y up] k0 pt] X.env := by rfl)
    (hpl : (backTo pos (starEach [.Tuple [.Name x tp, .Name y up] k0 pt] X.env)).any (·.1) = false := by rfl) : PEd X G W (.Call (.Name "isinstance" pos') [a, .Tuple [.Name x tp, .Name y up] k0 pt] [] pos) (dUn (isi2D T U) fa) := by
  refine PE.weak (pe_callB call_isiT hg hm (by decide +kernel) (pa_cons ha (pa_cons (pe_tup (pa_cons (pe_bltn (v := .ty T) hg2 hm2 hv2 rfl hn2 hd2) (pa_cons (pe_bltn (v := .ty U) hg3 hm3 hv3 rfl hn3 hd3) pa_nil h0) h1)) pa_nil h3) h2) (by decide) (by decide) h2 hpl) fun σ H Q q => ?_
  obtain ⟨F, I, ρ, P, PX, R, f1, k, x0⟩ := q
  refine ⟨F, I, ρ, _, PX, R, f1, fun o ρ1 v F1 I1 H1 f2 s1 R1 r1 => ?_, x0⟩
  obtain ⟨d, e, nd, f3⟩ := vw1_of f2
  have hd := vw_ok R1 r1 e
  refine ⟨by show 2 ≤ sizeLine; decide, fun tq hq => ?_⟩
  obtain ⟨R2, s2⟩ := R1.newT (x := .tup [V.ty T, V.ty U]) hq
  have hd2 := vw_ok R2 (r1.stay s2) e
  refine ⟨v, tq, [.ty T, .ty U], _, [.type T, .type U], _, rfl, upd_same, .cons (.ty T) (.cons (.ty U) .nil), tyX_of R2.sub hd2 nd, isT_any hT hU nd, ?_⟩
  exact k _ _ _ _ _ _ f3 (s1.trans s2) R2 (Dd.bl _)
end
/-! ### remove, index -/
def remF : MF := fun ds es k => match es with
  | [.int n] => intsK ds fun ns => n ∈ ns ∧ k ((ns.erase n).map PyData.int) .none
  | _ => False
theorem erase_first : ∀ {ns : List Int} {k : Int}, k ∈ ns → ∃ j, ns[j]? = some k ∧ (∀ m : Nat, m < j → ns[m]? ≠ some k) ∧ ns.eraseIdx j = ns.erase k
  | n :: ns, k, h => by
    by_cases e : n = k
    · subst e
      exact ⟨0, rfl, fun m hm => absurd hm (Nat.not_lt_zero m), by simp⟩
    · obtain ⟨j, h1, h2, h3⟩ := erase_first (ns := ns) (k := k) (by
        rcases List.mem_cons.mp h with h | h
        · exact absurd h.symm e
        · exact h)
      refine ⟨j + 1, by simpa using h1, fun m hm => ?_, ?_⟩
      · cases m with
        | zero => simpa using e
        | succ m => simpa using h2 m (by omega)
      · rw [List.eraseIdx_cons_succ, h3, List.erase_cons_tail (by simpa using e)]
theorem s_rem {p : Pm} : MuS p rRemI remF := by
  intro I H a vs ds xs es k Q s h r rx hf q
  unfold remF at hf
  split at hf
  · obtain ⟨v, rfl, rv⟩ := dargs1 rx
    cases rv
    obtain ⟨ns, rfl, hm, hf⟩ := intsK_of hf
    obtain ⟨j, h1, h2, h3⟩ := erase_first hm
    rw [r.ofInts] at h
    refine ⟨a, ns, _, j, rfl, rfl, h, h1, h2, ?_⟩
    rw [h3]
    exact q _ _ _ _ (DdAll.ints _) .non hf
  · exact hf.elim
/-- the first place of an equal one -/
def idxF : D → DF := fun d ds P => match d, ds with
  | .list xs, [e] => (SeqAt.shaped (.list xs) = true ∧ SeqAt.shaped e = true) ∧ getK (xs.findIdx? fun z => PyData.eqv z e) fun j => P (.d (.int (j : Nat)))
  | _, _ => False
theorem s_idx {p : Pm} : MtS p "list" (rIndexD p.K) idxF := by
  intro F I H σ ρ v vs d ds P Q R h1 h2 h k
  unfold idxF at h
  split at h
  · obtain ⟨w, rfl, r2⟩ := args1 h2
    obtain ⟨⟨s1, s2⟩, h⟩ := h
    obtain ⟨j, e, h⟩ := getK_of h
    obtain ⟨hj, e1, e2⟩ := List.findIdx?_eq_some_iff_getElem.mp e
    obtain ⟨a, ws, rfl, e3, r3⟩ := h1.list R.sub
    refine ⟨a, w, _, _, j, _, rfl, rfl, h1.dp R.sub s1, r2.dp R.sub s2, s1, s2, List.getElem?_eq_getElem hj, e1, fun m z' hm hz => ?_, k.flat R h (.int _)⟩
    obtain ⟨hl, rfl⟩ := List.getElem?_eq_some_iff.mp hz
    have := e2 m hm
    simpa using this
  · exact h.elim
end Dt

namespace Dt
open PySem PySem.Spec PyProof.Rows L2

/-! ### exceptions with fields -/
def oexB (K : PySem.W.Frag) (C : Addr) : Bool := (match K.lookup C with
  | some ⟨.type "type", _, .cls cd, sl⟩ => (match cd.mro, sl.toList with
    | .ref C' :: bm, [_, _, _, _, some (.builtin n), _] => C' == C && n == "ValueError.__new__" && !cd.hasDel && cd.hasDict && PySem.HandSPX.refsVE bm
    | _, _ => false)
  | _ => false) && decide (PySem.W.findIn K (.ref C) "__setattr__" = some (some (.builtin "object.__setattr__"))) && decide (PySem.W.subIn K (.ref C) (.type "BaseException") = some true) && decide (PySem.W.typeIn K (.ref C) = some (.type "type")) && PySem.W.keepIn K (.ref C)
theorem oexB_ok {K : PySem.W.Frag} {C : Addr} (h : oexB K C = true) : OexC K C := by
  unfold oexB at h
  simp only [Bool.and_eq_true, decide_eq_true_eq] at h
  obtain ⟨⟨⟨⟨q, h1⟩, h2⟩, h3⟩, h4⟩ := h
  refine ⟨?_, h1, h2, h3, h4⟩
  split at q
  · rename_i dd cd sl ho
    split at q
    · rename_i C' bm k0 k1 k2 k3 n k5 hm hs
      simp only [Bool.and_eq_true, beq_iff_eq, Bool.not_eq_true'] at q
      obtain ⟨⟨⟨⟨rfl, rfl⟩, hdel⟩, hdc⟩, ht⟩ := q
      obtain ⟨nm, bs, mro, ns, qn, hd, sn, sub, ab, col, del⟩ := cd
      dsimp only at hm hdel hdc
      subst hm hdel hdc
      obtain ⟨l⟩ := sl
      simp only at hs
      subst hs
      exact ⟨nm, qn, ns, bs, bm, sn, sub, ab, col, dd, k0, k1, k2, k3, k5, ho, ht⟩
    · cases q
  · cases q
/-- what an own __init__ with the fields fs promises -/
def spInit (K : PySem.W.Frag) (fs : List Str) : Sp := fun vs H Q _ => ∃ (a C : Addr) (ys : List V), vs = .ref a :: ys ∧ ys.length = fs.length ∧ H a = some (exo a C none) ∧ OexC K C ∧ (∀ f ∈ fs, PySem.W.findIn K (.ref C) f = some none) ∧
  ∀ dx H', H dx = none → dx ≠ a → H' a = some (exo a C (some dx)) → H' dx = some (exd dx (fs.zip ys).reverse) → (∀ b, b ≠ a → b ≠ dx → H' b = H b) → Q .non H'
section
variable {P : Program} {w : World} {K : PySem.W.Frag} {mg : Str → Option Value} {base : Heap} {f : Addr} {fd : FuncData} {st : Stmt} {qual : Str}
theorem init1 {x0 x1 f1 : Str} (F : Fun K "__init__" qual st f fd) (S : FnScope [x0, x1] [x0, x1] (defScope st))
    (hd : ∀ (cdv : Value) (A : Around) (outer : List Env) (s : Shared) (H : Hp) (E : XK), PSs (cxOf (L2.CX P w) P w K mg base [x0, x1] qual (defScope st) f cdv A outer s H E) (defBody st) (tOst K f1 (tVar 0) (tVar 1))) :
    FnOk P w K mg base (L2.CX P w) 1 f fd [x0, x1] (spInit K [f1]) := by
  refine F.okX S (fun vs H Q E h => ?_) (fun cdv A outer s H vs Q E hr h => ⟨_, hd cdv A outer s H E, ?_⟩)
  · obtain ⟨a, C, ys, rfl, hl, _⟩ := h
    simpa using hl
  · obtain ⟨a, C, ys, rfl, hl, ha, oc, hf, q⟩ := h
    obtain ⟨y, rfl⟩ : ∃ y, ys = [y] := by
      match ys, hl with
      | [y], _ => exact ⟨y, rfl⟩
    refine ⟨y, rfl, .ref a, rfl, a, C, rfl, oc, hf _ (by simp), .inl ⟨ha, fun dx hn hne => q dx _ hn hne upd_same ?_ fun b h1 h2 => by rw [upd_ne h1, upd_ne h2]⟩⟩
    rw [upd_ne hne]; exact upd_same
theorem init3 {x0 x1 x2 x3 f1 f2 f3 : Str} (F : Fun K "__init__" qual st f fd) (S : FnScope [x0, x1, x2, x3] [x0, x1, x2, x3] (defScope st))
    (hd : ∀ (cdv : Value) (A : Around) (outer : List Env) (s : Shared) (H : Hp) (E : XK), PSs (cxOf (L2.CX P w) P w K mg base [x0, x1, x2, x3] qual (defScope st) f cdv A outer s H E) (defBody st) (tSeq (tOst K f1 (tVar 0) (tVar 1)) (tSeq (tOst K f2 (tVar 0) (tVar 2)) (tOst K f3 (tVar 0) (tVar 3))))) :
    FnOk P w K mg base (L2.CX P w) 1 f fd [x0, x1, x2, x3] (spInit K [f1, f2, f3]) := by
  refine F.okX S (fun vs H Q E h => ?_) (fun cdv A outer s H vs Q E hr h => ⟨_, hd cdv A outer s H E, ?_⟩)
  · obtain ⟨a, C, ys, rfl, hl, _⟩ := h
    simpa using hl
  · obtain ⟨a, C, ys, rfl, hl, ha, oc, hf, q⟩ := h
    obtain ⟨y1, y2, y3, rfl⟩ : ∃ y1 y2 y3, ys = [y1, y2, y3] := by
      match ys, hl with
      | [y1, y2, y3], _ => exact ⟨y1, y2, y3, rfl⟩
    refine ⟨y1, rfl, .ref a, rfl, a, C, rfl, oc, hf _ (by simp), .inl ⟨ha, fun dx hn hne => ?_⟩⟩
    have g1 : (upd (upd H dx (exd dx [(f1, y1)])) a (exo a C (some dx))) a = some (exo a C (some dx)) := upd_same
    have g2 : (upd (upd H dx (exd dx [(f1, y1)])) a (exo a C (some dx))) dx = some (exd dx [(f1, y1)]) := by rw [upd_ne hne]; exact upd_same
    refine ⟨y2, rfl, .ref a, rfl, a, C, rfl, oc, hf _ (by simp), .inr ⟨dx, _, g1, g2, by simp, ?_⟩⟩
    refine ⟨y3, rfl, .ref a, rfl, a, C, rfl, oc, hf _ (by simp), .inr ⟨dx, _, by rw [upd_ne (Ne.symm hne)]; exact g1, upd_same, by simp, ?_⟩⟩
    refine q dx _ hn hne (by rw [upd_ne (Ne.symm hne), upd_ne (Ne.symm hne)]; exact g1) upd_same fun b h1 h2 => by rw [upd_ne h2, upd_ne h2, upd_ne h1, upd_ne h2]
end
/-- class n has its own __init__ with these fields -/
structure IniF (P : Program) (w : World) (K : PySem.W.Frag) (mg : Str → Option Value) (base : Heap) (C : Addr) (fs : List Str) : Prop where
  oex : OexC K C
  no : ∀ f ∈ fs, PySem.W.findIn K (.ref C) f = some none
  ini : ∃ (fI : Addr) (fd : FuncData) (ps : List Str), PySem.W.findIn K (.ref C) "__init__" = some (some (.ref fI)) ∧ PySem.W.typeIn K (.ref fI) = some (.type "function") ∧ Binds K fd ps [] ∧ FnOk P w K mg base (L2.CX P w) 1 fI fd ps (spInit K fs)
section
variable {X : Cx} {W : WX} {pos pos2 p : Pos} {a : Expr} {es : List Expr} {g : DA} {ks : List Nat} {ca : Nat → Addr}
theorem paired_snoc2 {α β : Type} {R : α → β → Prop} : ∀ {p : List α} {q : List β} {x : α} {y : β}, Paired R p q → R x y → Paired R (p ++ [x]) (q ++ [y])
  | _, _, _, _, .nil, h => .cons h .nil
  | _, _, _, _, .cons a r, h => .cons a (paired_snoc2 r h)
theorem paired_rev {α β : Type} {R : α → β → Prop} : ∀ {xs : List α} {ys : List β}, Paired R xs ys → Paired R xs.reverse ys.reverse
  | _, _, .nil => .nil
  | _, _, .cons r rs => by
    rw [List.reverse_cons, List.reverse_cons]
    exact paired_snoc2 (paired_rev rs) r
theorem passes_none {X : Cx} : Passes (L2.CX X.prog X.w) X (fun _ _ _ => False) := fun pins σ H s e s' I h => by
  obtain ⟨_, _, _, _, _, _, _, _, _, _, _, _, z⟩ := h
  exact z.elim
theorem z_raiseF {n : Nat} {fs : List Str} {x : Str} (xf : XF X.K X.mg ks ca) (hc : X.calm = true) (tk : L2.Takes X W) (hn : n ∈ ks) (T : IniF X.prog X.w X.K X.mg X.base (ca n) fs) (hx : x = exN n) (hr : Room 2 X.A) (hg : Gl X x) (h1 : 1 ≤ fs.length) (h9 : fs.length ≤ 900) (ha : PAd X noG W (a :: es) g)
    (hdb : (x == ("__debug__" : Str)) = false := by decide) (he : starEach (a :: es) X.env = (false, eval a X.env) :: starEach es X.env := by rfl) (hpl : (backTo pos (starEach es X.env)).any (·.1) = false := by rfl) :
    PSd X noG W (.Raise (some (.Call (.Name x p) (a :: es) [] pos)) none pos2) (dRaiseF n fs g) := by
  obtain ⟨fI, fd, ps, e1, e2, hb, F1⟩ := T.ini
  refine PS.weak (ps_raise hc tk (pmk_oex T.oex e1 e2 F1 hr hb .nil passes_none hg (by rw [hx]; exact xf.has n hn) ha hdb he hpl)) fun D0 σ H q => ?_
  obtain ⟨F, I, ρ, E, R, f1, k⟩ := q
  refine ⟨F, I, ρ, _, E.ex, R, f1, fun os ρ1 vs F1 I1 H1 f2 s1 R1 r1 => ?_, k.xend⟩
  obtain ⟨ds, e, hl, f3⟩ := onlyK_of f2
  have r := onlyD_ok r1 e
  have hv : vs.length = fs.length := by rw [r.length]; exact hl
  refine ⟨by omega, fun a0 ha0 => ⟨a0, ca n, vs, by simp, hv, upd_same, T.oex, T.no, fun dx H' hdx hne h1' h2' h3' => ⟨rfl, dx, _, h1', h2', ?_, ?_⟩⟩⟩
  · rw [upd_ne hne] at hdx; exact hdx
  · have hdx0 : H1 dx = none := by rw [upd_ne hne] at hdx; exact hdx
    have eH : upd (L2.del H' a0) dx (.xd (fs.zip vs).reverse) = upd H1 dx (.xd (fs.zip vs).reverse) := by
      funext b
      by_cases hb' : b = dx
      · subst hb'; rw [upd_same, upd_same]
      · rw [upd_ne hb', upd_ne hb']
        by_cases hb2 : b = a0
        · subst hb2; rw [del_same, ha0]
        · rw [del_ne hb2, h3' b hb2 hb', upd_ne hb2]
    rw [eH]
    obtain ⟨R2, s2⟩ := R1.newI (x := .xd (fs.zip vs).reverse) hdx0
    refine k.ex _ ρ1 _ _ σ F1 _ _ f3 (s1.trans s2) R2 ⟨_, xf.has n hn, rfl, .inr ⟨dx, _, rfl, upd_same, ?_⟩⟩
    have pr : ∀ {fs : List Str} {vs : List V} {ds : List D}, DdAll ⟨X.K, X.mg, noG⟩ I1 vs ds → Paired (fun (u : Str × V) (q : Str × D) => u.1 = q.1 ∧ Dd ⟨X.K, X.mg, noG⟩ (upd I1 dx (.xd (fs.zip vs).reverse)) u.2 q.2) (fs.zip vs) (fs.zip ds) := by
      intro fs vs ds r
      have hm : ∀ {v d}, Dd ⟨X.K, X.mg, noG⟩ I1 v d → Dd ⟨X.K, X.mg, noG⟩ (upd I1 dx (.xd (fs.zip vs).reverse)) v d := fun z => Dd.mono (same_upd (R1.fresh hdx0)) z
      revert hm
      generalize (upd I1 dx (.xd (fs.zip vs).reverse)) = J
      intro hm
      induction fs generalizing vs ds with
      | nil => exact .nil
      | cons f fs ih =>
        cases r with
        | nil => exact .nil
        | cons r0 rs => exact .cons ⟨rfl, hm r0⟩ (ih rs)
    have := pr (fs := fs) r
    exact paired_rev this
end
theorem unitsH {k : Nat} {A : Around} (r : L2H.RoomH k A) : A.units + 64 < cLine := by have := r.un; omega
theorem FnOk.never {P : Program} {w : World} {K : PySem.W.Frag} {mg : Str → Option Value} {base : Heap} {CX : CXT} {k : Nat} {f : Addr} {fd : FuncData} {ps : List Str} {p : Pm} {sp : DSp} (h : ∀ os PP PX, sp os PP PX → False) : FnOk P w K mg base CX k f fd ps (spOf p sp) :=
  ⟨fun _ _ _ _ ⟨_, _, _, _, _, _, _, q, _⟩ => (h _ _ _ q).elim, fun _ _ _ _ _ _ _ _ _ _ _ _ _ ⟨_, _, _, _, _, _, _, q, _⟩ => (h _ _ _ q).elim⟩
def clsS (s : Stmt) (j : Nat) : Stmt := match s with
  | .ClassDef _ _ _ body _ _ _ _ _ _ _ => body.getD j (.Pass ⟨0, 0, 0, 0⟩)
  | _ => .Pass ⟨0, 0, 0, 0⟩
end Dt

/-! # Dt: own lists that are lent for a call as data -/
namespace Dt
open PySem PySem.Spec PyProof.Rows L2
mutual
/-- no list and no dict in it -/
def noL : D → Bool
  | .list _ => false
  | .dict _ => false
  | .tuple ds => noLs ds
  | _ => true
def noLs : List D → Bool
  | [] => true
  | d :: ds => noL d && noLs ds
end
def noLO : O → Bool
  | .d d => noL d
  | .tmp (.lst ds) => noLs ds
  | _ => false
def noLX (x : Exn) : Bool := x.fs.all fun q => noL q.2
mutual
theorem Dd.thaw {p : Pm} {I J : Hp} (e : ∀ a o xs, I a = some (.frz o xs) → J a = some (.frz o xs)) : ∀ {v : V} {d : D}, Dd p I v d → noL d = true → Dd p J v d
  | _, _, .non, _ => .non
  | _, _, .bl b, _ => .bl b
  | _, _, .int i, _ => .int i
  | _, _, .str x, _ => .str x
  | _, _, .lst _ _, h => by unfold noL at h; cases h
  | _, _, .tup g z hs, h => .tup (e _ _ _ g) z (DdAll.thaw e hs (by unfold noL at h; exact h))
  | _, _, .ins _ _ _, h => by unfold noL at h; cases h
  | _, _, .dic _ _, h => by unfold noL at h; cases h
theorem DdAll.thaw {p : Pm} {I J : Hp} (e : ∀ a o xs, I a = some (.frz o xs) → J a = some (.frz o xs)) : ∀ {vs : List V} {ds : List D}, DdAll p I vs ds → noLs ds = true → DdAll p J vs ds
  | _, _, .nil, _ => .nil
  | _, _, .cons r rs, h => by
    unfold noLs at h
    rw [Bool.and_eq_true] at h
    exact .cons (Dd.thaw e r h.1) (DdAll.thaw e rs h.2)
end
/-- arguments: data, and own lists -/
def borD (ρ : Rho) : List O → Option (List D)
  | [] => some []
  | .d d :: os => (match borD ρ os with
    | some ds => some (d :: ds)
    | none => none)
  | .loc j :: os => (match ρ[j]?, borD ρ os with
    | some (some (.own (.lst xs))), some ds => some (.list xs :: ds)
    | _, _ => none)
  | _ :: _ => none
def borK (ρ : Rho) (os : List O) (k : List D → Prop) : Prop := match borD ρ os with
  | some ds => k ds
  | none => False
theorem borK_of {ρ : Rho} {os : List O} {k : List D → Prop} (h : borK ρ os k) : ∃ ds, borD ρ os = some ds ∧ k ds := by
  unfold borK at h
  split at h
  · exact ⟨_, by assumption, h⟩
  · exact h.elim
def dCallB (sp : DSp) (g : DA) : DE := fun ρ P PX => g ρ (fun os ρ1 => borK ρ1 os fun ds => sp (ds.map S.d) (fun o _ => noLO o = true ∧ P o ρ1) (fun x _ => noLX x = true ∧ PX x ρ1)) PX
/-- the part that stands still while these lists are lent -/
def lendI (I H : Hp) (B : Addr → Prop) [DecidablePred B] : Hp := fun a => if B a then H a else I a
section
variable {p : Pm} {F F' F0 : Lab} {I I' I0 H0 H1 H H' : Hp} {σ σ' : L2.St} {ρ ρ' ρ0 : Rho} {W : WX} {v : V} {o : O}
def LentOk (F : Lab) (I H : Hp) (B : List Addr) : Prop := ∀ a ∈ B, (∃ vs, H a = some (.lst vs)) ∧ I a = none ∧ F a ≠ none
theorem lend_same (R : Rel p F I H σ ρ) {B : List Addr} (hB : LentOk F I H B) : Same I (lendI I H (· ∈ B)) ∧ Same (lendI I H (· ∈ B)) H := by
  refine ⟨fun a o e => ?_, fun a o e => ?_⟩
  · unfold lendI
    rw [if_neg (fun h => by rw [(hB a h).2.1] at e; cases e)]; exact e
  · unfold lendI at e
    split at e
    · exact e
    · exact R.sub a o e
theorem borD_ok (R : Rel p F I H σ ρ) : ∀ {vs : List V} {os : List O} {ds : List D}, ResAll p F I H0 H σ vs os → borD ρ os = some ds → ∃ B : List Addr, LentOk F I H B ∧ DdAll p (lendI I H (· ∈ B)) vs ds := by
  have grow : ∀ {B : List Addr} {a : Addr} {vs : List V}, LentOk F I H B → (H a = some (.lst vs) ∧ I a = none ∧ F a ≠ none) → LentOk F I H (a :: B) ∧ Same (lendI I H (· ∈ B)) (lendI I H (· ∈ a :: B)) := fun {B a vs} hB ha => by
    refine ⟨fun b hb => ?_, fun b o e => ?_⟩
    · rcases List.mem_cons.mp hb with rfl | hb
      · exact ⟨⟨vs, ha.1⟩, ha.2⟩
      · exact hB b hb
    · unfold lendI at e ⊢
      split at e
      · rename_i q; rw [if_pos (by simp [q])]; exact e
      · rename_i q
        by_cases hab : b = a
        · subst hab; rw [ha.2.1] at e; cases e
        · rw [if_neg (by simp [hab, q])]; exact e
  intro vs os ds r
  induction os generalizing vs ds with
  | nil =>
    intro h
    cases r
    cases h
    exact ⟨[], (fun a h => by simp at h), DdAll.nil⟩
  | cons o os ih =>
    intro h
    cases r with
    | cons r rs =>
      rename_i v vs
      cases o with
      | d d =>
        unfold borD at h
        split at h
        · rename_i ds' e
          cases h
          obtain ⟨B, hB, q⟩ := ih rs e
          exact ⟨B, hB, .cons (Dd.mono (lend_same R hB).1 r) q⟩
        · cases h
      | loc j =>
        unfold borD at h
        split at h
        · rename_i xs ds' e1 e2
          cases h
          obtain ⟨B, hB, q⟩ := ih rs e2
          obtain ⟨u, h1, a, rfl, fp, ⟨rfl, ws, e3, q3⟩, hf⟩ := R.slot j _ e1
          have hv : v = .ref a := by
            have r : σ[j]? = some (some v) := r
            rw [r] at h1; cases h1; rfl
          subst hv
          obtain ⟨f1, f2, _, _⟩ := hf a (by simp)
          obtain ⟨g1, g2⟩ := grow hB (a := a) ⟨e3, f2, by rw [f1]; simp⟩
          refine ⟨a :: B, g1, .cons (.lst (xs := ws) ?_ (DdAll.mono (lend_same R g1).1 q3)) (DdAll.mono g2 q)⟩
          unfold lendI
          rw [if_pos (by simp)]; exact e3
        · cases h
      | tmp c => cases h
      | exc x => cases h
theorem fields_thaw {J : Hp} (e : ∀ a o xs, I a = some (.frz o xs) → J a = some (.frz o xs)) : ∀ {fv : List (Str × V)} {fs : List (Str × D)}, Paired (fun (u : Str × V) (q : Str × D) => u.1 = q.1 ∧ Dd p I u.2 q.2) fv fs → (∀ q ∈ fs, noL q.2 = true) → Paired (fun (u : Str × V) (q : Str × D) => u.1 = q.1 ∧ Dd p J u.2 q.2) fv fs
  | _, _, .nil, _ => .nil
  | _, _, .cons r0 rr, hn => .cons ⟨r0.1, Dd.thaw e r0.2 (hn _ List.mem_cons_self)⟩ (fields_thaw e rr fun q hq => hn q (List.mem_cons_of_mem _ hq))
theorem w_callB {sp : DSp} {g : DA} (σ : L2.St) (H : Hp) (Q : VK) (q : tE p W (dCallB sp g) σ H Q) : tA p W g σ H fun vs H1 => spOf p sp vs H1 Q (WE W σ) := by
  obtain ⟨F, I, ρ, P, PX, R, f, k, x⟩ := q
  refine ⟨F, I, ρ, _, PX, R, f, fun os ρ1 vs F1 I1 H1 h s1 R1 r1 => ?_, x⟩
  obtain ⟨ds, e, h⟩ := borK_of h
  obtain ⟨B, hB, r⟩ := borD_ok R1 r1 e
  obtain ⟨l1, l2⟩ := lend_same R1 hB
  have back : ∀ {F' : Lab} {I' H' : Hp}, Step (fun _ => none) (lendI I1 H1 (· ∈ B)) H1 F' I' H' → Same I' H' →
      Rel p F1 (fun a => if a ∈ B then none else I' a) H' σ ρ1 ∧ Step F1 I1 H1 F1 (fun a => if a ∈ B then none else I' a) H' ∧ (∀ a o xs, I' a = some (.frz o xs) → (fun a => if a ∈ B then none else I' a) a = some (.frz o xs)) ∧
      (∀ a, a ∈ B → ∃ vs, I' a = some (.lst vs)) := fun {F' I' H'} s sub => by
    have hl : ∀ a, a ∈ B → ∃ vs, I' a = some (.lst vs) := fun a ha => by
      obtain ⟨⟨ws, z⟩, _⟩ := hB a ha
      exact ⟨ws, s.inc a _ (by unfold lendI; rw [if_pos ha]; exact z)⟩
    have sm : Same H1 H' := fun a o z => s.keep a o z rfl
    have inc : Same I1 (fun a => if a ∈ B then none else I' a) := fun a o z => by
      have n : a ∉ B := fun ha => by rw [(hB a ha).2.1] at z; cases z
      show (if a ∈ B then none else I' a) = some o
      rw [if_neg n]
      exact s.inc a o (l1 a o z)
    have sub2 : Same (fun a => if a ∈ B then none else I' a) H' := fun a o z => by
      have z : (if a ∈ B then none else I' a) = some o := z
      split at z
      · cases z
      · exact sub a o z
    have new : ∀ a, (fun a => if a ∈ B then none else I' a) a ≠ none → I1 a ≠ none ∨ H1 a = none := fun a z => by
      have z : (if a ∈ B then none else I' a) ≠ none := z
      split at z
      · exact absurd rfl z
      · rename_i n
        rcases s.newI a z with y | y | y
        · unfold lendI at y; rw [if_neg n] at y; exact .inl y
        · exact .inr y
        · exact absurd rfl y
    refine ⟨R1.more sm inc sub2 new, Step.more R1 sm inc new, fun a o xs z => ?_, hl⟩
    show (if a ∈ B then none else I' a) = _
    rw [if_neg (fun ha => by obtain ⟨ws, y⟩ := hl a ha; rw [y] at z; cases z)]; exact z
  refine ⟨fun _ => none, lendI I1 H1 (· ∈ B), ds.map S.d, _, _, ⟨l2, (fun a j z => nomatch z), by simp [r.length], fun i s z => ?_⟩, (fun a j z => nomatch z), h, fun o os' v F' I' H' h s' R' r' => ?_, fun x' os' cls d F' I' H' h s' R' ex => ?_⟩
  · rw [map_some_get, List.getElem?_map, Option.map_eq_some_iff] at z
    obtain ⟨d, z, rfl⟩ := z
    obtain ⟨v, h1, h2⟩ := r.get z
    exact ⟨v, map_some_get.mpr h1, h2⟩
  · obtain ⟨R2, s2, tu, hl⟩ := back s' R'.sub
    refine k o ρ1 v F1 _ H' h.2 (s1.trans s2) R2 (ResOk.older (H0 := H1) ?_ fun b => s1.old)
    have hn := h.1
    cases o with
    | d d => exact Dd.thaw tu r' hn
    | tmp c =>
      cases c with
      | lst ds' =>
        obtain ⟨a, rfl, fp, ⟨rfl, ws, y1, y2⟩, hf⟩ := r'
        refine ⟨a, rfl, [a], ⟨rfl, ws, y1, DdAll.thaw tu y2 hn⟩, fun b hb => ?_⟩
        obtain ⟨z1, z2, z3, z4⟩ := hf b hb
        refine ⟨R1.lab0 z3, ?_, z3, z4⟩
        show (if b ∈ B then none else I' b) = none
        split
        · rfl
        · exact z2
      | _ => cases hn
    | loc j => cases hn
    | exc x => cases hn
  · obtain ⟨R2, s2, tu, hl⟩ := back s' R'.sub
    refine x x' ρ1 cls d F1 _ H' h.2 (s1.trans s2) R2 ?_
    obtain ⟨c, z1, z2, z3⟩ := ex
    refine ⟨c, z1, z2, ?_⟩
    rcases z3 with z3 | ⟨dd, fv, y1, y2, y3⟩
    · exact .inl z3
    · refine .inr ⟨dd, fv, y1, ?_, ?_⟩
      · show (if dd ∈ B then none else I' dd) = _
        rw [if_neg (fun ha => by obtain ⟨ws, y⟩ := hl dd ha; rw [y] at y2; cases y2)]; exact y2
      · have hn : ∀ q ∈ x'.fs, noL q.2 = true := fun q hq => List.all_eq_true.mp h.1 q hq
        exact fields_thaw tu y3 hn
end
section
variable {X : Cx} {G : V → Nat → Option Addr → Prop} {W : WX} {pos pos' : Pos} {a : Expr} {es : List Expr} {g : DA} {k : Nat} {x : Str} {f : Addr} {fd : FuncData} {ps : List Str} {sp : DSp}
theorem e_callB (F : FnOk X.prog X.w X.K X.mg X.base (L2.CX X.prog X.w) k f fd ps (spOf (pm X G) sp)) (tk : Takes X W) (hr : Room k X.A) (hg : Gl X x) (hm : X.mg x = some (.ref f)) (hk : PySem.W.keepIn X.K (.ref f) = true) (hb : Binds X.K fd ps [])
    (ha : PAd X G W (a :: es) g) (hdb : (x == ("__debug__" : Str)) = false := by decide) (he : starEach (a :: es) X.env = (false, eval a X.env) :: starEach es X.env := by rfl) (hpl : (backTo pos (starEach es X.env)).any (·.1) = false := by rfl) :
    PEd X G W (.Call (.Name x pos') (a :: es) [] pos) (dCallB sp g) := PE.weak (pe_callS (E := WE W) F hr hg hm hk hb (fun σ => passAt tk σ) ha hdb he hpl) w_callB
end
theorem noLs_map {α : Type} {f : α → D} (h : ∀ a, noL (f a) = true) : ∀ xs : List α, noLs (xs.map f) = true
  | [] => rfl
  | x :: xs => by rw [List.map_cons, noLs, h x, noLs_map h xs]; rfl
theorem noL_int (i : Int) : noL (.int i) = true := rfl
theorem noL_heap (h : List Int) : noL (hD h) = true := noLs_map noL_int h
theorem noL_rule (r : List (List Int)) : noL (rD r) = true := noLs_map noL_heap r
theorem noLs_ints (h : List Int) : noLs (h.map PyData.int) = true := noLs_map noL_int h
theorem noLs_heaps (r : List (List Int)) : noLs (r.map hD) = true := noLs_map noL_heap r
/-! ### own lists that are data for the time of one expression -/
def noLC : C → Bool
  | .lst ds => noLs ds
  | .st _ => true
  | _ => false
def thawS (s : Option S) : Option S → Prop
  | none => True
  | some (.d d) => s = some (.d d) ∨ noL d = true
  | some (.own c) => noLC c = true
  | some (.lent _ c) => noLC c = true
  | some (.exc x) => noLX x = true
def thawG : Nat → Rho → Rho → Prop
  | _, _, [] => True
  | _, [], _ :: _ => False
  | 0, _ :: ρ, _ :: ρ1 => thawR ρ ρ1
  | j + 1, s :: ρ, t :: ρ1 => thawS s t ∧ thawG j ρ ρ1
where thawR : Rho → Rho → Prop
  | _, [] => True
  | [], _ :: _ => False
  | s :: ρ, t :: ρ1 => thawS s t ∧ thawR ρ ρ1
def noLP : O → Bool
  | .loc _ => true
  | o => noLO o
def thawK (ρ ρ1 : Rho) (j : Nat) (o : O) (P : O → Rho → Prop) : Prop := match ρ1[j]? with
  | some (some (.d (.list ds))) => noLP o = true ∧ noLs ds = true ∧ thawG j ρ ρ1 ∧ P o (ρ1.set j (some (.own (.lst ds))))
  | _ => P o ρ1
def ownK (ρ : Rho) (j : Nat) (k : Prop) : Prop := match ρ[j]? with
  | some (some (.own (.lst _))) => k
  | _ => False
def dBor (j : Nat) (f : DE) : DE := fun ρ P PX => ownK ρ j (f ρ (fun o ρ1 => thawK ρ ρ1 j o P) PX)
theorem thawR_of : ∀ {ρ ρ1 : Rho}, thawG.thawR ρ ρ1 → ∀ (i : Nat) (s : S), ρ1[i]? = some (some s) → ∃ t : Option S, ρ[i]? = some t ∧ thawS t (some s)
  | _, [], _, i, s, e => by simp at e
  | [], _ :: _, h, _, _, _ => by unfold thawG.thawR at h; exact h.elim
  | t :: ρ, u :: ρ1, h, 0, s, e => by
    unfold thawG.thawR at h
    simp only [List.getElem?_cons_zero, Option.some.injEq] at e
    subst e
    exact ⟨t, rfl, h.1⟩
  | t :: ρ, u :: ρ1, h, i + 1, s, e => by
    unfold thawG.thawR at h
    exact thawR_of h.2 i s (by simpa using e)
theorem thawG_of : ∀ {j : Nat} {ρ ρ1 : Rho}, thawG j ρ ρ1 → ∀ (i : Nat) (s : S), i ≠ j → ρ1[i]? = some (some s) → ∃ t : Option S, ρ[i]? = some t ∧ thawS t (some s)
  | _, _, [], _, i, s, _, e => by simp at e
  | 0, [], _ :: _, h, _, _, _, _ => by unfold thawG at h; exact h.elim
  | _ + 1, [], _ :: _, h, _, _, _, _ => by unfold thawG at h; exact h.elim
  | 0, t :: ρ, u :: ρ1, h, i, s, n, e => by
    unfold thawG at h
    cases i with
    | zero => exact absurd rfl n
    | succ i => exact thawR_of h i s (by simpa using e)
  | j + 1, t :: ρ, u :: ρ1, h, 0, s, n, e => by
    unfold thawG at h
    simp only [List.getElem?_cons_zero, Option.some.injEq] at e
    subst e
    exact ⟨t, rfl, h.1⟩
  | j + 1, t :: ρ, u :: ρ1, h, i + 1, s, n, e => by
    unfold thawG at h
    exact thawG_of h.2 i s (by omega) (by simpa using e)
section
variable {p : Pm} {F F' F0 F1 : Lab} {I I' I0 I1 H0 H1 H H' : Hp} {σ σ' : L2.St} {ρ ρ' ρ0 ρ1 : Rho} {W : WX} {v : V} {o : O}
theorem w_bor {j : Nat} {f : DE} (σ : L2.St) (H : Hp) (Q : VK) (q : tE p W (dBor j f) σ H Q) : tE p W f σ H Q := by
  obtain ⟨F, I, ρ, P, PX, R, h, k, x⟩ := q
  unfold dBor ownK at h
  split at h
  · rename_i ds0 q0
    refine ⟨F, I, ρ, _, PX, R, h, fun o ρ1 v F1 I1 H1 h1 s1 R1 r1 => ?_, x⟩
    unfold thawK at h1
    split at h1
    · rename_i ds q1
      obtain ⟨n1, n2, n3, h1⟩ := h1
      obtain ⟨u, g1, a, rfl, fp, ⟨rfl, vs, e, _⟩, hf⟩ := R.slot j _ q0
      obtain ⟨f1, f2, _, f4⟩ := hf a (by simp)
      obtain ⟨u1, g2, g3⟩ := R1.slot j _ q1
      rw [g1] at g2; cases g2
      cases g3 with
      | lst g4 g5 =>
      rename_i xs
      let F2 : Lab := fun b => if b = a then some j else F1 b
      let I2 : Hp := fun b => if b = a then none else I1 b
      have hI : ∀ b, b ≠ a → I2 b = I1 b := fun b n => if_neg n
      have hIa : I2 a = none := if_pos rfl
      have hF : ∀ b, b ≠ a → F2 b = F1 b := fun b n => if_neg n
      have hFa : F2 a = some j := if_pos rfl
      have na : ∀ b i, F1 b = some i → b ≠ a := fun b i z y => by
        subst y
        have := (R1.lab b i z).1
        rw [g4] at this; cases this
      have na2 : ∀ b, I1 b = none → b ≠ a := fun b z y => by subst y; rw [g4] at z; cases z
      have tu : ∀ b o xs, I1 b = some (.frz o xs) → I2 b = some (.frz o xs) := fun b o ys z => by
        rw [hI b (fun y => by subst y; rw [g4] at z; cases z)]; exact z
      have Ha : H1 a = some (.lst xs) := R1.sub _ _ g4
      have inc : Same I I2 := fun b y z => by
        have n : b ≠ a := fun w => by subst w; rw [f2] at z; cases z
        rw [hI b n]; exact s1.inc b y z
      have own : ∀ {i : Nat} {b : Addr} {c : C}, i ≠ j → noLC c = true → Own p F1 I1 H1 (some i) (fun _ => True) b c → Own p F2 I2 H1 (some i) (fun _ => True) b c := fun {i b c} hi hn ⟨fp, w1, w2⟩ => by
        refine ⟨fp, ?_, fun z hz => ?_⟩
        · cases c with
          | lst ds' =>
            obtain ⟨w3, vs', w4, w5⟩ := w1
            exact ⟨w3, vs', w4, DdAll.thaw tu w5 hn⟩
          | dic _ => cases hn
          | dcN _ => cases hn
          | st b => exact w1
        · obtain ⟨y1, y2, y3, y4⟩ := w2 z hz
          have n := na z i y1
          exact ⟨by rw [hF z n]; exact y1, by rw [hI z n]; exact y2, y3, y4⟩
      have hj : j < ρ1.length := (List.getElem?_eq_some_iff.mp q1).1
      have S2 : Step F I H F2 I2 H1 := ⟨s1.keep, inc, fun b z => s1.newI b (by
          by_cases y : b = a
          · rw [y, hIa] at z; exact absurd rfl z
          · rw [← hI b y]; exact z), fun b i z => by
          by_cases y : b = a
          · rw [y, hFa] at z; cases z; rw [y]; exact .inl f1
          · rw [hF b y] at z; exact s1.lab b i z, s1.there⟩
      refine k o _ v F2 I2 H1 h1 S2 ⟨fun b y z => ?_, fun b i z => ?_, by rw [List.length_set]; exact R1.len, fun i s z => ?_⟩ ?_
      · by_cases w : b = a
        · rw [w, hIa] at z; cases z
        · rw [hI b w] at z; exact R1.sub b y z
      · by_cases w : b = a
        · rw [w, hIa, Ha]; simp
        · rw [hF b w] at z
          rw [hI b w]; exact R1.lab b i z
      · by_cases hij : i = j
        · subst hij
          rw [List.getElem?_set_self hj] at z
          cases z
          refine ⟨.ref a, g1, a, rfl, [a], ⟨rfl, xs, Ha, DdAll.thaw tu g5 n2⟩, fun b hb => ?_⟩
          rw [List.mem_singleton.mp hb]
          exact ⟨hFa, hIa, trivial, by rw [Ha]; simp⟩
        · rw [List.getElem?_set_ne (Ne.symm hij)] at z
          obtain ⟨t, z1, z2⟩ := thawG_of n3 i s hij z
          obtain ⟨u, y1, y2⟩ := R1.slot i s z
          refine ⟨u, y1, ?_⟩
          cases s with
          | d d =>
            rcases z2 with z2 | z2
            · subst z2
              obtain ⟨u', y3, y4⟩ := R.slot i _ z1
              rw [y1] at y3; cases y3
              exact Dd.mono inc y4
            · exact Dd.thaw tu y2 z2
          | own c =>
            obtain ⟨b, w1, w2⟩ := y2
            exact ⟨b, w1, own hij z2 w2⟩
          | lent b c => exact ⟨y2.1, own hij z2 y2.2⟩
          | exc x =>
            obtain ⟨d, w1, w2⟩ := y2
            refine ⟨d, w1, ?_⟩
            rcases w2 with w2 | ⟨dd, fv, w3, w4, w5⟩
            · exact .inl w2
            · refine .inr ⟨dd, fv, w3, ?_, fields_thaw tu w5 fun q hq => List.all_eq_true.mp z2 q hq⟩
              rw [hI dd (fun y => by subst y; rw [g4] at w4; cases w4)]; exact w4
      · cases o with
        | d d => exact Dd.thaw tu r1 n1
        | tmp c =>
          cases c with
          | lst ds' =>
            obtain ⟨b, rfl, fp, ⟨rfl, ws, y1, y2⟩, hf'⟩ := r1
            refine ⟨b, rfl, [b], ⟨rfl, ws, y1, DdAll.thaw tu y2 n1⟩, fun c hc => ?_⟩
            obtain ⟨z1, z2, z3, z4⟩ := hf' c hc
            have n := na2 c z2
            exact ⟨by rw [hF c n]; exact z1, by rw [hI c n]; exact z2, z3, z4⟩
          | _ => cases n1
        | loc i => exact r1
        | exc x => cases n1
    · exact k o ρ1 v F1 I1 H1 h1 s1 R1 r1
  · exact h.elim
end
theorem e_bor {X : Cx} {G : V → Nat → Option Addr → Prop} {W : WX} {e : Expr} {f : DE} (j : Nat) (h : PEd X G W e f) : PEd X G W e (dBor j f) := PE.weak h w_bor
theorem noLs_bools (h : List Bool) : noLs (h.map PyData.bool) = true := noLs_map (fun _ => rfl) h
end Dt

/-! # Dt: plain helpers -/
namespace Dt
open PySem PySem.Spec PyProof.Rows L2
section
variable {α : Type} {g : DG} {t : DT} {e : DE} {vs : List Nat} {P : List D → Rho → Prop} {xs : List α} {ρ : Rho}
/-- each item gives a number -/
theorem compGo_mapI (enc : α → D) (f : α → Int)
    (step : ∀ x ∈ xs, ∀ acc (K : List D → Rho → Prop), K (acc ++ [.int (f x)]) ρ → g (enc x) ρ fun ρ1 => t ρ1 (fun b ρ2 => (b = true → e ρ2 (fun o ρ3 => onlyd o fun d' => K (acc ++ [d']) (wipeR ρ3 vs)) noX) ∧ (b = false → K acc (wipeR ρ2 vs))) noX)
    (done : P ((xs.map f).map PyData.int) ρ) : compGo g t e vs P (xs.map enc) [] ρ :=
  compGo_map enc (fun x => .int (f x)) step (by rw [List.nil_append]; rw [List.map_map] at done; exact done)
theorem compGo_mapB (enc : α → D) (f : α → Bool)
    (step : ∀ x ∈ xs, ∀ acc (K : List D → Rho → Prop), K (acc ++ [.bool (f x)]) ρ → g (enc x) ρ fun ρ1 => t ρ1 (fun b ρ2 => (b = true → e ρ2 (fun o ρ3 => onlyd o fun d' => K (acc ++ [d']) (wipeR ρ3 vs)) noX) ∧ (b = false → K acc (wipeR ρ2 vs))) noX)
    (done : P ((xs.map f).map PyData.bool) ρ) : compGo g t e vs P (xs.map enc) [] ρ :=
  compGo_map enc (fun x => .bool (f x)) step (by rw [List.nil_append]; rw [List.map_map] at done; exact done)
theorem compGo_mapH (enc : α → D) (f : α → Heap1)
    (step : ∀ x ∈ xs, ∀ acc (K : List D → Rho → Prop), K (acc ++ [hD (f x)]) ρ → g (enc x) ρ fun ρ1 => t ρ1 (fun b ρ2 => (b = true → e ρ2 (fun o ρ3 => onlyd o fun d' => K (acc ++ [d']) (wipeR ρ3 vs)) noX) ∧ (b = false → K acc (wipeR ρ2 vs))) noX)
    (done : P ((xs.map f).map hD) ρ) : compGo g t e vs P (xs.map enc) [] ρ :=
  compGo_map enc (fun x => hD (f x)) step (by rw [List.nil_append]; rw [List.map_map] at done; exact done)
/-- those that are kept, as they are -/
theorem compGo_keep (enc : α → D) (keep : α → Bool)
    (step : ∀ x ∈ xs, ∀ acc (K : List D → Rho → Prop), (keep x = true → K (acc ++ [enc x]) ρ) → (keep x = false → K acc ρ) → g (enc x) ρ fun ρ1 => t ρ1 (fun b ρ2 => (b = true → e ρ2 (fun o ρ3 => onlyd o fun d' => K (acc ++ [d']) (wipeR ρ3 vs)) noX) ∧ (b = false → K acc (wipeR ρ2 vs))) noX)
    (done : P ((xs.filter keep).map enc) ρ) : compGo g t e vs P (xs.map enc) [] ρ :=
  compGo_filter enc keep enc step (by rw [List.nil_append]; exact done)
/-- some, by draws -/
theorem compGo_draw' {β : Type} (enc : α → D) (enc2 : β → D) (S : β → Prop) (c : Nat) (St : Nat → Rho) {b0 : Nat}
    (step : ∀ x ∈ xs, ∀ acc b1 (K : List D → Rho → Prop), b0 ≤ b1 → b1 ≤ b0 + c * xs.length → (∀ z b2, S z → b1 ≤ b2 → b2 ≤ b1 + c → K (acc ++ [enc2 z]) (St b2)) → (∀ b2, b1 ≤ b2 → b2 ≤ b1 + c → K acc (St b2)) →
      g (enc x) (St b1) fun ρ1 => t ρ1 (fun b ρ2 => (b = true → e ρ2 (fun o ρ3 => onlyd o fun d' => K (acc ++ [d']) (wipeR ρ3 vs)) noX) ∧ (b = false → K acc (wipeR ρ2 vs))) noX)
    (done : ∀ (zs : List β) b2, (∀ z ∈ zs, S z) → zs.length ≤ xs.length → b0 ≤ b2 → b2 ≤ b0 + c * xs.length → P (zs.map enc2) (St b2)) : compGo g t e vs P (xs.map enc) [] (St b0) := by
  refine compGo_ind enc (fun r acc ρ => ∃ p zs b1, ρ = St b1 ∧ xs = p ++ r ∧ acc = zs.map enc2 ∧ (∀ z ∈ zs, S z) ∧ zs.length ≤ p.length ∧ b0 ≤ b1 ∧ b1 ≤ b0 + c * p.length) (fun x r acc ρ K k h => ?_) (fun acc ρ h => ?_) xs [] (St b0) ⟨[], [], b0, rfl, rfl, rfl, by simp, Nat.le_refl _, Nat.le_refl _, Nat.le_refl _⟩
  · obtain ⟨p, zs, b1, rfl, h1, rfl, hz, hq, h3, h4⟩ := h
    have hl : p.length + 1 ≤ xs.length := by rw [h1]; simp
    have hm : c * p.length + c ≤ c * xs.length := by
      have := Nat.mul_le_mul_left c hl
      rw [Nat.mul_add, Nat.mul_one] at this; exact this
    have hp : b0 + c * (p ++ [x]).length = b0 + c * p.length + c := by rw [List.length_append]; simp only [List.length_cons, List.length_nil]; rw [Nat.mul_add]; omega
    refine step x (by rw [h1]; simp) _ b1 K h3 (by omega) (fun z b2 hr q1 q2 => k _ _ ⟨p ++ [x], zs ++ [z], b2, rfl, by rw [h1]; simp, by simp, ?_, by simp; omega, by omega, by omega⟩) (fun b2 q1 q2 => k _ _ ⟨p ++ [x], zs, b2, rfl, by rw [h1]; simp, rfl, hz, by simp; omega, by omega, by omega⟩)
    intro y hy
    rcases List.mem_append.mp hy with hy | hy
    · exact hz y hy
    · rw [List.mem_singleton.mp hy]; exact hr
  · obtain ⟨p, zs, b1, rfl, h1, rfl, hz, hq, h3, h4⟩ := h
    have : xs = p := by rw [h1]; simp
    subst this
    exact done zs b1 hz hq h3 h4
end
theorem cast_le_iff {a b : Nat} : decide ((a : Int) ≤ (b : Int)) = decide (a ≤ b) := by simp
theorem isHeap_nil : isHeap [] := ⟨List.Pairwise.nil, by simp⟩
theorem isHeap_take {h : Heap1} (p : isHeap h) (n : Nat) : isHeap (h.take n) := ⟨p.1.sublist (List.take_sublist n h), fun x hx => p.2 x (List.mem_of_mem_take hx)⟩
theorem seq_at {n : Nat} {i : Int} {k : Nat → Prop} (h0 : 0 ≤ i) (h1 : i < n) (q : k i.toNat) : getK (seqIndex? i n) k := by
  refine getK_in ?_ q
  unfold seqIndex?
  have e : ¬ i < 0 := by omega
  simp only [e, if_false]
  rw [if_pos (by simp; omega)]
theorem ix_at {n : Nat} {i : Int} {k : Nat → Prop} (h0 : 0 ≤ i) (h1 : i < n) (q : k i.toNat) : getK (ixN n i) k := by
  refine getK_in ?_ q
  unfold ixN
  rw [if_pos h0, if_pos h1]
theorem get_at {α : Type} {ds : List α} {n : Nat} {k : α → Prop} (h : n < ds.length) (q : k ds[n]) : getK ds[n]? k := getK_in (List.getElem?_eq_getElem h) q
theorem map_set' {α β : Type} (f : α → β) (xs : List α) (n : Nat) (x : α) : (xs.map f).set n (f x) = (xs.set n x).map f := by rw [List.map_set]
theorem map_erase' {α β : Type} (f : α → β) (xs : List α) (n : Nat) : (xs.map f).eraseIdx n = (xs.eraseIdx n).map f := by
  induction xs generalizing n with
  | nil => rfl
  | cons x xs ih => cases n with
    | zero => rfl
    | succ n => simp [ih]
theorem cut_take {α : Type} (xs : List α) {k : Int} (h : 0 ≤ k) : cut xs none (some k) = xs.take k.toNat := by
  unfold cut HT.sIx
  simp only []
  by_cases h2 : k ≤ xs.length
  · have e : ¬ k < 0 := by omega
    simp [e, h2]
    try omega
  · have e : ¬ k < 0 := by omega
    simp [e, h2]
    try omega
theorem cut_drop {α : Type} (xs : List α) {k : Int} (h : 0 ≤ k) : cut xs (some k) none = xs.drop k.toNat := by
  unfold cut HT.sIx
  have e : ¬ k < 0 := by omega
  simp only [e, if_false]
  rw [List.take_of_length_le (by rw [List.length_drop]; omega)]
  by_cases h2 : k.toNat ≤ xs.length
  · rw [Nat.min_eq_left h2]
  · rw [Nat.min_eq_right (by omega), List.drop_of_length_le (Nat.le_refl _), List.drop_of_length_le (by omega)]
theorem cutM_take {α β : Type} (f : α → β) (xs : List α) {k : Int} (h : 0 ≤ k) : cut (xs.map f) none (some k) = (xs.take k.toNat).map f := by rw [cut_take _ h, List.map_take]
theorem cutM_drop {α β : Type} (f : α → β) (xs : List α) {k : Int} (h : 0 ≤ k) : cut (xs.map f) (some k) none = (xs.drop k.toNat).map f := by rw [cut_drop _ h, List.map_drop]
theorem cutH_take (xs : Heap1) {k : Int} (h : 0 ≤ k) : PyData.tuple (cut (xs.map PyData.int) none (some k)) = hD (xs.take k.toNat) := by rw [cutM_take _ _ h]
theorem cutH_drop (xs : Heap1) {k : Int} (h : 0 ≤ k) : PyData.tuple (cut (xs.map PyData.int) (some k) none) = hD (xs.drop k.toNat) := by rw [cutM_drop _ _ h]
theorem getK_hd {α : Type} {d : α} {ds : List α} {k : α → Prop} (q : k d) : getK (atI (d :: ds) 0) k := getK_in (atI_nat (j := 0) (by rfl)) q
theorem getK_hdM {α β : Type} {f : α → β} {x : α} {xs : List α} {k : β → Prop} (q : k (f x)) : getK (atI ((x :: xs).map f) 0) k := getK_hd q
/-- the loop so far -/
theorem forGo_pre {α : Type} {g : DG} {b : DS} {E : DEnds} (enc : α → D) (Inv : List α → Rho → Prop) {xs : List α}
    (step : ∀ p x r ρ (K : Rho → Prop), xs = p ++ x :: r → (∀ ρ', Inv (p ++ [x]) ρ' → K ρ') → Inv p ρ → g (enc x) ρ fun ρ1 => b { E with nx := K, ct := K, bk := E.nx } ρ1) (done : ∀ ρ, Inv xs ρ → E.nx ρ) {ρ : Rho} (h : Inv [] ρ) : forGo g b E (xs.map enc) ρ := by
  refine forGo_ind enc (fun r ρ => ∃ p, xs = p ++ r ∧ Inv p ρ) (fun x r ρ K hK hi => ?_) (fun ρ hi => ?_) xs ρ ⟨[], rfl, h⟩
  · obtain ⟨p, e, hi⟩ := hi
    exact step p x r ρ K e (fun ρ' h' => hK ρ' ⟨p ++ [x], by rw [e]; simp, h'⟩) hi
  · obtain ⟨p, e, hi⟩ := hi
    rw [List.append_nil] at e
    subst e
    exact done ρ hi
/-- drawn for each -/
theorem paired_rel {α β : Type} {R : α → D → Prop} {S : α → β → Prop} {f : β → D} (h : ∀ x d, R x d → ∃ i, d = f i ∧ S x i) : ∀ {xs : List α} {ds : List D}, Paired R xs ds → ∃ ns : List β, ds = ns.map f ∧ Paired S xs ns
  | _, _, .nil => ⟨[], rfl, .nil⟩
  | _, _, .cons r rr => by
    obtain ⟨i, rfl, hi⟩ := h _ _ r
    obtain ⟨ns, rfl, h2⟩ := paired_rel h rr
    exact ⟨i :: ns, rfl, .cons hi h2⟩
theorem paired_all {α β : Type} {R : α → β → Prop} {S : β → Prop} (h : ∀ x y, R x y → S y) : ∀ {xs : List α} {ys : List β}, Paired R xs ys → ∀ y ∈ ys, S y
  | _, _, .nil, y, hy => by cases hy
  | _, _, .cons r rr, y, hy => by
    rcases List.mem_cons.mp hy with rfl | hy
    · exact h _ _ r
    · exact paired_all h rr y hy
theorem zipD_map {α β : Type} (f : α → D) (g : β → D) : ∀ (xs : List α) (ys : List β), zipD (xs.map f) (ys.map g) = (xs.zip ys).map fun p => PyData.tuple [f p.1, g p.2]
  | [], ys => by simp [zipD]
  | x :: xs, [] => by simp [zipD]
  | x :: xs, y :: ys => by
    rw [List.map_cons, List.map_cons, List.zip_cons_cons, List.map_cons, ← zipD_map f g xs ys]
    rfl
theorem brSubT {n m : Nat} {A B : Prop} (h : subX n m = true) (q : A) : (subX n m = true → A) ∧ (subX n m = false → B) := ⟨fun _ => q, fun z => by rw [h] at z; cases z⟩
theorem brSubF {n m : Nat} {A B : Prop} (h : subX n m = false) (q : B) : (subX n m = true → A) ∧ (subX n m = false → B) := ⟨fun z => absurd (h.symm.trans z) (by decide), fun _ => q⟩
theorem units65 {k : Nat} {A : Around} (r : Room k A) : A.units + 65 < cLine := by have := r.un; omega
theorem brSubD {n m : Nat} {A B : Prop} (h1 : subX n m = true → A) (h2 : subX n m = false → B) : (subX n m = true → A) ∧ (subX n m = false → B) := ⟨h1, h2⟩
theorem len_srt (ns : List Int) : (srt ns).length = ns.length := (srt_perm ns).length_eq
theorem fin_eq {x y : D} (h : PyData.eqv x y = true) : O.d (.bool (PyData.eqv x y)) = O.d (.bool true) := by rw [h]
theorem fin_ne {x y : D} (h : PyData.eqv x y = false) : O.d (.bool (!PyData.eqv x y)) = O.d (.bool true) := by rw [h]; rfl
/-! ### heaps in heaps -/
def liesIn (a b : Heap1) : Bool := a.all fun x => decide (((a.count x : Nat) : Int) ≤ ((b.count x : Nat) : Int))
theorem liesIn_iff {a b : Heap1} : liesIn a b = true ↔ ∀ x, a.count x ≤ b.count x := by
  unfold liesIn
  rw [List.all_eq_true]
  constructor
  · intro h x
    by_cases hx : x ∈ a
    · have := h x hx; simp only [decide_eq_true_eq] at this; omega
    · rw [List.count_eq_zero_of_not_mem hx]; omega
  · intro h x _
    have := h x
    simp only [decide_eq_true_eq]; omega
def takeOff (a b : Heap1) : Heap1 := a.foldl (fun l x => l.erase x) b
theorem takeOff_sub : ∀ (a b : Heap1), (takeOff a b).Sublist b
  | [], b => List.Sublist.refl _
  | x :: a, b => (takeOff_sub a (b.erase x)).trans (List.erase_sublist)
theorem takeOff_perm : ∀ (a b : Heap1), (∀ x, a.count x ≤ b.count x) → b.Perm (a ++ takeOff a b)
  | [], b, _ => List.Perm.refl _
  | x :: a, b, h => by
    have hx : x ∈ b := List.count_pos_iff.mp (by have := h x; rw [List.count_cons_self] at this; omega)
    refine (List.perm_cons_erase hx).trans ((takeOff_perm a (b.erase x) fun y => ?_).cons x)
    have := h y
    rw [List.count_cons] at this
    rw [List.count_erase]
    omega
theorem liesIn_self (a : Heap1) : liesIn a a = true := liesIn_iff.mpr fun _ => Nat.le_refl _
theorem liesIn_nil (a : Heap1) : liesIn [] a = true := rfl
theorem liesIn_append (a b : Heap1) : liesIn a (a ++ b) = true := liesIn_iff.mpr fun x => by rw [List.count_append]; omega
theorem liesIn_perm {a b c : Heap1} (h : b.Perm c) : liesIn a b = liesIn a c := by
  unfold liesIn
  congr 1
  funext x
  rw [h.count_eq]
theorem down_unique {xs ys : List Int} (p : xs.Perm ys) (h1 : xs.Pairwise (· ≥ ·)) (h2 : ys.Pairwise (· ≥ ·)) : xs = ys := (srtR_eq (p.trans (List.Perm.refl _)) h1).trans (srtR_self h2)
theorem brBn {c : Bool} {A B : Prop} (h1 : c = false → A) (h2 : c = true → B) : ((!c) = true → A) ∧ ((!c) = false → B) := by
  cases c <;> simp <;> first | exact h1 rfl | exact h2 rfl
theorem idx_in {l : Heap1} {x : Int} {k : Nat → Prop} (hx : x ∈ l) (q : ∀ j, j < l.length → l.eraseIdx j = l.erase x → k j) : getK (List.findIdx? (fun z => PyData.eqv z (.int x)) (l.map PyData.int)) k := by
  obtain ⟨j, h1, h2, h3⟩ := erase_first hx
  obtain ⟨hj, e⟩ := List.getElem?_eq_some_iff.mp h1
  refine getK_in (List.findIdx?_eq_some_iff_getElem.mpr ⟨by simpa using hj, ?_, fun m hm => ?_⟩) (q j hj h3)
  · rw [List.getElem_map, eqv_I, e]; simp
  · rw [List.getElem_map, eqv_I]
    have hm2 : m < l.length := by omega
    have := h2 m hm
    rw [List.getElem?_eq_getElem hm2] at this
    simp only [Bool.not_eq_true, decide_eq_false_iff_not]
    exact fun z => this (by rw [z])
theorem seq_nat {n j : Nat} {k : Nat → Prop} (h : j < n) (q : k j) : getK (seqIndex? (j : Int) n) k := seq_at (i := (j : Int)) (by omega) (by omega) (by rw [Int.toNat_natCast]; exact q)
theorem intsK_app {a b : List Int} {k : List Int → Prop} (q : k (a ++ b)) : intsK (a.map PyData.int ++ b.map PyData.int) k := intsK_mk (a ++ b) List.map_append.symm q
theorem heapK_app {a b : List Int} {k : Heap1 → Prop} (q : k (a ++ b)) : heapK (.tuple (a.map PyData.int ++ b.map PyData.int)) k := heapK_mk (a ++ b) (by show _ = PyData.tuple ((a ++ b).map PyData.int); rw [List.map_append]) q
section
variable {α : Type} {g : DG} {t : DT} {e : DE} {vs : List Nat} {P : List D → Rho → Prop} {xs : List α} {ρ : Rho}
/-- some, by draws, as they stand -/
theorem compGo_sub (enc : α → D) (c : Nat) (St : Nat → Rho) {b0 : Nat}
    (step : ∀ x ∈ xs, ∀ acc b1 (K : List D → Rho → Prop), b0 ≤ b1 → b1 ≤ b0 + c * xs.length → (∀ b2, b1 ≤ b2 → b2 ≤ b1 + c → K (acc ++ [enc x]) (St b2)) → (∀ b2, b1 ≤ b2 → b2 ≤ b1 + c → K acc (St b2)) →
      g (enc x) (St b1) fun ρ1 => t ρ1 (fun b ρ2 => (b = true → e ρ2 (fun o ρ3 => onlyd o fun d' => K (acc ++ [d']) (wipeR ρ3 vs)) noX) ∧ (b = false → K acc (wipeR ρ2 vs))) noX)
    (done : ∀ (zs : List α) b2, zs.Sublist xs → b0 ≤ b2 → b2 ≤ b0 + c * xs.length → P (zs.map enc) (St b2)) : compGo g t e vs P (xs.map enc) [] (St b0) := by
  refine compGo_ind enc (fun r acc ρ => ∃ p zs b1, ρ = St b1 ∧ xs = p ++ r ∧ acc = zs.map enc ∧ zs.Sublist p ∧ b0 ≤ b1 ∧ b1 ≤ b0 + c * p.length) (fun x r acc ρ K k h => ?_) (fun acc ρ h => ?_) xs [] (St b0) ⟨[], [], b0, rfl, rfl, rfl, List.Sublist.refl _, Nat.le_refl _, Nat.le_refl _⟩
  · obtain ⟨p, zs, b1, rfl, h1, rfl, hz, h3, h4⟩ := h
    have hl : p.length + 1 ≤ xs.length := by rw [h1]; simp
    have hm : c * p.length + c ≤ c * xs.length := by
      have := Nat.mul_le_mul_left c hl
      rw [Nat.mul_add, Nat.mul_one] at this; exact this
    have hp : b0 + c * (p ++ [x]).length = b0 + c * p.length + c := by rw [List.length_append]; simp only [List.length_cons, List.length_nil]; rw [Nat.mul_add]; omega
    exact step x (by rw [h1]; simp) _ b1 K h3 (by omega) (fun b2 q1 q2 => k _ _ ⟨p ++ [x], zs ++ [x], b2, rfl, by rw [h1]; simp, by simp, hz.append (List.Sublist.refl _), by omega, by omega⟩) (fun b2 q1 q2 => k _ _ ⟨p ++ [x], zs, b2, rfl, by rw [h1]; simp, rfl, hz.trans (List.sublist_append_left _ _), by omega, by omega⟩)
  · obtain ⟨p, zs, b1, rfl, h1, rfl, hz, h3, h4⟩ := h
    have : xs = p := by rw [h1]; simp
    subst this
    exact done zs b1 hz h3 h4
end
theorem isHeap_sub {g h : Heap1} (p : isHeap h) (s : g.Sublist h) : isHeap g := ⟨p.1.sublist s, fun x hx => p.2 x (s.subset hx)⟩
theorem brAT {c : Bool} {A B : Prop} (h : c = true) (q : A) : (c = true → A) ∧ (c = false → B) := ⟨fun _ => q, fun z => by rw [h] at z; cases z⟩
theorem brAF {c : Bool} {A B : Prop} (h : c = false) (q : B) : (c = true → A) ∧ (c = false → B) := ⟨(fun z => by rw [h] at z; cases z), fun _ => q⟩
theorem brNAT {c : Bool} {A B : Prop} (h : c = true) (q : B) : ((!c) = true → A) ∧ ((!c) = false → B) := ⟨(fun z => by rw [h] at z; cases z), fun _ => q⟩
theorem brNAF {c : Bool} {A B : Prop} (h : c = false) (q : A) : ((!c) = true → A) ∧ ((!c) = false → B) := ⟨fun _ => q, fun z => by rw [h] at z; cases z⟩
end Dt

/-! # Dt: partings, by plain lists -/
namespace Dt
open PySem PySem.Spec PyProof.Rows L2
/-- M, M-1, .. 1 -/
def downTo (M : Nat) : List Nat := (List.range M).map fun j => M - j
theorem downTo_succ (M : Nat) : downTo (M + 1) = (M + 1) :: downTo M := by
  unfold downTo
  rw [List.range_succ_eq_map]
  simp only [List.map_cons, List.map_map, Nat.sub_zero]
  congr 1
  apply List.map_congr_left
  intro j hj
  show M + 1 - (j + 1) = M - j
  omega
theorem mem_downTo {M p : Nat} : p ∈ downTo M ↔ 1 ≤ p ∧ p ≤ M := by
  unfold downTo
  rw [List.mem_map]
  constructor
  · rintro ⟨j, hj, rfl⟩
    have := List.mem_range.mp hj
    omega
  · rintro ⟨h1, h2⟩
    exact ⟨M - p, List.mem_range.mpr (by omega), by omega⟩
/-- all partings of n into parts up to m, falling; k: how deep one looks -/
def pts : Nat → Nat → Nat → List Heap1
  | 0, _, _ => []
  | k + 1, n, m => if n = 0 then [[]] else (downTo (min n m)).flatMap fun p => (pts k (n - p) p).map fun r => (p : Int) :: r
def gLen (n : Nat) : Nat := if n = 0 then 1 else 2 ^ (n - 1)
theorem gLen_sum (n : Nat) : ∀ M, M + 1 ≤ n → ((downTo M).map fun p => gLen (n - p)).sum + gLen (n - M) = gLen n
  | 0, _ => by simp [downTo]
  | M + 1, h => by
    have ih := gLen_sum n M (by omega)
    rw [downTo_succ, List.map_cons, List.sum_cons]
    have e : gLen (n - M) = gLen (n - (M + 1)) + gLen (n - (M + 1)) := by
      unfold gLen
      rw [if_neg (by omega), if_neg (by omega), show n - M - 1 = (n - (M + 1) - 1) + 1 from by omega, Nat.pow_succ]
      omega
    omega
theorem gLen_le (n M : Nat) (h : M ≤ n) (hn : 1 ≤ n) : ((downTo M).map fun p => gLen (n - p)).sum ≤ gLen n := by
  by_cases e : M = n
  · subst e
    obtain ⟨m, rfl⟩ : ∃ m, M = m + 1 := ⟨M - 1, by omega⟩
    have := gLen_sum (m + 1) m (by omega)
    rw [downTo_succ, List.map_cons, List.sum_cons]
    have e1 : gLen (m + 1 - (m + 1)) = 1 := by simp [gLen]
    have e2 : gLen (m + 1 - m) = 1 := by rw [show m + 1 - m = 1 from by omega]; rfl
    omega
  · have := gLen_sum n M (by omega)
    omega
theorem flat_len {α β : Type} (f : α → List β) (g : α → Nat) : ∀ l : List α, (∀ a ∈ l, (f a).length ≤ g a) → (l.flatMap f).length ≤ (l.map g).sum
  | [], _ => by simp
  | a :: l, h => by
    rw [List.flatMap_cons, List.length_append, List.map_cons, List.sum_cons]
    have := h a (by simp)
    have := flat_len f g l fun b hb => h b (by simp [hb])
    omega
theorem gLen_pos (n : Nat) : 1 ≤ gLen n := by unfold gLen; split; · omega
                                              · exact Nat.one_le_two_pow
theorem pts_len : ∀ (k n m : Nat), (pts k n m).length ≤ gLen n
  | 0, n, _ => by rw [pts]; exact Nat.zero_le _
  | k + 1, n, m => by
    rw [pts]
    by_cases e : n = 0
    · rw [if_pos e]; exact gLen_pos n
    · rw [if_neg e]
      refine Nat.le_trans (flat_len _ (fun p => gLen (n - p)) _ fun p hp => ?_) (gLen_le n _ (Nat.min_le_left _ _) (by omega))
      rw [List.length_map]
      exact pts_len k _ _
theorem gLen_mono {n m : Nat} (h : n ≤ m) : gLen n ≤ gLen m := by
  unfold gLen
  by_cases e : n = 0
  · rw [if_pos e]; split; · omega
    · exact Nat.one_le_two_pow
  · rw [if_neg e, if_neg (by omega)]
    exact Nat.pow_le_pow_right (by omega) (by omega)
theorem pts_len24 {k n m : Nat} (h : n ≤ 24) : (pts k n m).length ≤ 8388608 := Nat.le_trans (pts_len k n m) (Nat.le_trans (gLen_mono h) (by decide))
theorem flat_pre {α β : Type} (f : α → List β) {l p r : List α} (e : l = p ++ r) : (p.flatMap f).length ≤ (l.flatMap f).length := by
  subst e
  rw [List.flatMap_append, List.length_append]; omega
theorem pts_mem : ∀ (k n m : Nat) (r : Heap1), r ∈ pts k n m → r.sum = (n : Int) ∧ (∀ x ∈ r, 1 ≤ x ∧ x ≤ (m : Int)) ∧ r.Pairwise (· ≥ ·)
  | 0, _, _, _, h => by rw [pts] at h; cases h
  | k + 1, n, m, r, h => by
    rw [pts] at h
    by_cases e : n = 0
    · rw [if_pos e, List.mem_singleton] at h
      subst h e
      exact ⟨rfl, by simp, List.Pairwise.nil⟩
    · rw [if_neg e, List.mem_flatMap] at h
      obtain ⟨p, hp, h⟩ := h
      obtain ⟨s, hs, rfl⟩ := List.mem_map.mp h
      have hp := mem_downTo.mp hp
      obtain ⟨h1, h2, h3⟩ := pts_mem k (n - p) p s hs
      refine ⟨by rw [List.sum_cons, h1]; omega, fun x hx => ?_, List.pairwise_cons.mpr ⟨fun x hx => (h2 x hx).2, h3⟩⟩
      rcases List.mem_cons.mp hx with rfl | hx
      · omega
      · have := h2 x hx; omega
theorem len_le_sum : ∀ {r : Heap1}, (∀ x ∈ r, 1 ≤ x) → (r.length : Int) ≤ r.sum
  | [], _ => by simp
  | x :: r, h => by
    have h1 := h x (by simp)
    have := len_le_sum (r := r) fun y hy => h y (by simp [hy])
    rw [List.sum_cons, List.length_cons]
    omega
theorem pts_small {k n m : Nat} {r : Heap1} (h : r ∈ pts k n m) : r.length ≤ n := by
  obtain ⟨h1, h2, _⟩ := pts_mem k n m r h
  have := len_le_sum fun x hx => (h2 x hx).1
  omega
theorem pts_heap {k n m : Nat} {r : Heap1} (h : r ∈ pts k n m) : isHeap r := by
  obtain ⟨h1, h2, h3⟩ := pts_mem k n m r h
  exact ⟨h3, fun x hx => (h2 x hx).1⟩
/-! ### heaps in the order of tuples -/
def ltL : List Int → List Int → Bool
  | [], [] => false
  | [], _ :: _ => true
  | _ :: _, [] => false
  | x :: a, y :: b => decide (x < y) || (!decide (y < x) && ltL a b)
theorem toks_ltL : ∀ a b : List Int, PyProof.Rows.lexLt PyProof.Rows.itemOrd (PySem.W.keyToksAll (a.map PyData.int)) (PySem.W.keyToksAll (b.map PyData.int)) = ltL a b
  | [], [] => rfl
  | [], y :: b => rfl
  | x :: a, [] => rfl
  | x :: a, y :: b => by
    have ih := toks_ltL a b
    have e : ∀ (x : Int) (a : List Int), PySem.W.keyToksAll ((x :: a).map PyData.int) = .inl 1 :: .inl x :: PySem.W.keyToksAll (a.map PyData.int) := fun x a => rfl
    rw [e, e, PyProof.Rows.lex_self, PyProof.Rows.lex_cons, ih]
    rfl
theorem dataLt_heap (a b : Heap1) : PySem.W.dataLt (hD a) (hD b) = ltL a b := (PySem.W.dataLt_tuple _ _).trans (toks_ltL a b)
theorem alike_ints : ∀ a b : List Int, PySem.W.alikeAll (a.map PyData.int) (b.map PyData.int) = true
  | [], _ => rfl
  | _ :: _, [] => rfl
  | x :: a, y :: b => by
    rw [List.map_cons, List.map_cons, PySem.W.alikeAll, alike_ints a b]
    rfl
theorem depth_ints : ∀ a : List Int, PyData.depthAll (a.map PyData.int) ≤ 1
  | [] => by simp [PyData.depthAll]
  | x :: a => by
    have := depth_ints a
    simp only [List.map_cons, PyData.depthAll, PyData.depth]
    omega
theorem ord_ok (a b : Heap1) : SeqAt.shaped (hD a) = true ∧ SeqAt.shaped (hD b) = true ∧ PySem.W.alike (hD a) (hD b) = true ∧ PyData.depth (hD a) ≤ 64 := by
  refine ⟨sh_heap a, sh_heap b, ?_, ?_⟩
  · show PySem.W.alike (.tuple _) (.tuple _) = true
    rw [PySem.W.alike]; exact alike_ints a b
  · have := depth_ints a
    show PyData.depth (.tuple _) ≤ 64
    simp only [PyData.depth]
    omega
/-! ### how many, by coins -/
def addAt (p : Nat) (w : List Int) (a : Nat) : List Int := w.set a (w.getD a 0 + w.getD (a - p) 0)
def coinsP (n : Nat) (w : List Int) (p : Nat) : List Int := ((List.range (n + 1 - p)).map (p + ·)).foldl (addAt p) w
def coinsL (n : Nat) : List Int := ((List.range n).map (1 + ·)).foldl (coinsP n) (1 :: List.replicate n 0)
def coins (n : Nat) : Int := (coinsL n).getD n 0
theorem ltL_head {x y : Int} (a b : List Int) (h : x < y) : ltL (x :: a) (y :: b) = true := by unfold ltL; simp [h]
theorem ltL_tail (x : Int) (a b : List Int) : ltL (x :: a) (x :: b) = ltL a b := by simp [ltL]
theorem down_desc : ∀ M, (downTo M).Pairwise (· > ·)
  | 0 => List.Pairwise.nil
  | M + 1 => by
    rw [downTo_succ]
    refine List.pairwise_cons.mpr ⟨fun p hp => ?_, down_desc M⟩
    have := mem_downTo.mp hp
    omega
theorem pts_desc : ∀ k n m : Nat, (pts k n m).Pairwise fun a b => ltL b a = true
  | 0, _, _ => by rw [pts]; exact List.Pairwise.nil
  | k + 1, n, m => by
    rw [pts]
    by_cases e : n = 0
    · rw [if_pos e]; simp
    · rw [if_neg e, List.pairwise_flatMap]
      refine ⟨fun p _ => ?_, (down_desc _).imp fun {p q} hpq => ?_⟩
      · rw [List.pairwise_map]
        exact (pts_desc k (n - p) p).imp fun {a b} h => by rw [ltL_tail]; exact h
      · intro a ha b hb
        obtain ⟨a, _, rfl⟩ := List.mem_map.mp ha
        obtain ⟨b, _, rfl⟩ := List.mem_map.mp hb
        exact ltL_head _ _ (by omega)
def cntP : Nat → Nat → Nat → Nat
  | 0, _, _ => 0
  | k + 1, n, m => if n = 0 then 1 else ((downTo (min n m)).map fun p => cntP k (n - p) p).sum
theorem cntP_len : ∀ k n m : Nat, (pts k n m).length = cntP k n m
  | 0, _, _ => rfl
  | k + 1, n, m => by
    rw [pts, cntP]
    by_cases e : n = 0
    · rw [if_pos e, if_pos e]; rfl
    · rw [if_neg e, if_neg e, List.length_flatMap]
      congr 1
      apply List.map_congr_left
      intro p _
      rw [List.length_map, cntP_len k]
theorem getK_int {W : List Int} {i : Int} {k : D → Prop} (a : Nat) (e : i = (a : Int)) (h : a < W.length) (q : k (.int (W.getD a 0))) : getK (atI (W.map PyData.int) i) k := by
  subst e
  refine getK_in (atI_nat (j := a) (v := .int (W.getD a 0)) ?_) q
  rw [List.getElem?_map, List.getElem?_eq_getElem h]
  show some (PyData.int W[a]) = _
  rw [List.getD_eq_getElem?_getD, List.getElem?_eq_getElem h]
  rfl
theorem addAt_len (p : Nat) (w : List Int) (a : Nat) : (addAt p w a).length = w.length := by unfold addAt; rw [List.length_set]
theorem fold_addAt_len (p : Nat) : ∀ (l : List Nat) (w : List Int), (l.foldl (addAt p) w).length = w.length
  | [], _ => rfl
  | a :: l, w => by rw [List.foldl_cons, fold_addAt_len p l, addAt_len]
theorem fold_coinsP_len (n : Nat) : ∀ (l : List Nat) (w : List Int), (l.foldl (coinsP n) w).length = w.length
  | [], _ => rfl
  | a :: l, w => by rw [List.foldl_cons, fold_coinsP_len n l]; unfold coinsP; rw [fold_addAt_len]
theorem coinsL_len (n : Nat) : (coinsL n).length = n + 1 := by unfold coinsL; rw [fold_coinsP_len]; simp
theorem getK_last {α β : Type} {f : α → β} {xs : List α} {k : β → Prop} (h : xs ≠ []) (q : k (f (xs.getLast h))) : getK (atI (xs.map f) (-1)) k := by
  have hl := List.length_pos_iff.mpr h
  refine getK_in (d := f (xs.getLast h)) ?_ q
  unfold atI ixN
  rw [List.length_map, if_neg (by omega), if_pos (by omega)]
  show (xs.map f)[(-1 + (xs.length : Int)).toNat]? = _
  rw [show (-1 + (xs.length : Int)).toNat = xs.length - 1 from by omega, List.getElem?_map, List.getLast_eq_getElem, List.getElem?_eq_getElem (by omega)]
  rfl
theorem intsK_as {ds : List D} {ns : List Int} {k : List Int → Prop} (e : asInts ds = some ns) (q : k ns) : intsK ds k := by unfold intsK; rw [e]; exact q
theorem boolsK_as {ds : List D} {ns : List Bool} {k : List Bool → Prop} (e : asBools ds = some ns) (q : k ns) : boolsK ds k := by unfold boolsK; rw [e]; exact q
/-- neighbours -/
theorem zip_near {α : Type} {R : α → α → Prop} {xs : List α} (h : xs.Pairwise R) {p : α × α} (hp : p ∈ xs.zip (xs.drop 1)) : R p.1 p.2 := by
  obtain ⟨k, hk, e⟩ := List.getElem_of_mem hp
  rw [List.getElem_zip] at e
  rw [← e]
  simp only [List.getElem_drop]
  rw [List.length_zip, List.length_drop] at hk
  exact List.pairwise_iff_getElem.mp h k (1 + k) (by omega) (by omega) (by omega)
theorem pts_ne : ∀ k n m : Nat, n < k → (n = 0 ∨ 1 ≤ m) → pts k n m ≠ []
  | 0, _, _, h, _ => by omega
  | k + 1, n, m, h, hm => by
    rw [pts]
    by_cases e : n = 0
    · rw [if_pos e]; simp
    · rw [if_neg e]
      have ih := pts_ne k (n - 1) 1 (by omega) (.inr (Nat.le_refl _))
      obtain ⟨r, hr⟩ := List.exists_mem_of_ne_nil _ ih
      exact List.ne_nil_of_mem (List.mem_flatMap.mpr ⟨1, mem_downTo.mpr ⟨by omega, by omega⟩, List.mem_map.mpr ⟨r, hr, rfl⟩⟩)
/-! ### heaps of a rule that lie in a heap -/
def enumH {α : Type} : Nat → List α → List (Nat × α)
  | _, [] => []
  | i, x :: xs => (i, x) :: enumH (i + 1) xs
theorem pairD_map {α : Type} (f : α → D) (k : Int) : ∀ (i : Nat) (xs : List α), pairD k i (xs.map f) = (enumH i xs).map fun p => PyData.tuple [.int (k + (p.1 : Int)), f p.2]
  | i, [] => rfl
  | i, x :: xs => by
    rw [List.map_cons, enumH, List.map_cons, ← pairD_map f k (i + 1) xs]
    rfl
def allIn (r : List Heap1) (h : Heap1) : List Int := ((enumH 0 r).filter fun p => liesIn p.2 h).map fun p => (p.1 : Int)
def firstN (r : List Heap1) (h : Heap1) : Option Nat := r.findIdx? fun x => liesIn x h
def optI : Option Nat → D
  | none => .none
  | some i => .int (i : Int)
def keepB (r : List Heap1) (h : Heap1) : Bool := r.all fun x => !liesIn x h
def keptL (r : List Heap1) (n : Nat) : List Heap1 := (pts 26 n n).filter (keepB r)
theorem allIn_head0 (h : Heap1) : ∀ (i : Nat) (r : List Heap1), (((enumH i r).filter fun p => liesIn p.2 h).map fun p => (p.1 : Int)).head? = (r.findIdx? fun x => liesIn x h).map fun j => ((i + j : Nat) : Int)
  | i, [] => rfl
  | i, x :: r => by
    rw [enumH, List.filter_cons, List.findIdx?_cons]
    cases e : liesIn x h with
    | true => simp
    | false =>
      simp only [Bool.false_eq_true, if_false]
      rw [allIn_head0 h (i + 1) r]
      cases (r.findIdx? fun x => liesIn x h) with
      | none => rfl
      | some j => simp; omega
def headD : Option Int → D
  | none => .none
  | some i => .int i
theorem allIn_head (r : List Heap1) (h : Heap1) : headD (allIn r h).head? = optI (firstN r h) := by
  unfold allIn firstN
  rw [allIn_head0 h 0 r]
  cases (r.findIdx? fun x => liesIn x h) with
  | none => rfl
  | some j => simp [headD, optI]
theorem keepB_first (r : List Heap1) (h : Heap1) : keepB r h = (firstN r h).isNone := by
  unfold keepB firstN
  rw [List.findIdx?_isNone]
  congr 1
  funext x
  cases liesIn x h <;> rfl
theorem range_split {n x : Nat} {p r : List Nat} (e : List.range n = p ++ x :: r) : p = List.range x ∧ x < n := by
  have h1 : (List.range n)[p.length]? = some x := by rw [e]; simp
  have hl : p.length < n := by
    have := congrArg List.length e
    simp at this
    omega
  rw [List.getElem?_range hl] at h1
  have hx : p.length = x := by simpa using h1
  refine ⟨?_, by omega⟩
  have : p = (List.range n).take p.length := by rw [e]; simp
  rw [this, hx, List.take_range]
  congr 1
  omega
theorem getK_nat {α β : Type} {f : α → β} {xs : List α} {i : Int} {k : β → Prop} (a : Nat) (e : i = (a : Int)) (h : a < xs.length) (q : k (f xs[a])) : getK (atI (xs.map f) i) k := by
  subst e
  refine getK_in (atI_nat (j := a) (v := f xs[a]) ?_) q
  rw [List.getElem?_map, List.getElem?_eq_getElem h]
  rfl
/-! ### lists of heaps, handed over -/
def lhK (d : D) (k : List Heap1 → Prop) : Prop := (cL cHeap).K d k
theorem lhK_of {d : D} {k : List Heap1 → Prop} (h : lhK d k) : ∃ a : List Heap1, d = .list (a.map hD) ∧ k a := Cod.K_of h
theorem lhK_in {r : List Heap1} {k : List Heap1 → Prop} (q : k r) : lhK (.list (r.map hD)) k := by
  have := (cL cHeap).K_enc r k
  unfold lhK
  show (cL cHeap).K ((cL cHeap).enc r) k
  rw [this]; exact q
theorem keptL_len {r : List Heap1} {n : Nat} (h : n ≤ 24) : (keptL r n).length ≤ 8388608 := Nat.le_trans (List.length_filter_le _ _) (pts_len24 h)
end Dt

/-! # Dt: choices, by plain lists -/
namespace Dt
open PySem PySem.Spec PyProof.Rows L2
/-- those at whose place the number has a bit -/
def pickL {α : Type} : Nat → List α → List α
  | _, [] => []
  | c, x :: xs => if c % 2 = 1 then x :: pickL (c / 2) xs else pickL (c / 2) xs
def chosenL {α : Type} (xs : List α) : List (List α) := (List.range (2 ^ xs.length)).map fun c => pickL c xs
/-- the law's own: doubled -/
def choicesL : Nat → List (List Int)
  | 0 => [[]]
  | m + 1 => choicesL m ++ (choicesL m).map (· ++ [(m : Int)])
theorem pickL_map {α β : Type} (f : α → β) : ∀ (c : Nat) (xs : List α), pickL c (xs.map f) = (pickL c xs).map f
  | _, [] => rfl
  | c, x :: xs => by
    rw [List.map_cons, pickL, pickL, pickL_map f (c / 2) xs]
    split <;> rfl
theorem pickL_sub {α : Type} : ∀ (c : Nat) (xs : List α), (pickL c xs).Sublist xs
  | _, [] => List.Sublist.refl _
  | c, x :: xs => by
    rw [pickL]
    split
    · exact (pickL_sub (c / 2) xs).cons₂ x
    · exact (pickL_sub (c / 2) xs).cons x
theorem chosenL_map {α β : Type} (f : α → β) (xs : List α) : chosenL (xs.map f) = (chosenL xs).map (List.map f) := by
  unfold chosenL
  rw [List.map_map, List.length_map]
  apply List.map_congr_left
  intro c _
  exact pickL_map f c xs
theorem chosenL_len {α : Type} (xs : List α) : (chosenL xs).length = 2 ^ xs.length := by unfold chosenL; simp
theorem chosenL_sub {α : Type} {xs c : List α} (h : c ∈ chosenL xs) : c.Sublist xs := by
  unfold chosenL at h
  obtain ⟨k, _, rfl⟩ := List.mem_map.mp h
  exact pickL_sub k xs
theorem pickL_snoc {α : Type} (x : α) : ∀ (c : Nat) (xs : List α), pickL c (xs ++ [x]) = pickL c xs ++ (if c / 2 ^ xs.length % 2 = 1 then [x] else [])
  | c, [] => by simp [pickL]
  | c, y :: ys => by
    have e : c / 2 ^ (y :: ys).length = c / 2 / 2 ^ ys.length := by
      rw [List.length_cons, Nat.pow_succ, Nat.mul_comm, Nat.div_div_eq_div_mul]
    rw [List.cons_append, pickL, pickL, pickL_snoc x (c / 2) ys, e]
    split <;> rfl
theorem pickL_add {α : Type} : ∀ (k c : Nat) (xs : List α), pickL (2 ^ xs.length * k + c) xs = pickL c xs
  | _, _, [] => rfl
  | k, c, x :: xs => by
    have e1 : (2 ^ (x :: xs).length * k + c) % 2 = c % 2 := by
      rw [List.length_cons, Nat.pow_succ, Nat.mul_right_comm, Nat.add_comm, Nat.add_mul_mod_self_right]
    have e2 : (2 ^ (x :: xs).length * k + c) / 2 = 2 ^ xs.length * k + c / 2 := by
      rw [List.length_cons, Nat.pow_succ, Nat.mul_right_comm, Nat.add_comm, Nat.add_mul_div_right _ _ (by decide), Nat.add_comm]
    rw [pickL, pickL, e1, e2, pickL_add k (c / 2) xs]
theorem chosenL_snoc {α : Type} (xs : List α) (x : α) : chosenL (xs ++ [x]) = chosenL xs ++ (chosenL xs).map (· ++ [x]) := by
  unfold chosenL
  rw [List.length_append, List.length_singleton, Nat.pow_succ, Nat.mul_two, List.range_add, List.map_append, List.map_map, List.map_map]
  congr 1
  · apply List.map_congr_left
    intro c hc
    have h := List.mem_range.mp hc
    rw [pickL_snoc, Nat.div_eq_of_lt h]
    simp
  · apply List.map_congr_left
    intro c hc
    have h := List.mem_range.mp hc
    show pickL (2 ^ xs.length + c) (xs ++ [x]) = pickL c xs ++ [x]
    have e : (2 ^ xs.length + c) / 2 ^ xs.length % 2 = 1 := by
      rw [Nat.add_div_left _ (Nat.two_pow_pos _), Nat.div_eq_of_lt h]
    have e2 : pickL (2 ^ xs.length + c) xs = pickL c xs := by
      have := pickL_add 1 c xs
      rwa [Nat.mul_one] at this
    rw [pickL_snoc, if_pos e, e2]
theorem choicesL_range : ∀ m : Nat, choicesL m = chosenL ((List.range m).map fun (i : Nat) => (i : Int))
  | 0 => rfl
  | m + 1 => by
    rw [choicesL, choicesL_range m, List.range_succ, List.map_append, List.map_singleton, chosenL_snoc]
theorem choicesL_len (m : Nat) : (choicesL m).length = 2 ^ m := by rw [choicesL_range, chosenL_len]; simp
theorem pickL_at (c : Nat) {α : Type} (d : α) : ∀ (i : Nat) (xs : List α), (pickL c ((List.range' i xs.length).map fun (i : Nat) => (i : Int))).map (fun j => (List.replicate i d ++ xs).getD j.toNat d) = pickL c xs := by
  intro i xs
  rw [← pickL_map, List.map_map]
  congr 1
  apply List.ext_getElem
  · simp
  · intro j h1 h2
    rw [List.getElem_map, List.getElem_range']
    show (List.replicate i d ++ xs).getD (((i + 1 * j : Nat) : Int)).toNat d = xs[j]
    rw [Int.toNat_natCast, List.getD_eq_getElem?_getD, List.getElem?_append_right (by simp)]
    simp [h2]
/-- the numbers' choices lead to the things' choices -/
theorem chosenL_at {α : Type} (d : α) (xs : List α) : chosenL xs = (choicesL xs.length).map fun c => c.map fun j => xs.getD j.toNat d := by
  rw [choicesL_range]
  unfold chosenL
  rw [List.map_map, List.length_map, List.length_range]
  apply List.map_congr_left
  intro c _
  have := pickL_at c d 0 xs
  rw [List.replicate_zero, List.nil_append] at this
  show pickL c xs = (pickL c ((List.range xs.length).map fun (i : Nat) => (i : Int))).map fun j => xs.getD j.toNat d
  rw [List.range_eq_range', this]
theorem choicesL_mem {m : Nat} {c : List Int} (h : c ∈ choicesL m) : ∀ j ∈ c, 0 ≤ j ∧ j < m := by
  intro j hj
  rw [choicesL_range] at h
  have := (chosenL_sub h).subset hj
  obtain ⟨i, hi, rfl⟩ := List.mem_map.mp this
  have := List.mem_range.mp hi
  omega
theorem choicesL_small {m : Nat} {c : List Int} (h : c ∈ choicesL m) : c.length ≤ m := by
  rw [choicesL_range] at h
  have := (chosenL_sub h).length_le
  simpa using this
theorem pickL_enum {α : Type} (c : Nat) : ∀ (i : Nat) (xs : List α), ((enumH i xs).filter fun p => decide ((c : Int) / 2 ^ p.1 % 2 = 1)).map (·.2) = pickL (c / 2 ^ i) xs
  | _, [] => rfl
  | i, x :: xs => by
    have e : decide ((c : Int) / 2 ^ i % 2 = 1) = decide (c / 2 ^ i % 2 = 1) := by
      rw [decide_eq_decide]
      have : (c : Int) / 2 ^ i % 2 = ((c / 2 ^ i % 2 : Nat) : Int) := by simp
      omega
    have ih := pickL_enum c (i + 1) xs
    rw [Nat.pow_succ, ← Nat.div_div_eq_div_mul] at ih
    rw [enumH, List.filter_cons, pickL, ← ih]
    show List.map _ (if decide ((c : Int) / 2 ^ i % 2 = 1) = true then _ else _) = _
    rw [e]
    by_cases h : c / 2 ^ i % 2 = 1
    · simp [h]
    · simp [h]
end Dt

/-! # Dt: dicts of our own, and such that never change -/
namespace Dt
open PySem PySem.Spec PyProof.Rows L2
def keyOf : D → Option Key
  | .int i => some (.inl i)
  | .str x => some (.inr x)
  | _ => none
def keyK (d : D) (k : Key → Prop) : Prop := match keyOf d with
  | some c => k c
  | none => False
theorem keyK_of {d : D} {k : Key → Prop} (h : keyK d k) : ∃ c, keyOf d = some c ∧ k c := by
  unfold keyK at h
  split at h
  · exact ⟨_, by assumption, h⟩
  · exact h.elim
def valD (kvs : List (Key × D)) (k : Key) : Option D := (kvs.find? fun kv => decide (kv.1 = k)).map (·.2)
def putD (kvs : List (Key × D)) (k : Key) (d : D) : List (Key × D) :=
  if (kvs.any fun kv => decide (kv.1 = k)) = true then kvs.map (fun kv => if kv.1 = k then (kv.1, d) else kv) else kvs ++ [(k, d)]
def dropD (kvs : List (Key × D)) (k : Key) : List (Key × D) := kvs.filter fun kv => decide (kv.1 ≠ k)
section
variable {p : Pm} {I H : Hp}
theorem KD.any {kv : List (Key × V)} {kvs : List (Key × D)} (h : KD p I kv kvs) (k : Key) : (kv.any fun u => decide (u.1 = k)) = (kvs.any fun u => decide (u.1 = k)) := by
  induction h with
  | nil => rfl
  | cons r rr ih => rw [List.any_cons, List.any_cons, ih, r.1]
theorem KD.val {kv : List (Key × V)} {kvs : List (Key × D)} (h : KD p I kv kvs) (k : Key) : (∀ d, valD kvs k = some d → ∃ v, valV kv k = some v ∧ Dd p I v d) ∧ (valD kvs k = none → valV kv k = none) := by
  induction h with
  | nil => exact ⟨fun d z => (by cases z), fun _ => rfl⟩
  | @cons u q us qs r rr ih =>
    by_cases e : q.1 = k
    · have e' : u.1 = k := r.1.trans e
      have b : valD (q :: qs) k = some q.2 := by simp [valD, List.find?_cons, e]
      rw [valV_pos e', b]
      exact ⟨fun d z => (by cases z; exact ⟨_, rfl, r.2⟩), fun z => (by cases z)⟩
    · have e' : ¬ u.1 = k := fun z => e (r.1.symm.trans z)
      have b : valD (q :: qs) k = valD qs k := by simp [valD, List.find?_cons, e]
      rw [valV_neg e', b]
      exact ih
theorem KD.append {kv kv' : List (Key × V)} {kvs kvs' : List (Key × D)} (h : KD p I kv kvs) (h' : KD p I kv' kvs') : KD p I (kv ++ kv') (kvs ++ kvs') := by
  induction h with
  | nil => exact h'
  | cons r rr ih => exact .cons r ih
theorem KD.repl {kv : List (Key × V)} {kvs : List (Key × D)} {v : V} {d : D} (h : KD p I kv kvs) (k : Key) (r : Dd p I v d) : KD p I (kv.map fun u => if u.1 = k then (u.1, v) else u) (kvs.map fun u => if u.1 = k then (u.1, d) else u) := by
  induction h with
  | nil => exact .nil
  | @cons u q us qs r1 rr ih =>
    rw [List.map_cons, List.map_cons]
    refine .cons ?_ ih
    by_cases e : q.1 = k
    · rw [if_pos e, if_pos (r1.1.trans e)]; exact ⟨r1.1, r⟩
    · rw [if_neg e, if_neg (fun z => e (r1.1.symm.trans z))]; exact r1
theorem KD.put {kv : List (Key × V)} {kvs : List (Key × D)} {v : V} {d : D} (h : KD p I kv kvs) (k : Key) (r : Dd p I v d) : KD p I (putK kv k v) (putD kvs k d) := by
  unfold putK putD
  rw [h.any k]
  split
  · exact h.repl k r
  · exact h.append (.cons ⟨rfl, r⟩ .nil)
theorem KD.drop {kv : List (Key × V)} {kvs : List (Key × D)} (h : KD p I kv kvs) (k : Key) : KD p I (dropK kv k) (dropD kvs k) := by
  unfold dropK dropD
  induction h with
  | nil => exact .nil
  | @cons u q us qs r rr ih =>
    rw [List.filter_cons, List.filter_cons]
    by_cases e : q.1 = k
    · have e' : u.1 = k := r.1.trans e
      rw [if_neg (by rw [decide_eq_true_eq]; exact fun z => z e'), if_neg (by rw [decide_eq_true_eq]; exact fun z => z e)]; exact ih
    · have e' : ¬ u.1 = k := fun z => e (r.1.symm.trans z)
      rw [if_pos (by rw [decide_eq_true_eq]; exact e'), if_pos (by rw [decide_eq_true_eq]; exact e)]; exact .cons r ih
theorem KD.keys {kv : List (Key × V)} {kvs : List (Key × D)} (h : KD p I kv kvs) : DdAll p I (kv.map fun u => kV u.1) (kvs.map fun u => keyD u.1) := by
  induction h with
  | nil => exact .nil
  | @cons u q us qs r rr ih =>
    rw [List.map_cons, List.map_cons, r.1]
    refine .cons ?_ ih
    cases q.1 with
    | inl i => exact .int i
    | inr x => exact .str x
theorem KD.length {kv : List (Key × V)} {kvs : List (Key × D)} (h : KD p I kv kvs) : kv.length = kvs.length := Paired.length h
theorem key_rel {v : V} {d : D} {k : Key} (h : Dd1 p I H v d) (e : keyOf d = some k) : v = kV k := by
  cases d with
  | int i => cases e; exact h.int
  | str i => cases e; exact h.str
  | _ => cases e
end
/-- a frozen dict's pairs -/
def unkD : List (D × D) → Option (List (Key × D))
  | [] => some []
  | (k, d) :: r => match keyOf k with
    | some c => (match unkD r with
      | some ds => some ((c, d) :: ds)
      | none => none)
    | none => none
theorem unkD_ok {p : Pm} {I : Hp} : ∀ {kv : List (Key × V)} {ds : List (D × D)} {kvs : List (Key × D)}, DdKv p I kv ds → unkD ds = some kvs → KD p I kv kvs
  | _, _, _, .nil, h => by cases h; exact .nil
  | _, _, _, .cons (k := k) r rs, h => by
    have e : keyOf (keyD k) = some k := by cases k <;> rfl
    unfold unkD at h
    rw [e] at h
    simp only at h
    split at h
    · cases h
      exact .cons ⟨rfl, r⟩ (unkD_ok rs (by assumption))
    · cases h
/-- the pairs of a dict in hand -/
def dcs (ρ : Rho) : O → Option (List (Key × D))
  | .loc j => (match cst ρ j with
    | some (.dic kvs) => some kvs
    | some _ => none
    | none => (match dat ρ j with
      | some (.dict ((.none, .none) :: ds)) => unkD ds
      | _ => none))
  | .tmp (.dic kvs) => some kvs
  | .d (.dict ((.none, .none) :: ds)) => unkD ds
  | _ => none
def dicO (ρ : Rho) (o : O) (k : List (Key × D) → Prop) : Prop := match dcs ρ o with
  | some kvs => k kvs
  | none => False
def dicK (ρ : Rho) (j : Nat) (k : List (Key × D) → Prop) : Prop := match cst ρ j with
  | some (.dic kvs) => k kvs
  | _ => False
theorem dicO_of {ρ : Rho} {o : O} {k : List (Key × D) → Prop} (h : dicO ρ o k) : ∃ kvs, dcs ρ o = some kvs ∧ k kvs := by
  unfold dicO at h
  split at h
  · exact ⟨_, by assumption, h⟩
  · exact h.elim
theorem dicK_of {ρ : Rho} {j : Nat} {k : List (Key × D) → Prop} (h : dicK ρ j k) : ∃ kvs, cst ρ j = some (.dic kvs) ∧ k kvs := by
  unfold dicK at h
  split at h
  · exact ⟨_, by assumption, h⟩
  · exact h.elim
section
variable {p : Pm} {F F' F0 : Lab} {I I' I0 H0 H1 H H' : Hp} {σ : L2.St} {ρ ρ' : Rho} {v w : V} {o : O} {d : D}
theorem frz_dict {kvs : List (Key × D)} {ds : List (D × D)} (s : Same I H) (r : Dd p I v (.dict ((.none, .none) :: ds))) (h : unkD ds = some kvs) : ∃ a kv, v = .ref a ∧ H a = some (.dK kv) ∧ KD p I kv kvs := by
  cases r with
  | dic e q => exact ⟨_, _, rfl, s _ _ e, unkD_ok q h⟩
theorem dcs_ok {kvs : List (Key × D)} (R : Rel p F I H σ ρ) (r : ResOk p F I H0 H σ v o) (h : dcs ρ o = some kvs) : ∃ a kv, v = .ref a ∧ H a = some (.dK kv) ∧ KD p I kv kvs := by
  cases o with
  | loc j =>
    have h : (match cst ρ j with
      | some (.dic kvs) => some kvs
      | some _ => none
      | none => (match dat ρ j with
        | some (.dict ((.none, .none) :: ds)) => unkD ds
        | _ => none)) = some kvs := h
    split at h
    · rename_i ks q
      cases h
      obtain ⟨a, e, fp, ⟨_, kv, h1, h2⟩, _⟩ := R.cst r q
      exact ⟨a, kv, e, h1, h2⟩
    · cases h
    · split at h
      · rename_i q
        unfold dat at q
        split at q
        · rename_i q2
          cases q
          obtain ⟨u, h1, h2⟩ := R.slot j _ q2
          have r : σ[j]? = some (some v) := r
          rw [r] at h1; cases h1
          exact frz_dict R.sub h2 h
        · cases q
      · cases h
  | tmp c =>
    cases c with
    | dic ks =>
      cases h
      obtain ⟨a, e, fp, ⟨_, kv, h1, h2⟩, _⟩ := r
      exact ⟨a, kv, e, h1, h2⟩
    | _ => cases h
  | d d =>
    unfold dcs at h
    split at h
    · rename_i hh; cases hh
    · rename_i hh; cases hh
    · rename_i hh; cases hh
      exact frz_dict R.sub r h
    · cases h
  | exc x => cases h
/-- slot j's dict is rewritten -/
theorem mutD_ok {j : Nat} {a : Addr} {ds ds' : List (Key × D)} {vs' : List (Key × V)} (R : Rel p F I H σ ρ) (e : σ[j]? = some (some (.ref a))) (hc : cst ρ j = some (.dic ds)) (r : KD p I vs' ds') :
    Rel p F I (upd H a (.dK vs')) σ (putC ρ j (.dic ds')) ∧ Step F I H F I (upd H a (.dK vs')) := by
  obtain ⟨a', q, fp, ⟨rfl, ws, g1, g2⟩, g3⟩ := R.cst e hc
  cases q
  obtain ⟨f1, f2, _, f4⟩ := g3 a (by simp)
  have hi : ∀ b y, I b = some y → b ≠ a := fun b y z q => by rw [q, f2] at z; cases z
  have hne : ∀ b i, F b = some i → i ≠ j → b ≠ a := fun b i z n q => by rw [q, f1] at z; cases z; exact n rfl
  have th : ∀ b, H b ≠ none → (upd H a (.dK vs')) b ≠ none := fun b z => by
    by_cases hb : b = a
    · subst hb; rw [upd_same]; simp
    · rw [upd_ne hb]; exact z
  have own : Own p F I (upd H a (.dK vs')) (some j) (fun _ => True) a (.dic ds') := ⟨[a], ⟨rfl, vs', upd_same, r⟩, fun b hb => by
    have e : b = a := by simpa using hb
    subst e
    exact ⟨f1, f2, trivial, by rw [upd_same]; simp⟩⟩
  have hp : ∃ s, putC ρ j (.dic ds') = ρ.set j (some s) ∧ SlotOk p F I (upd H a (.dK vs')) j (.ref a) s := by
    unfold cst at hc
    split at hc
    · rename_i q
      exact ⟨.own (.dic ds'), by unfold putC; rw [q], a, rfl, own⟩
    · rename_i a0 c0 q
      obtain ⟨u, y1, y2, _⟩ := R.slot j _ q
      rw [e] at y1; cases y1; cases y2
      exact ⟨.lent a (.dic ds'), by unfold putC; rw [q], rfl, own⟩
    · cases hc
  obtain ⟨s, hp, hs⟩ := hp
  refine ⟨⟨fun b y z => by rw [upd_ne (hi b y z)]; exact R.sub b y z, fun b i z => ⟨(R.lab b i z).1, th b (R.lab b i z).2⟩, by rw [hp, List.length_set]; exact R.len, fun i sl z => ?_⟩,
    ⟨fun b y z n => by rw [upd_ne (fun q => by rw [q, f1] at n; cases n)]; exact z, fun _ _ z => z, fun _ z => .inl z, fun _ _ z => .inl z, th⟩⟩
  rw [hp] at z
  by_cases hij : j = i
  · subst hij
    have hj : j < ρ.length := by rw [R.len]; exact (List.getElem?_eq_some_iff.mp e).1
    rw [List.getElem?_set_self hj] at z
    cases z
    exact ⟨_, e, hs⟩
  · rw [List.getElem?_set_ne hij] at z
    obtain ⟨u, h1, h2⟩ := R.slot i sl z
    refine ⟨u, h1, ?_⟩
    have ow : ∀ {b : Addr} {c : C}, Own p F I H (some i) (fun _ => True) b c → Own p F I (upd H a (.dK vs')) (some i) (fun _ => True) b c := fun {b c} ⟨fp, g1, g2⟩ =>
      ⟨fp, g1.keep (fun z hz => upd_ne (hne z i (g2 z hz).1 (fun y => hij y.symm))) (fun _ _ e => e), fun z hz => ⟨(g2 z hz).1, (g2 z hz).2.1, trivial, th z (g2 z hz).2.2.2⟩⟩
    cases sl with
    | d d => exact h2
    | own c => obtain ⟨b, e, h2⟩ := h2; exact ⟨b, e, ow h2⟩
    | lent b c => exact ⟨h2.1, ow h2.2⟩
    | exc x => exact h2
/-- a new dict -/
theorem Kont.dic {P : O → Prop} {Q : VK} {kv : List (Key × V)} {kvs : List (Key × D)} {q : Addr} (k : Kont p F I H σ ρ P Q) (R : Rel p F I H σ ρ) (h : P (.tmp (.dic kvs))) (r : KD p I kv kvs) (n : H q = none) : Q (.ref q) (upd H q (.dK kv)) := by
  obtain ⟨R', S⟩ := R.newT (x := .dK kv) n
  refine k _ _ _ _ h S R' ⟨q, rfl, [q], ⟨rfl, kv, upd_same, r⟩, fun b hb => ?_⟩
  have e : b = q := by simpa using hb
  subst e
  exact ⟨R.lab0 n, R.fresh n, n, by rw [upd_same]; simp⟩
end
/-! ### readings -/
def dDNew : DE := fun ρ P _ => P (.tmp (.dic [])) ρ
def dDGet (fa fb : DE) : DE := fun ρ P PX => fa ρ (fun o ρ1 => fb ρ1 (fun o2 ρ2 => vw1 ρ2 o2 fun e => keyK e fun k => dicO ρ2 o fun kvs => getK (valD kvs k) fun d => P (.d d) ρ2) PX) PX
def dDIn (neg : Bool) (fb fa : DE) : DE := fun ρ P PX => fb ρ (fun o2 ρ1 => fa ρ1 (fun o ρ2 => vw1 ρ2 o2 fun e => keyK e fun k => dicO ρ2 o fun kvs => P (.d (.bool (if neg then !(valD kvs k).isSome else (valD kvs k).isSome))) ρ2) PX) PX
def dDPut (fe fa fb : DE) : DS := fun E ρ => fe ρ (fun o ρ1 => onlyd1 o fun d => fa ρ1 (fun o2 ρ2 => locK o2 fun j => fb ρ2 (fun o3 ρ3 => vw1 ρ3 o3 fun e => keyK e fun k => dicK ρ3 j fun kvs => kvs.length ≤ 16000000 ∧ E.nx (putC ρ3 j (.dic (putD kvs k d)))) E.ex) E.ex) E.ex
def dDGet2 (fa fb fc : DE) : DE := fun ρ P PX => fa ρ (fun o ρ1 => dicO ρ1 o (fun _ => True) ∧ fb ρ1 (fun o2 ρ2 => fc ρ2 (fun o3 ρ3 => onlyd1 o3 fun d0 => vw1 ρ3 o2 fun e => keyK e fun k => dicO ρ3 o fun kvs => P (.d ((valD kvs k).getD d0)) ρ3) PX) PX) PX
def dDPop (fa fb : DE) : DE := fun ρ P PX => fa ρ (fun o ρ1 => locK o fun j => dicK ρ1 j (fun _ => True) ∧ fb ρ1 (fun o2 ρ2 => vw1 ρ2 o2 fun e => keyK e fun k => dicK ρ2 j fun kvs => getK (valD kvs k) fun d => P (.d d) (putC ρ2 j (.dic (dropD kvs k)))) PX) PX
def dDList (fa : DE) : DE := fun ρ P PX => fa ρ (fun o ρ1 => dicO ρ1 o fun kvs => P (.tmp (.lst (kvs.map fun u => keyD u.1))) ρ1) PX
def dDCopy (fa : DE) : DE := fun ρ P PX => fa ρ (fun o ρ1 => dicO ρ1 o fun kvs => P (.tmp (.dic kvs)) ρ1) PX
def dDLen (fa : DE) : DE := fun ρ P PX => fa ρ (fun o ρ1 => dicO ρ1 o fun kvs => P (.d (.int kvs.length)) ρ1) PX
section
variable {X : Cx} {G : V → Nat → Option Addr → Prop} {W : WX} {pos pos' tpos apos cpos : Pos} {a b c e : Expr} {fa fb fc fe : DE}
theorem e_dnew : PEd X G W (.Dict [] [] pos) dDNew := PE.weak pe_dnewK fun σ H Q q => by
  obtain ⟨F, I, ρ, P, PX, R, f1, k, x⟩ := q
  intro a n
  exact Kont.dic (P := fun o => P o ρ) (fun o v' I' H' h s' R' r' => k o ρ v' F I' H' h s' R' r') R f1 .nil n
theorem e_dget (hu : X.A.units + 1 < cLine) (ha : PEd X G W a fa) (hb : PEd X G W b fb) (hs : NoSl b := by exact fun _ _ => rfl) : PEd X G W (.Subscript a b pos) (dDGet fa fb) := PE.weak (pe_dget hu ha hb hs) fun σ H Q q => by
  obtain ⟨F, I, ρ, P, PX, R, f1, k, x⟩ := q
  refine ⟨F, I, ρ, _, PX, R, f1, fun o ρ1 v F1 I1 H1 f2 s1 R1 r1 => ?_, x⟩
  refine ⟨F1, I1, ρ1, _, PX, R1, f2, fun o2 ρ2 w F2 I2 H2 f3 s2 R2 r2 => ?_, x.later s1⟩
  obtain ⟨d2, e2, f3⟩ := vw1_of f3
  obtain ⟨c, e3, f3⟩ := keyK_of f3
  obtain ⟨kvs, e4, f3⟩ := dicO_of f3
  obtain ⟨d, e5, f3⟩ := getK_of f3
  obtain ⟨a, kv, rfl, h1, h2⟩ := dcs_ok R2 (r1.stay s2) e4
  obtain ⟨v, h3, h4⟩ := (h2.val c).1 d e5
  rw [key_rel (vw_ok R2 r2 e2) e3]
  exact ⟨a, v, rfl, by rw [← h3]; exact DGet.k h1, k _ ρ2 v F2 I2 H2 f3 (s1.trans s2) R2 h4⟩
theorem e_din0 (neg : Bool) {t : TE} (hb : PEd X G W b fb) (ha : PEd X G W a fa) (σ : L2.St) (H : Hp) (Q : VK) (q : tE (pm X G) W (dDIn neg fb fa) σ H Q) :
    tE (pm X G) W fb σ H fun y H1 => tE (pm X G) W fa σ H1 fun x H2 => ∃ a o, x = .ref a ∧ DGet H2 a y o ∧ Q (.bl (if neg then !o.isSome else o.isSome)) H2 := by
  obtain ⟨F, I, ρ, P, PX, R, f1, k, x⟩ := q
  refine ⟨F, I, ρ, _, PX, R, f1, fun o2 ρ1 w F1 I1 H1 f2 s1 R1 r1 => ?_, x⟩
  refine ⟨F1, I1, ρ1, _, PX, R1, f2, fun o ρ2 v F2 I2 H2 f3 s2 R2 r2 => ?_, x.later s1⟩
  obtain ⟨d2, e2, f3⟩ := vw1_of f3
  obtain ⟨c, e3, f3⟩ := keyK_of f3
  obtain ⟨kvs, e4, f3⟩ := dicO_of f3
  obtain ⟨a, kv, rfl, h1, h2⟩ := dcs_ok R2 r2 e4
  rw [key_rel (vw_ok R2 (r1.stay s2) e2) e3]
  refine ⟨a, valV kv c, rfl, DGet.k h1, ?_⟩
  have e5 : (valV kv c).isSome = (valD kvs c).isSome := by
    cases q : valD kvs c with
    | none => rw [(h2.val c).2 q]; rfl
    | some d => obtain ⟨v, h3, _⟩ := (h2.val c).1 d q; rw [h3]; rfl
  rw [e5]
  exact k _ ρ2 _ F2 I2 H2 f3 (s1.trans s2) R2 (Dd.bl _)
theorem e_din (hu : X.A.units + 1 < cLine) (hb : PEd X G W b fb) (ha : PEd X G W a fa) (hm : behindInMarks .In a = false) : PEd X G W (.Compare b [.In] [a] pos) (dDIn false fb fa) := PE.weak (pe_cmp (pc_din hu hb ha) hm) fun σ H Q q => e_din0 (t := tE (pm X G) W fa) false hb ha σ H Q q
theorem e_dnotin (hu : X.A.units + 1 < cLine) (hb : PEd X G W b fb) (ha : PEd X G W a fa) (hm : behindInMarks .NotIn a = false) : PEd X G W (.Compare b [.NotIn] [a] pos) (dDIn true fb fa) := PE.weak (pe_cmp (pc_dnotin hu hb ha) hm) fun σ H Q q => e_din0 (t := tE (pm X G) W fa) true hb ha σ H Q q
theorem t_din (hu : X.A.units + 1 < cLine) (hb : PEd X G W b fb) (ha : PEd X G W a fa) (hm : behindInMarks .In a = false) : PTd X G W (.Compare b [.In] [a] pos) (dBl (dDIn false fb fa)) := PT.weak (pt_cmp (pc_din hu hb ha) hm) fun σ H Q q => w_bl (fun σ H Q q => e_din0 (t := tE (pm X G) W fa) false hb ha σ H Q q) σ H Q q
theorem t_dnotin (hu : X.A.units + 1 < cLine) (hb : PEd X G W b fb) (ha : PEd X G W a fa) (hm : behindInMarks .NotIn a = false) : PTd X G W (.Compare b [.NotIn] [a] pos) (dBl (dDIn true fb fa)) := PT.weak (pt_cmp (pc_dnotin hu hb ha) hm) fun σ H Q q => w_bl (fun σ H Q q => e_din0 (t := tE (pm X G) W fa) true hb ha σ H Q q) σ H Q q
theorem z_dput (hu : X.A.units + 1 < cLine) (he : PEd X G W e fe) (ha : PEd X G W a fa) (hb : PEd X G W b fb) (hs : swapsWith e (some (.Subscript a b tpos)) pos.line X.env = pure false := by rfl) : PSd X G W (.Assign [.Subscript a b tpos] e pos) (dDPut fe fa fb) :=
  PS.weak (ps_dput hu ha hb he hs) fun D σ H q => by
    obtain ⟨F, I, ρ, E, R, f1, k⟩ := q
    have sl : (sizeLine : Nat) = 16777216 := sizeLine_eq
    refine ⟨F, I, ρ, _, E.ex, R, f1, fun o ρ1 v F1 I1 H1 f2 s1 R1 r1 => ?_, k.xend⟩
    obtain ⟨d, rfl, f2⟩ := onlyd1_of f2
    refine ⟨F1, I1, ρ1, _, E.ex, R1, f2, fun o2 ρ2 w F2 I2 H2 f3 s2 R2 r2 => ?_, (k.later s1).xend⟩
    obtain ⟨j, rfl, f3⟩ := locK_of f3
    have s12 := s1.trans s2
    refine ⟨F2, I2, ρ2, _, E.ex, R2, f3, fun o3 ρ3 u F3 I3 H3 f4 s3 R3 r3 => ?_, (k.later s12).xend⟩
    obtain ⟨d3, e3, f4⟩ := vw1_of f4
    obtain ⟨c, e4, f4⟩ := keyK_of f4
    obtain ⟨kvs, e5, hl, f4⟩ := dicK_of f4
    obtain ⟨a, rfl, fp, ⟨_, kv, h1, h2⟩, _⟩ := R3.cst r2 e5
    rw [key_rel (vw_ok R3 r3 e3) e4]
    have r1' : Dd (pm X G) I3 v d := Dd.mono (s2.trans s3).inc r1
    obtain ⟨R4, s4⟩ := mutD_ok R3 r2 e5 (h2.put c r1')
    exact ⟨a, _, rfl, DPut.k h1 (by rw [h2.length]; omega), k.nx _ σ F3 I3 _ f4 ((s12.trans s3).trans s4) R4⟩
theorem e_dget2 (hu : X.A.units + 1 < cLine) (ha : PEd X G W a fa) (hb : PEd X G W b fb) (hc : PEd X G W c fc) (m : M2 X a "get" apos b c cpos := by exact ⟨rfl, rfl, rfl, rfl⟩) : PEd X G W (.Call (.Attribute a "get" apos) [b, c] [] cpos) (dDGet2 fa fb fc) := PE.weak (pe_dget2 hu ha hb hc m) fun σ H Q q => by
  obtain ⟨F, I, ρ, P, PX, R, f1, k, x⟩ := q
  refine ⟨F, I, ρ, _, PX, R, f1, fun o ρ1 v F1 I1 H1 f2 s1 R1 r1 => ?_, x⟩
  obtain ⟨f0, f2⟩ := f2
  obtain ⟨kvs0, e0, _⟩ := dicO_of f0
  obtain ⟨a, kv0, rfl, h0, _⟩ := dcs_ok R1 r1 e0
  refine ⟨a, rfl, .inl ⟨_, .inl h0⟩, F1, I1, ρ1, _, PX, R1, f2, fun o2 ρ2 w F2 I2 H2 f3 s2 R2 r2 => ?_, x.later s1⟩
  have s12 := s1.trans s2
  refine ⟨F2, I2, ρ2, _, PX, R2, f3, fun o3 ρ3 u F3 I3 H3 f4 s3 R3 r3 => ?_, x.later s12⟩
  obtain ⟨d0, rfl, f4⟩ := onlyd1_of f4
  obtain ⟨d2, e2, f4⟩ := vw1_of f4
  obtain ⟨c, e3, f4⟩ := keyK_of f4
  obtain ⟨kvs, e4, f4⟩ := dicO_of f4
  obtain ⟨a', kv, q, h1, h2⟩ := dcs_ok R3 ((r1.stay s2).stay s3) e4
  cases q
  rw [key_rel (vw_ok R3 (r2.stay s3) e2) e3]
  refine ⟨valV kv c, DGet.k h1, k _ ρ3 _ F3 I3 H3 f4 (s12.trans s3) R3 ?_⟩
  cases q : valD kvs c with
  | none => rw [(h2.val c).2 q]; exact r3
  | some d => obtain ⟨v, h3, h4⟩ := (h2.val c).1 d q; rw [h3]; exact h4
theorem e_dpop (ha : PEd X G W a fa) (hb : PEd X G W b fb) (m : M1 X a "pop" apos b cpos := by exact ⟨rfl, rfl, rfl, rfl⟩) : PEd X G W (.Call (.Attribute a "pop" apos) [b] [] cpos) (dDPop fa fb) := PE.weak (pe_dpop1 ha hb m) fun σ H Q q => by
  obtain ⟨F, I, ρ, P, PX, R, f1, k, x⟩ := q
  refine ⟨F, I, ρ, _, PX, R, f1, fun o ρ1 v F1 I1 H1 f2 s1 R1 r1 => ?_, x⟩
  obtain ⟨j, rfl, f0, f2⟩ := locK_of f2
  obtain ⟨kvs0, e0, _⟩ := dicK_of f0
  obtain ⟨a, rfl, fp, ⟨_, kv0, h0, _⟩, _⟩ := R1.cst r1 e0
  refine ⟨a, rfl, .inl ⟨_, .inl h0⟩, F1, I1, ρ1, _, PX, R1, f2, fun o2 ρ2 w F2 I2 H2 f3 s2 R2 r2 => ?_, x.later s1⟩
  obtain ⟨d2, e2, f3⟩ := vw1_of f3
  obtain ⟨c, e3, f3⟩ := keyK_of f3
  obtain ⟨kvs, e4, f3⟩ := dicK_of f3
  obtain ⟨d, e5, f3⟩ := getK_of f3
  obtain ⟨a', q, fp, ⟨_, kv, h1, h2⟩, _⟩ := R2.cst r1 e4
  cases q
  obtain ⟨v, h3, h4⟩ := (h2.val c).1 d e5
  rw [key_rel (vw_ok R2 r2 e2) e3]
  obtain ⟨R4, s4⟩ := mutD_ok R2 r1 e4 (h2.drop c)
  exact ⟨kv, c, v, h1, rfl, h3, k _ _ v F2 I2 _ f3 ((s1.trans s2).trans s4) R4 h4⟩
theorem w_dlist {p : Pm} {r : List V → Hp → VK → Prop} {f : List (Key × D) → O} (hr : ∀ (F : Lab) (I H : Hp) (σ : L2.St) (ρ : Rho) (P : O → Prop) (Q : VK) (a : Addr) (kv : List (Key × V)) (kvs : List (Key × D)), Rel p F I H σ ρ → H a = some (.dK kv) → KD p I kv kvs → P (f kvs) → Kont p F I H σ ρ P Q → r [.ref a] H Q)
    (σ : L2.St) (H : Hp) (Q : VK) (q : tE p W (fun ρ P PX => fa ρ (fun o ρ1 => dicO ρ1 o fun kvs => P (f kvs) ρ1) PX) σ H Q) : tCB r (tCons (tE p W fa) tNil) σ H Q := by
  obtain ⟨F, I, ρ, P, PX, R, f1, k, x⟩ := q
  refine ⟨F, I, ρ, _, PX, R, f1, fun o ρ1 v F1 I1 H1 f2 s1 R1 r1 => ?_, x⟩
  obtain ⟨kvs, e, f2⟩ := dicO_of f2
  obtain ⟨a, kv, rfl, h1, h2⟩ := dcs_ok R1 r1 e
  exact hr F1 I1 H1 σ ρ1 (fun o => P o ρ1) Q a kv kvs R1 h1 h2 f2 fun o v' I' H' h s' R' r' => k o ρ1 v' F1 I' H' h (s1.trans s') R' (r'.older fun b e => s1.old e)
theorem e_dlist (hc : X.calm = true) (hg : Gl X "list") (hm : X.mg "list" = none) (ha : PEd X G W a fa) (he : starEach [a] X.env = (false, eval a X.env) :: starEach [] X.env := by rfl) (hpl : (backTo pos (starEach [] X.env)).any (·.1) = false := by rfl) :
    PEd X G W (.Call (.Name "list" pos') [a] [] pos) (dDList fa) := PE.weak (pe_callTy (call_listD hc) hg hm (by decide +kernel) (pa_cons ha pa_nil he) (by decide) (by decide) he hpl) fun σ H Q q =>
  w_dlist (f := fun (kvs : List (Key × D)) => O.tmp (C.lst (kvs.map fun (u : Key × D) => keyD u.1))) (fun F I H σ ρ P Q a kv kvs R h1 h2 h k => ⟨a, kv, rfl, .inl h1, fun q n => k.lst R h h2.keys n⟩) σ H Q q
theorem call_copyD : CallR X (.type "dict") (fun xs H Q => ∃ (a : Addr) (kvs : List (Key × V)), xs = [.ref a] ∧ Rd H a (.dK kvs) ∧ ∀ p, H p = none → Q (.ref p) (upd H p (.dK kvs))) := by
  intro pins s σ H xs us Q I r q
  obtain ⟨a, kvs, ex, hd, q⟩ := q
  subst ex
  obtain ⟨u, eu, rx⟩ := vals1 r
  subst eu
  cases rx
  exact d_copyOf I hd fun p s' n I' => ⟨.ref p, _, I', rfl, q p n⟩
theorem e_dcopy (hg : Gl X "dict") (hm : X.mg "dict" = none) (ha : PEd X G W a fa) (he : starEach [a] X.env = (false, eval a X.env) :: starEach [] X.env := by rfl) (hpl : (backTo pos (starEach [] X.env)).any (·.1) = false := by rfl) :
    PEd X G W (.Call (.Name "dict" pos') [a] [] pos) (dDCopy fa) := PE.weak (pe_callTy call_copyD hg hm (by decide +kernel) (pa_cons ha pa_nil he) (by decide) (by decide) he hpl) fun σ H Q q =>
  w_dlist (f := fun (kvs : List (Key × D)) => O.tmp (C.dic kvs)) (fun F I H σ ρ P Q a kv kvs R h1 h2 h k => ⟨a, kv, rfl, .inl h1, fun q n => k.dic R h h2 n⟩) σ H Q q
end
/-! ### plain -/
theorem valD_put (kvs : List (Key × D)) (k j : Key) (y : D) : valD (putD kvs k y) j = if j = k then some y else valD kvs j := by
  have snoc : ∀ kvs : List (Key × D), (kvs.any fun kv => decide (kv.1 = k)) = false → valD (kvs ++ [(k, y)]) j = if j = k then some y else valD kvs j := fun kvs h => by
    induction kvs with
    | nil =>
      unfold valD
      by_cases e : j = k
      · simp [e]
      · have : ¬ k = j := fun z => e z.symm
        simp [e, this]
    | cons q r ih =>
      rw [List.any_cons, Bool.or_eq_false_iff] at h
      have ih := ih h.2
      have hk : ¬ q.1 = k := by simpa using h.1
      unfold valD at ih ⊢
      rw [List.cons_append, List.find?_cons, List.find?_cons]
      by_cases e : q.1 = j
      · have : ¬ j = k := fun z => hk (e.trans z)
        simp [e, this]
      · simp only [e, decide_false]
        exact ih
  have repl : ∀ kvs : List (Key × D), valD (kvs.map fun kv => if kv.1 = k then (kv.1, y) else kv) j = (valD kvs j).map fun x => if j = k then y else x := fun kvs => by
    induction kvs with
    | nil => rfl
    | cons q r ih =>
      unfold valD at ih ⊢
      rw [List.map_cons, List.find?_cons, List.find?_cons]
      have e1 : (if q.1 = k then (q.1, y) else q).1 = q.1 := by split <;> rfl
      rw [e1]
      by_cases e : q.1 = j
      · simp only [e, decide_true, Option.map_some]
        by_cases h : j = k
        · simp [h]
        · simp [h]
      · simp only [e, decide_false]
        exact ih
  unfold putD
  split
  · rename_i h
    rw [repl]
    by_cases e : j = k
    · subst e
      have : (valD kvs j).isSome = true := by
        unfold valD
        rw [Option.isSome_map, List.find?_isSome]
        obtain ⟨x, hx, hx2⟩ := List.any_eq_true.mp h
        exact ⟨x, hx, hx2⟩
      obtain ⟨z, hz⟩ := Option.isSome_iff_exists.mp this
      rw [hz]; simp
    · cases valD kvs j <;> simp [e]
  · rename_i h
    exact snoc kvs (Bool.eq_false_iff.mpr h)
theorem units1 {k : Nat} {A : Around} (r : Room k A) : A.units + 1 < cLine := by have := r.un; omega
theorem units1H {k : Nat} {A : Around} (r : L2H.RoomH k A) : A.units + 1 < cLine := by have := r.un; omega
end Dt

/-! # Dt: joined heaps, by plain lists -/
namespace Dt
open PySem PySem.Spec PyProof.Rows L2
/-- each once, in the order of their first standing -/
def addNew (s : List Int) (x : Int) : List Int := if x ∈ s then s else s ++ [x]
def seenL (xs : List Int) : List Int := xs.foldl addNew []
theorem seen_from : ∀ (xs s : List Int), s.Nodup → (xs.foldl addNew s).Nodup ∧ (∀ y, y ∈ xs.foldl addNew s ↔ y ∈ s ∨ y ∈ xs) ∧ (xs.foldl addNew s).length ≤ s.length + xs.length
  | [], s, h => ⟨h, by simp, by simp⟩
  | x :: xs, s, h => by
    have h1 : (addNew s x).Nodup := by
      unfold addNew
      split
      · exact h
      · rename_i hx
        exact List.nodup_append.mpr ⟨h, by simp, by simp; intro a ha e; exact hx (e ▸ ha)⟩
    have h2 : ∀ y, y ∈ addNew s x ↔ y ∈ s ∨ y = x := by
      intro y
      unfold addNew
      split
      · rename_i hx
        exact ⟨.inl, fun q => q.elim id fun q => q ▸ hx⟩
      · simp
    have h3 : (addNew s x).length ≤ s.length + 1 := by
      unfold addNew
      split <;> simp
    obtain ⟨i1, i2, i3⟩ := seen_from xs (addNew s x) h1
    refine ⟨i1, fun y => ?_, ?_⟩
    · rw [List.foldl_cons, i2, h2]; simp [or_assoc]
    · rw [List.foldl_cons]; simp; omega
theorem seenL_nodup (xs : List Int) : (seenL xs).Nodup := (seen_from xs [] (by simp)).1
theorem seenL_mem {xs : List Int} {y : Int} : y ∈ seenL xs ↔ y ∈ xs := by
  have := (seen_from xs [] (by simp)).2.1 y
  unfold seenL
  simpa using this
theorem seenL_len (xs : List Int) : (seenL xs).length ≤ xs.length := by
  have := (seen_from xs [] (by simp)).2.2
  unfold seenL
  simpa using this
theorem seenL_snoc (xs : List Int) (x : Int) : seenL (xs ++ [x]) = addNew (seenL xs) x := by unfold seenL; rw [List.foldl_append]; rfl
/-- the parts of some heaps, each once, falling -/
def partsL (r : List Heap1) : List Int := (srt (seenL r.flatten)).reverse
theorem partsL_nodup (r : List Heap1) : (partsL r).Nodup := (perm_srtR _).nodup_iff.mpr (seenL_nodup _)
theorem partsL_mem {r : List Heap1} {y : Int} : y ∈ partsL r ↔ ∃ h ∈ r, y ∈ h := by
  unfold partsL
  rw [mem_srtR, seenL_mem, List.mem_flatten]
theorem partsL_down (r : List Heap1) : (partsL r).Pairwise (· ≥ ·) := down_srtR _
theorem partsL_len (r : List Heap1) : (partsL r).length ≤ r.flatten.length := by
  unfold partsL; rw [len_srtR]; exact seenL_len _
/-- how often at most, in one of them -/
def mxC (r : List Heap1) (x : Int) : Nat := (r.map fun h => h.count x).foldr max 0
theorem mxC_ge {r : List Heap1} {h : Heap1} (hh : h ∈ r) (x : Int) : h.count x ≤ mxC r x := by
  unfold mxC
  induction r with
  | nil => cases hh
  | cons g r ih =>
    rw [List.map_cons, List.foldr_cons]
    rcases List.mem_cons.mp hh with rfl | hh
    · omega
    · have := ih hh; omega
theorem mxC_le {r : List Heap1} {x : Int} {n : Nat} (h : ∀ g ∈ r, g.count x ≤ n) : mxC r x ≤ n := by
  unfold mxC
  induction r with
  | nil => simp
  | cons g r ih =>
    rw [List.map_cons, List.foldr_cons]
    have := h g (by simp)
    have := ih fun g hg => h g (by simp [hg])
    omega
theorem mxC_snoc (r : List Heap1) (h : Heap1) (x : Int) : mxC (r ++ [h]) x = max (mxC r x) (h.count x) := by
  apply Nat.le_antisymm
  · refine mxC_le fun g hg => ?_
    rcases List.mem_append.mp hg with hg | hg
    · have := mxC_ge hg x; omega
    · rw [List.mem_singleton.mp hg]; omega
  · have : mxC r x ≤ mxC (r ++ [h]) x := mxC_le fun g hg => mxC_ge (by simp [hg]) x
    have := mxC_ge (r := r ++ [h]) (h := h) (by simp) x
    omega
theorem mxC_flat {r : List Heap1} {x : Int} : mxC r x ≤ r.flatten.count x := mxC_le fun g hg => by
  induction r with
  | nil => cases hg
  | cons a r ih =>
    rw [List.flatten_cons, List.count_append]
    rcases List.mem_cons.mp hg with rfl | hg
    · omega
    · have := ih hg; omega
theorem mxC_pos {r : List Heap1} {x : Int} (h : 0 < mxC r x) : ∃ g ∈ r, x ∈ g := by
  rcases Classical.em (∃ g ∈ r, x ∈ g) with q | q
  · exact q
  · have : mxC r x ≤ 0 := mxC_le fun g hg => by
      rw [List.count_eq_zero.mpr fun hx => q ⟨g, hg, hx⟩]; exact Nat.le_refl _
    omega
theorem mxC_at : ∀ {r : List Heap1} (hr : r ≠ []) (x : Int), ∃ g ∈ r, g.count x = mxC r x
  | [], hr, _ => absurd rfl hr
  | [g], _, x => ⟨g, by simp, by unfold mxC; simp⟩
  | g :: h :: r, _, x => by
    obtain ⟨a, ha, e2⟩ := mxC_at (r := h :: r) (by simp) x
    have e : mxC (g :: h :: r) x = max (g.count x) (mxC (h :: r) x) := rfl
    rcases Nat.le_total (g.count x) (mxC (h :: r) x) with q | q
    · exact ⟨a, by simp only [List.mem_cons] at ha ⊢; exact .inr ha, by omega⟩
    · exact ⟨g, by simp, by omega⟩
theorem mxC_mxL {r : List Heap1} (hr : r ≠ []) (x : Int) : mxL (r.map fun h => ((h.count x : Nat) : Int)) = (mxC r x : Nat) := by
  symm
  refine mxL_eq ?_ fun y hy => ?_
  · obtain ⟨g, hg, e⟩ := mxC_at hr x
    exact List.mem_map.mpr ⟨g, hg, by rw [e]⟩
  · obtain ⟨g, hg, rfl⟩ := List.mem_map.mp hy
    have := mxC_ge hg x
    omega
/-- each part as often as told -/
def repL (f : Int → Nat) (ps : List Int) : List Int := ps.flatMap fun x => List.replicate (f x) x
theorem repL_count (f : Int → Nat) (x : Int) : ∀ {ps : List Int}, ps.Nodup → (repL f ps).count x = if x ∈ ps then f x else 0
  | [], _ => rfl
  | p :: ps, h => by
    have ih := repL_count f x (List.nodup_cons.mp h).2
    have hp := (List.nodup_cons.mp h).1
    show (List.replicate (f p) p ++ repL f ps).count x = _
    rw [List.count_append, ih, List.count_replicate]
    by_cases e : p = x
    · subst e
      simp [hp]
    · have e2 : x ≠ p := fun z => e z.symm
      simp [e, e2]
theorem repL_down (f : Int → Nat) : ∀ {ps : List Int}, ps.Pairwise (· ≥ ·) → (repL f ps).Pairwise (· ≥ ·)
  | [], _ => List.Pairwise.nil
  | p :: ps, h => by
    have hp := List.pairwise_cons.mp h
    show (List.replicate (f p) p ++ repL f ps).Pairwise _
    refine List.pairwise_append.mpr ⟨List.pairwise_replicate.mpr (.inr (Int.le_refl _)), repL_down f hp.2, fun a ha b hb => ?_⟩
    rw [(List.mem_replicate.mp ha).2]
    obtain ⟨c, hc, hb⟩ := List.mem_flatMap.mp hb
    rw [(List.mem_replicate.mp hb).2]
    exact hp.1 c hc
theorem repL_snoc (f : Int → Nat) (ps : List Int) (x : Int) : repL f (ps ++ [x]) = repL f ps ++ List.replicate (f x) x := by
  unfold repL; rw [List.flatMap_append]; simp
/-- the joined heap -/
def joinL (r : List Heap1) : Heap1 := repL (mxC r) (partsL r)
theorem joinL_count (r : List Heap1) (x : Int) : (joinL r).count x = mxC r x := by
  unfold joinL
  rw [repL_count _ _ (partsL_nodup r)]
  split
  · rfl
  · rename_i h
    by_cases e : mxC r x = 0
    · exact e.symm
    · exact absurd (partsL_mem.mpr (mxC_pos (by omega))) h
theorem joinL_down (r : List Heap1) : (joinL r).Pairwise (· ≥ ·) := repL_down _ (partsL_down r)
theorem joinL_eq {r : List Heap1} {xs : Heap1} (h1 : xs.Pairwise (· ≥ ·)) (h2 : ∀ x, xs.count x = mxC r x) : xs = joinL r :=
  down_unique (List.perm_iff_count.mpr fun x => by rw [h2, joinL_count]) h1 (joinL_down r)
theorem joinL_srtR {r : List Heap1} {xs : List Int} (h2 : ∀ x, xs.count x = mxC r x) : (srt xs).reverse = joinL r :=
  joinL_eq (down_srtR xs) fun x => by rw [(perm_srtR xs).count_eq, h2]
theorem repL_len (f : Int → Nat) (ps : List Int) (ys : List Int) (hn : ps.Nodup) (h : ∀ x, f x ≤ ys.count x) : (repL f ps).length ≤ ys.length := by
  have := (takeOff_perm (repL f ps) ys fun x => by
    rw [repL_count f x hn]
    split
    · exact h x
    · exact Nat.zero_le _).length_eq
  rw [this, List.length_append]
  omega
theorem joinL_len (r : List Heap1) : (joinL r).length ≤ r.flatten.length := repL_len _ _ _ (partsL_nodup r) fun _ => mxC_flat
def okJ (r : List Heap1) : Prop := r.length ≤ 1000 ∧ ∀ h ∈ r, h.length ≤ 1000
theorem flat_le {c : Nat} : ∀ {r : List Heap1}, (∀ h ∈ r, h.length ≤ c) → r.flatten.length ≤ c * r.length
  | [], _ => by simp
  | h :: r, q => by
    have := flat_le (r := r) fun g hg => q g (by simp [hg])
    have := q h (by simp)
    rw [List.flatten_cons, List.length_append, List.length_cons, Nat.mul_add]
    omega
theorem okJ.flat {r : List Heap1} (h : okJ r) : r.flatten.length ≤ 1000000 := by
  have := flat_le h.2
  have := Nat.mul_le_mul_left 1000 h.1
  omega
theorem okJ.join {r : List Heap1} (h : okJ r) : (joinL r).length ≤ 1000000 := Nat.le_trans (joinL_len r) h.flat
theorem joinL_mem {r : List Heap1} {x : Int} : x ∈ joinL r ↔ ∃ h ∈ r, x ∈ h := by
  rw [← List.count_pos_iff, joinL_count]
  constructor
  · exact mxC_pos
  · rintro ⟨h, hh, hx⟩
    have := mxC_ge hh x
    have := List.count_pos_iff.mpr hx
    omega
theorem joinL_heap {r : List Heap1} (h : ∀ g ∈ r, isHeap g) : isHeap (joinL r) := ⟨joinL_down r, fun x hx => by
  obtain ⟨g, hg, hx⟩ := joinL_mem.mp hx
  exact (h g hg).2 x hx⟩
/-- the heaps that a choice names -/
def pickC (r : List Heap1) (c : List Int) : List Heap1 := c.map fun j => r.getD j.toNat []
theorem pickC_mem {r : List Heap1} {c : List Int} (h : ∀ j ∈ c, 0 ≤ j ∧ j < r.length) : ∀ g ∈ pickC r c, g ∈ r := by
  intro g hg
  obtain ⟨j, hj, rfl⟩ := List.mem_map.mp hg
  have := h j hj
  have e : j.toNat < r.length := by omega
  rw [List.getD_eq_getElem?_getD, List.getElem?_eq_getElem e]
  exact List.getElem_mem e
theorem okJ.pick {r : List Heap1} {c : List Int} (o : okJ r) (h : ∀ j ∈ c, 0 ≤ j ∧ j < r.length) (hc : c.length ≤ 1000) : okJ (pickC r c) :=
  ⟨by unfold pickC; rw [List.length_map]; exact hc, fun g hg => o.2 g (pickC_mem h g hg)⟩
def mnC (r : List Heap1) (x : Int) : Int := mnL (r.map fun h => ((h.count x : Nat) : Int))
/-- the part at a place, as the walk asks for it -/
theorem getK_rule {r : List Heap1} {j : Int} {k : D → Prop} (h0 : 0 ≤ j) (h1 : j < r.length) (q : k (hD (r.getD j.toNat []))) : getK (atI (r.map hD) j) k := by
  have e : j.toNat < r.length := by omega
  rw [List.getD_eq_getElem?_getD, List.getElem?_eq_getElem e] at q
  exact getK_nat j.toNat (by omega) e q
end Dt

/-! # Dt: pairs, by plain lists -/
namespace Dt
open PySem PySem.Spec PyProof.Rows L2
abbrev hpD (p : Heap1 × Heap1) : D := .tuple [hD p.1, hD p.2]
def cPr : Cod (Heap1 × Heap1) := cP cHeap cHeap
theorem good_pr : Good cPr 2 := good_heap.P good_heap
def prK (d : D) (k : Heap1 × Heap1 → Prop) : Prop := cPr.K d k
theorem prK_of {d : D} {k : Heap1 × Heap1 → Prop} (h : prK d k) : ∃ a, d = hpD a ∧ k a := Cod.K_of h
theorem prK_in {p : Heap1 × Heap1} {k : Heap1 × Heap1 → Prop} (q : k p) : prK (hpD p) k := by
  show cPr.K (cPr.enc p) k
  rw [Cod.K_enc]; exact q
theorem prK_in2 {a b : Heap1} {k : Heap1 × Heap1 → Prop} (q : k (a, b)) : prK (.tuple [hD a, hD b]) k := prK_in (p := (a, b)) q
def lprK (d : D) (k : List (Heap1 × Heap1) → Prop) : Prop := (cL cPr).K d k
theorem lprK_of {d : D} {k : List (Heap1 × Heap1) → Prop} (h : lprK d k) : ∃ a : List (Heap1 × Heap1), d = .list (a.map hpD) ∧ k a := Cod.K_of h
theorem lprK_in {p : List (Heap1 × Heap1)} {k : List (Heap1 × Heap1) → Prop} (q : k p) : lprK (.list (p.map hpD)) k := by
  show (cL cPr).K ((cL cPr).enc p) k
  rw [Cod.K_enc]; exact q
theorem sh_pr (p : Heap1 × Heap1) : SeqAt.shaped (hpD p) = true := good_pr.sh (by decide) p
theorem sh_lpr (p : List (Heap1 × Heap1)) : SeqAt.shaped (.list (p.map hpD)) = true := good_pr.L.sh (by decide) p
theorem eqv_pr (a b : Heap1 × Heap1) : PyData.eqv (hpD a) (hpD b) = decide (a = b) := good_pr.eqv a b
theorem eqv_lpr (a b : List (Heap1 × Heap1)) : PyData.eqv (.list (a.map hpD)) (.list (b.map hpD)) = decide (a = b) := good_pr.L.eqv a b
theorem eqvT_P {a b : Heap1 × Heap1} (h : a = b) : PyData.eqv (hpD a) (hpD b) = true := by rw [eqv_pr, decide_eq_true h]
theorem noL_pr (p : Heap1 × Heap1) : noL (hpD p) = true := by
  show (noL (hD p.1) && (noL (hD p.2) && true)) = true
  rw [noL_heap, noL_heap]; rfl
theorem noLs_prs (r : List (Heap1 × Heap1)) : noLs (r.map hpD) = true := noLs_map noL_pr r
/-- all pairs of a rule -/
def pairsL (r : List Heap1) (n : Nat) : List (Heap1 × Heap1) := (pts 26 n n).flatMap fun h => (chosenL (allIn r h)).map fun c => (h, c)
theorem enumH_len {α : Type} : ∀ (i : Nat) (xs : List α), (enumH i xs).length = xs.length
  | _, [] => rfl
  | i, x :: xs => by simp [enumH, enumH_len (i + 1) xs]
theorem enumH_eq {α : Type} (d : α) : ∀ (i : Nat) (xs : List α), enumH i xs = (List.range xs.length).map fun j => (i + j, xs.getD j d)
  | _, [] => rfl
  | i, x :: xs => by
    rw [enumH, enumH_eq d (i + 1) xs, List.length_cons, List.range_succ_eq_map, List.map_cons, List.map_map]
    congr 1
    apply List.map_congr_left
    intro j _
    show (i + 1 + j, xs.getD j d) = (i + (j + 1), (x :: xs).getD (j + 1) d)
    rw [show i + 1 + j = i + (j + 1) from by omega]
    rfl
theorem allIn_range (r : List Heap1) (h : Heap1) : allIn r h = ((List.range r.length).filter fun j => liesIn (r.getD j []) h).map fun (j : Nat) => (j : Int) := by
  unfold allIn
  rw [enumH_eq [], List.filter_map, List.map_map]
  have e : ((fun p : Nat × Heap1 => liesIn p.2 h) ∘ fun j => (0 + j, r.getD j [])) = fun j => liesIn (r.getD j []) h := rfl
  rw [e]
  apply List.map_congr_left
  intro j _
  show (((0 + j : Nat)) : Int) = (j : Int)
  rw [Nat.zero_add]
theorem allIn_small (r : List Heap1) (h : Heap1) : (allIn r h).length ≤ r.length := by
  unfold allIn
  rw [List.length_map]
  exact Nat.le_trans (List.length_filter_le _ _) (by rw [enumH_len]; exact Nat.le_refl _)
theorem allIn_mem {r : List Heap1} {h : Heap1} {j : Int} (hj : j ∈ allIn r h) : 0 ≤ j ∧ j < r.length ∧ liesIn (r.getD j.toNat []) h = true := by
  rw [allIn_range] at hj
  obtain ⟨i, hi, rfl⟩ := List.mem_map.mp hj
  have := List.mem_filter.mp hi
  have h1 := List.mem_range.mp this.1
  exact ⟨by omega, by omega, by rw [Int.toNat_natCast]; exact this.2⟩
theorem chosenL_hD (xs : List Int) : (chosenL (xs.map PyData.int)).map PyData.tuple = (chosenL xs).map hD := by
  rw [chosenL_map, List.map_map]; rfl
theorem flat_len2 {α β : Type} (f : α → List β) {c : Nat} : ∀ {l : List α}, (∀ a ∈ l, (f a).length ≤ c) → (l.flatMap f).length ≤ c * l.length
  | [], _ => by simp
  | a :: l, h => by
    have := flat_len2 f (l := l) fun b hb => h b (by simp [hb])
    have := h a (by simp)
    rw [List.flatMap_cons, List.length_append, List.length_cons, Nat.mul_add]
    omega
theorem pairsL_pre {r : List Heap1} {n : Nat} (hr : r.length ≤ 6) (hn : n ≤ 16) {p s : List Heap1} (e : pts 26 n n = p ++ s) : (p.flatMap fun h => (chosenL (allIn r h)).map fun c => (h, c)).length ≤ 3000000 := by
  have h1 : (pts 26 n n).length ≤ 32768 := Nat.le_trans (pts_len 26 n n) (Nat.le_trans (gLen_mono hn) (by decide))
  have h2 := flat_len2 (fun h => (chosenL (allIn r h)).map fun c => (h, c)) (c := 64) (l := p) fun h _ => by
    rw [List.length_map, chosenL_len]
    have := allIn_small r h
    exact Nat.le_trans (Nat.pow_le_pow_right (by decide) (show (allIn r h).length ≤ 6 by omega)) (by decide)
  have h3 : p.length ≤ (pts 26 n n).length := by rw [e]; simp
  omega
theorem zip_same {α : Type} : ∀ {xs : List α} {p : α × α}, p ∈ xs.zip xs → p.1 = p.2
  | [], _, h => by simp at h
  | x :: xs, p, h => by
    rw [List.zip_cons_cons] at h
    rcases List.mem_cons.mp h with rfl | h
    · rfl
    · exact zip_same h
theorem zip_mem {α : Type} : ∀ {xs : List α} {p : α × α}, p ∈ xs.zip xs → p.1 ∈ xs
  | [], _, h => by simp at h
  | x :: xs, p, h => by
    rw [List.zip_cons_cons] at h
    rcases List.mem_cons.mp h with rfl | h
    · exact List.mem_cons_self
    · exact List.mem_cons_of_mem _ (zip_mem h)
theorem cut_init {α : Type} (xs : List α) : cut xs none (some (-1)) = xs.dropLast := by
  unfold cut HT.sIx
  simp only []
  rw [if_pos (by decide), List.dropLast_eq_take, List.drop_zero]
  congr 1
  omega
theorem cutM_init {α β : Type} (f : α → β) (xs : List α) : cut (xs.map f) none (some (-1)) = xs.dropLast.map f := by rw [cut_init, List.map_dropLast]
theorem eqv_str (s : Str) : PyData.eqv (.str s) (.str s) = true := by simp [PyData.eqv]
theorem compGo_filter0 {g : DG} {t : DT} {e : DE} {vs : List Nat} {P : List D → Rho → Prop} {α : Type} (enc : α → D) (keep : α → Bool) (f : α → D) {xs : List α} {ρ : Rho}
    (step : ∀ x ∈ xs, ∀ acc (K : List D → Rho → Prop), (keep x = true → K (acc ++ [f x]) ρ) → (keep x = false → K acc ρ) → g (enc x) ρ fun ρ1 => t ρ1 (fun b ρ2 => (b = true → e ρ2 (fun o ρ3 => onlyd o fun d' => K (acc ++ [d']) (wipeR ρ3 vs)) noX) ∧ (b = false → K acc (wipeR ρ2 vs))) noX)
    (done : P ((xs.filter keep).map f) ρ) : compGo g t e vs P (xs.map enc) [] ρ := compGo_filter enc keep f step (by rw [List.nil_append]; exact done)
theorem compGo_map0 {g : DG} {t : DT} {e : DE} {vs : List Nat} {P : List D → Rho → Prop} {α : Type} (enc : α → D) (f : α → D) {xs : List α} {ρ : Rho}
    (step : ∀ x ∈ xs, ∀ acc (K : List D → Rho → Prop), K (acc ++ [f x]) ρ → g (enc x) ρ fun ρ1 => t ρ1 (fun b ρ2 => (b = true → e ρ2 (fun o ρ3 => onlyd o fun d' => K (acc ++ [d']) (wipeR ρ3 vs)) noX) ∧ (b = false → K acc (wipeR ρ2 vs))) noX)
    (done : P (xs.map f) ρ) : compGo g t e vs P (xs.map enc) [] ρ := compGo_map enc f step (by rw [List.nil_append]; exact done)
/-- how often at least -/
def mnN (r : List Heap1) (x : Int) : Nat := (mnL (r.map fun h => ((h.count x : Nat) : Int))).toNat
theorem mnN_mnL {r : List Heap1} (hr : r ≠ []) (x : Int) : mnL (r.map fun h => ((h.count x : Nat) : Int)) = (mnN r x : Nat) := by
  unfold mnN
  have := (mnL_mem (xs := r.map fun h => ((h.count x : Nat) : Int)) (fun z => hr (List.map_eq_nil_iff.mp z))).1
  obtain ⟨g, _, e⟩ := List.mem_map.mp this
  omega
theorem mnN_le {r : List Heap1} {h : Heap1} (hh : h ∈ r) (x : Int) : mnN r x ≤ h.count x := by
  have hr : r ≠ [] := List.ne_nil_of_mem hh
  have := (mnL_mem (xs := r.map fun h => ((h.count x : Nat) : Int)) (fun z => hr (List.map_eq_nil_iff.mp z))).2 _ (List.mem_map.mpr ⟨h, hh, rfl⟩)
  rw [mnN_mnL hr x] at this
  omega
theorem mnN_mx {r : List Heap1} (hr : r ≠ []) (x : Int) : mnN r x ≤ mxC r x := by
  obtain ⟨h, hh⟩ := List.exists_mem_of_ne_nil r hr
  exact Nat.le_trans (mnN_le hh x) (mxC_ge hh x)
def meetL (r : List Heap1) : Heap1 := repL (mnN r) (partsL r)
theorem meetL_count {r : List Heap1} (hr : r ≠ []) (x : Int) : (meetL r).count x = mnN r x := by
  unfold meetL
  rw [repL_count _ _ (partsL_nodup r)]
  split
  · rfl
  · rename_i h
    by_cases e : mnN r x = 0
    · exact e.symm
    · have := mnN_mx hr x
      exact absurd (partsL_mem.mpr (mxC_pos (by omega))) h
theorem meetL_len {r : List Heap1} (hr : r ≠ []) : (meetL r).length ≤ r.flatten.length := repL_len _ _ _ (partsL_nodup r) fun x => Nat.le_trans (mnN_mx hr x) mxC_flat
theorem meetL_down (r : List Heap1) : (meetL r).Pairwise (· ≥ ·) := repL_down _ (partsL_down r)
theorem brNL {α : Type} {xs : List α} {A B : Prop} (h1 : xs = [] → A) (h2 : xs ≠ [] → B) : ((!(!xs.isEmpty)) = true → A) ∧ ((!(!xs.isEmpty)) = false → B) := by
  cases xs with
  | nil => exact ⟨fun _ => h1 rfl, fun z => by simp at z⟩
  | cons x xs => exact ⟨fun z => by simp at z, fun _ => h2 (by simp)⟩
theorem brNLm {α β : Type} {f : α → β} {xs : List α} {A B : Prop} (h1 : xs = [] → A) (h2 : xs ≠ [] → B) : ((!(!(xs.map f).isEmpty)) = true → A) ∧ ((!(!(xs.map f).isEmpty)) = false → B) := brNL (fun h => h1 (List.map_eq_nil_iff.mp h)) fun h => h2 fun e => h (by rw [e]; rfl)
theorem perm_sum {a b : List Int} (h : a.Perm b) : a.sum = b.sum := by
  induction h with
  | nil => rfl
  | cons x _ ih => rw [List.sum_cons, List.sum_cons, ih]
  | swap x y l => simp only [List.sum_cons]; omega
  | trans _ _ h1 h2 => exact h1.trans h2
def okSame : Nat → D → Prop
  | 0, _ => False
  | k + 1, .list ds => ∀ d ∈ ds, okSame k d
  | k + 1, .tuple ds => ∀ d ∈ ds, okSame k d
  | _ + 1, .str s => SeqAt.shaped (.str s) = true
  | _ + 1, .dict _ => False
  | _ + 1, _ => True
theorem okS_map {α : Type} {f : α → D} {k : Nat} {xs : List α} (h : ∀ x, okSame k (f x)) : okSame (k + 1) (.list (xs.map f)) := by
  intro d hd
  obtain ⟨x, _, rfl⟩ := List.mem_map.mp hd
  exact h x
theorem okS_mapT {α : Type} {f : α → D} {k : Nat} {xs : List α} (h : ∀ x, okSame k (f x)) : okSame (k + 1) (.tuple (xs.map f)) := by
  intro d hd
  obtain ⟨x, _, rfl⟩ := List.mem_map.mp hd
  exact h x
theorem okS_nil {k : Nat} : okSame (k + 1) (.tuple []) := fun d hd => absurd hd (by simp)
theorem okS_nilL {k : Nat} : okSame (k + 1) (.list []) := fun d hd => absurd hd (by simp)
theorem okS_cons {k : Nat} {d : D} {ds : List D} (h : okSame k d) (hs : okSame (k + 1) (.tuple ds)) : okSame (k + 1) (.tuple (d :: ds)) := by
  intro e he
  rcases List.mem_cons.mp he with rfl | he
  · exact h
  · exact hs e he
theorem okS_consL {k : Nat} {d : D} {ds : List D} (h : okSame k d) (hs : okSame (k + 1) (.list ds)) : okSame (k + 1) (.list (d :: ds)) := by
  intro e he
  rcases List.mem_cons.mp he with rfl | he
  · exact h
  · exact hs e he
end Dt

/-! # Dt: polynomials, by plain lists -/
namespace Dt
open PySem PySem.Spec PyProof.Rows L2
theorem set_range (N : Nat) (f : Nat → Int) (j : Nat) (v : Int) : ((List.range N).map f).set j (f j + v) = (List.range N).map fun i => f i + if j = i then v else 0 := by
  apply List.ext_getElem
  · simp
  · intro i h1 h2
    rw [List.getElem_set]
    simp only [List.getElem_map, List.getElem_range]
    by_cases e : j = i
    · subst e; simp
    · simp [e]
theorem sum_zero {α : Type} {f : α → Int} : ∀ {l : List α}, (∀ x ∈ l, f x = 0) → (l.map f).sum = 0
  | [], _ => rfl
  | x :: l, h => by
    rw [List.map_cons, List.sum_cons, h x (by simp), sum_zero fun y hy => h y (by simp [hy])]; rfl
theorem sum_add {α : Type} (f g : α → Int) : ∀ l : List α, (l.map fun x => f x + g x).sum = (l.map f).sum + (l.map g).sum
  | [] => rfl
  | x :: l => by
    simp only [List.map_cons, List.sum_cons]
    rw [sum_add f g l]
    omega
theorem sum_comm {α β : Type} (f : α → β → Int) (bs : List β) : ∀ as : List α, (as.map fun a => (bs.map fun b => f a b).sum).sum = (bs.map fun b => (as.map fun a => f a b).sum).sum
  | [] => by
    rw [List.map_nil, List.sum_nil]
    exact (sum_zero fun x _ => rfl).symm
  | a :: as => by
    simp only [List.map_cons, List.sum_cons]
    rw [sum_comm f bs as, ← sum_add]
theorem sum_keep {α : Type} {f : α → Int} {keep : α → Bool} : ∀ {l : List α}, (∀ x ∈ l, keep x = false → f x = 0) → ((l.filter keep).map f).sum = (l.map f).sum
  | [], _ => rfl
  | x :: l, h => by
    have ih := sum_keep (f := f) (keep := keep) (l := l) fun y hy => h y (by simp [hy])
    rw [List.filter_cons]
    by_cases e : keep x = true
    · rw [if_pos e]; simp only [List.map_cons, List.sum_cons]; rw [ih]
    · rw [if_neg e, ih, List.map_cons, List.sum_cons, h x (by simp) (by simpa using e)]
      omega
theorem sum_map_congr {α : Type} {f g : α → Int} {l : List α} (h : ∀ x ∈ l, f x = g x) : (l.map f).sum = (l.map g).sum := by
  rw [List.map_congr_left h]
theorem sum_append_map {α : Type} (f : α → Int) (p : List α) (x : α) : ((p ++ [x]).map f).sum = (p.map f).sum + f x := by
  rw [List.map_append, List.sum_append]; simp
/-- the product, number by number -/
def term (i : Nat) (p q : Nat × Int) : Int := if p.1 + q.1 = i then p.2 * q.2 else 0
def convP (as bs : List (Nat × Int)) (i : Nat) : Int := (as.map fun p => (bs.map fun q => term i p q).sum).sum
def mulL (a b : List Int) : List Int := (List.range (a.length + b.length)).map (convP (enumH 0 a) (enumH 0 b))
theorem mulL_comm (a b : List Int) : mulL a b = mulL b a := by
  unfold mulL
  rw [Nat.add_comm]
  apply List.map_congr_left
  intro i _
  unfold convP
  rw [sum_comm]
  refine sum_map_congr fun q _ => sum_map_congr fun p _ => ?_
  unfold term
  rw [Nat.add_comm, Int.mul_comm]
theorem mulL_len (a b : List Int) : (mulL a b).length = a.length + b.length := by unfold mulL; simp
/-- without noughts at the end -/
def trimL (xs : List Int) : List Int := (xs.reverse.dropWhile fun x => decide (x = 0)).reverse
theorem trimL_zero (xs : List Int) : trimL (xs ++ [0]) = trimL xs := by unfold trimL; simp
theorem trimL_done (xs : List Int) {x : Int} (h : x ≠ 0) : trimL (xs ++ [x]) = xs ++ [x] := by unfold trimL; simp [h]
theorem trimL_nil : trimL [] = [] := rfl
theorem trimL_len (xs : List Int) : (trimL xs).length ≤ xs.length := by
  unfold trimL
  rw [List.length_reverse]
  have := (List.dropWhile_sublist (fun x => decide (x = 0)) (l := xs.reverse)).length_le
  simpa using this
theorem trimL_mem {xs : List Int} {x : Int} (h : x ∈ trimL xs) : x ∈ xs := by
  unfold trimL at h
  have := (List.dropWhile_sublist (fun x => decide (x = 0)) (l := xs.reverse)).subset (List.mem_reverse.mp h)
  simpa using this
theorem trimL_snoc {xs : List Int} (hne : xs ≠ []) : trimL xs = if xs.getLast hne = 0 then trimL xs.dropLast else xs := by
  have e := List.dropLast_concat_getLast hne
  split
  · rename_i h
    rw [h] at e
    rw [← e, trimL_zero]
    simp
  · rename_i h
    rw [← e, trimL_done _ h]
/-- the sum -/
def plusL (a b : List Int) : List Int := (List.range (max a.length b.length)).map fun k => a.getD k 0 + b.getD k 0
theorem plusL_comm (a b : List Int) : plusL a b = plusL b a := by
  unfold plusL
  rw [Nat.max_comm]
  apply List.map_congr_left
  intro k _
  omega
theorem pad_range (a : List Int) {n : Nat} (h : a.length ≤ n) : a ++ List.replicate (n - a.length) 0 = (List.range n).map fun k => a.getD k 0 := by
  apply List.ext_getElem
  · simp; omega
  · intro i h1 h2
    simp only [List.getElem_map, List.getElem_range]
    rw [List.getElem_append, List.getD_eq_getElem?_getD]
    split
    · rename_i q; rw [List.getElem?_eq_getElem q]; rfl
    · rename_i q; rw [List.getElem?_eq_none (by omega)]; simp
theorem zip_pad {a b : List Int} {n : Nat} (ha : a.length ≤ n) (hb : b.length ≤ n) : ((a ++ List.replicate (n - a.length) 0).zip (b ++ List.replicate (n - b.length) 0)) = (List.range n).map fun k => (a.getD k 0, b.getD k 0) := by
  rw [pad_range a ha, pad_range b hb, List.zip_map']
def okP (a : List Int) : Prop := a.length ≤ 100000
def okM (a b : List Int) : Prop := ∀ x ∈ a, ∀ y ∈ b, mulOk x y
theorem okM.swap {a b : List Int} (h : okM a b) : okM b a := fun x hx y hy => by
  have := h y hy x hx
  unfold mulOk at *
  omega
theorem getD_in {a : List Int} {k : Nat} (h : k < a.length) : a.getD k 0 ∈ a := by
  rw [List.getD_eq_getElem?_getD, List.getElem?_eq_getElem h]; exact List.getElem_mem h
theorem enum_mem {a : List Int} {p : Nat × Int} (h : p ∈ enumH 0 a) : p.1 < a.length ∧ p.2 ∈ a := by
  rw [enumH_eq 0] at h
  obtain ⟨j, hj, rfl⟩ := List.mem_map.mp h
  have hj := List.mem_range.mp hj
  exact ⟨by show 0 + j < _; omega, getD_in hj⟩
theorem mulOk_small {i j : Int} (h1 : i.natAbs < wideB) (h2 : j.natAbs < wideB) : mulOk i j := .inr (.inr ⟨h1, h2⟩)
/-- xs[i] += v where xs are told by their places -/
theorem getK_range {N : Nat} {f : Nat → Int} {i : Int} {k : D → Prop} (j : Nat) (e : i = (j : Int)) (h : j < N) (q : k (.int (f j))) : getK (atI (((List.range N).map f).map PyData.int) i) k :=
  getK_int j e (by simpa using h) (by rw [List.getD_eq_getElem?_getD, List.getElem?_eq_getElem (by simpa using h)]; simpa using q)
theorem ixN_range {N : Nat} {i : Int} {k : Nat → Prop} (j : Nat) (e : i = (j : Int)) (h : j < N) (q : k j) : getK (ixN N i) k := ix_at (by omega) (by omega) (by rw [e, Int.toNat_natCast]; exact q)
theorem ixN_last {n : Nat} {k : Nat → Prop} (h : 0 < n) (q : k (n - 1)) : getK (ixN n (-1)) k := by
  refine getK_in (d := n - 1) ?_ q
  unfold ixN
  rw [if_neg (by decide), if_pos (by omega)]
  congr 1
  omega
theorem getK_pop {α β : Type} {f : α → β} {xs : List α} {k : β → Prop} (h : xs ≠ []) (q : k (f (xs.getLast h))) : getK (xs.map f)[(xs.map f).length - 1]? k := by
  have hp := List.length_pos_iff.mpr h
  refine getK_in ?_ q
  rw [List.length_map, List.getElem?_map, List.getElem?_eq_getElem (by omega), List.getLast_eq_getElem]
  rfl
theorem enumH_range (a : List Int) : (List.range a.length).map (fun j => (j, a.getD j 0)) = enumH 0 a := by
  rw [enumH_eq 0]
  apply List.map_congr_left
  intro j _
  rw [Nat.zero_add]
theorem set_rangeD (N : Nat) (f : Nat → Int) (j : Nat) (v : Int) : (((List.range N).map f).map PyData.int).set j (.int (f j + v)) = ((List.range N).map fun i => f i + if j = i then v else 0).map PyData.int := by
  rw [map_set', set_range]
theorem fig_small {i : Int} (h1 : -(10 ^ 70) ≤ i) (h2 : i ≤ 10 ^ 70) : i.natAbs < wideB := by
  have h : i.natAbs ≤ 10 ^ 70 := by omega
  exact Nat.lt_of_le_of_lt h (by rw [wideB_eq]; decide +kernel)
theorem mulOk_fig {i j : Int} (h1 : -(10 ^ 70) ≤ i) (h2 : i ≤ 10 ^ 70) (h3 : -(10 ^ 70) ≤ j) (h4 : j ≤ 10 ^ 70) : mulOk i j := mulOk_small (fig_small h1 h2) (fig_small h3 h4)
theorem putC_own0 (c0 c : C) (r : Rho) : putC (some (.own c0) :: r) 0 c = some (.own c) :: r := rfl
theorem putC_lent0 (a : Addr) (c0 c : C) (r : Rho) : putC (some (.lent a c0) :: r) 0 c = some (.lent a c) :: r := rfl
theorem putC_succ (s : Option S) (r : Rho) (j : Nat) (c : C) : putC (s :: r) (j + 1) c = s :: putC r j c := by
  unfold putC
  rw [List.getElem?_cons_succ]
  rcases r[j]? with _ | _ | x
  · rfl
  · rfl
  · cases x <;> rfl
theorem wipeR_nil (ρ : Rho) : wipeR ρ [] = ρ := rfl
theorem wipeR_cons (ρ : Rho) (v : Nat) (vs : List Nat) : wipeR ρ (v :: vs) = (wipeR ρ vs).set v none := rfl
theorem backR_nil (ρ0 ρ : Rho) : backR ρ0 ρ [] = ρ := rfl
theorem backR_cons (ρ0 ρ : Rho) (v : Nat) (vs : List Nat) : backR ρ0 ρ (v :: vs) = (backR ρ0 ρ vs).set v (keepD ρ0[v]?) := rfl
theorem keepD_none : keepD none = none := rfl
theorem keepD_free : keepD (some none) = none := rfl
theorem keepD_d (d : D) : keepD (some (some (.d d))) = some (.d d) := rfl
theorem keepD_own (c : C) : keepD (some (some (.own c))) = none := rfl
theorem keepD_lent (a : Addr) (c : C) : keepD (some (some (.lent a c))) = none := rfl
theorem setsD_nil (ρ : Rho) (l : List D) : setsD ρ [] l = ρ := by cases l <;> rfl
theorem setsD_cons (ρ : Rho) (i : Nat) (is : List Nat) (d : D) (l : List D) : setsD ρ (i :: is) (d :: l) = setsD (ρ.set i (some (.d d))) is l := rfl
end Dt

/-! # Dt: the heads of a fraction -/
namespace Dt
open PySem PySem.Spec PyProof.Rows L2
/-- the numbers taken off at the next place -/
def offH (b found : List Int) (j : Nat) : Int := b.getD j 0 * found.getD (found.length - j) 0
def offs (b found : List Int) : List Nat := (List.range (min found.length (b.length - 1))).map (1 + ·)
def hNext (t b found : List Int) : Int := t.getD found.length 0 - ((offs b found).map (offH b found)).sum
def headsL (t b : List Int) : Nat → List Int
  | 0 => []
  | n + 1 => headsL t b n ++ [hNext t b (headsL t b n)]
theorem headsL_len (t b : List Int) : ∀ n, (headsL t b n).length = n
  | 0 => rfl
  | n + 1 => by rw [headsL, List.length_append, headsL_len t b n]; rfl
theorem headsL_get (t b : List Int) {i n : Nat} (h : i < n) : (headsL t b n).getD i 0 = hNext t b (headsL t b i) := by
  induction n with
  | zero => omega
  | succ n ih =>
    rw [headsL, List.getD_eq_getElem?_getD]
    by_cases e : i < n
    · rw [List.getElem?_append_left (by rw [headsL_len]; exact e), ← List.getD_eq_getElem?_getD]
      exact ih e
    · have : i = n := by omega
      subst this
      rw [List.getElem?_append_right (by rw [headsL_len]; exact Nat.le_refl _), headsL_len]
      simp
def okH (t b : List Int) (n : Nat) : Prop := (∀ x ∈ b, x.natAbs < wideB) ∧ ∀ i, i ≤ n → (hNext t b (headsL t b i)).natAbs < wideB
theorem abs_sum_le {α : Type} (f : α → Int) {M : Nat} : ∀ {l : List α}, (∀ x ∈ l, (f x).natAbs ≤ M) → ((l.map f).sum).natAbs ≤ M * l.length
  | [], _ => by simp
  | x :: l, h => by
    have := abs_sum_le f (l := l) fun y hy => h y (by simp [hy])
    have := h x (by simp)
    rw [List.map_cons, List.sum_cons, List.length_cons, Nat.mul_succ]
    omega
theorem heads_bound {t b : List Int} {W L : Nat} (hW : 1 ≤ W) (hL : 1 ≤ L) (ht : ∀ x ∈ t, x.natAbs ≤ W) (hb : ∀ x ∈ b, x.natAbs ≤ W) (hl : b.length ≤ L) : ∀ n, (hNext t b (headsL t b n)).natAbs ≤ (W * L) ^ (n + 1) := by
  intro n
  induction n using Nat.strongRecOn with
  | ind n ih =>
    have hC : 1 ≤ W * L := Nat.mul_le_mul hW hL
    have hCn : 1 ≤ (W * L) ^ n := Nat.one_le_pow _ _ hC
    have h1 : (t.getD n 0).natAbs ≤ W := by
      by_cases e : n < t.length
      · exact ht _ (getD_in e)
      · rw [List.getD_eq_getElem?_getD, List.getElem?_eq_none (by omega)]; simp
    have h2 : ((offs b (headsL t b n)).map (offH b (headsL t b n))).sum.natAbs ≤ (W * (W * L) ^ n) * (offs b (headsL t b n)).length := by
      refine abs_sum_le _ fun j hj => ?_
      unfold offs at hj
      rw [headsL_len] at hj
      obtain ⟨i, hi, rfl⟩ := List.mem_map.mp hj
      have hi := List.mem_range.mp hi
      unfold offH
      rw [headsL_len, Int.natAbs_mul]
      refine Nat.mul_le_mul (hb _ (getD_in (by omega))) ?_
      rw [headsL_get _ _ (by omega)]
      exact Nat.le_trans (ih (n - (1 + i)) (by omega)) (Nat.pow_le_pow_right hC (by omega))
    have h3 : (offs b (headsL t b n)).length ≤ L - 1 := by
      unfold offs
      rw [List.length_map, List.length_range]
      omega
    have h4 : (W * (W * L) ^ n) * (offs b (headsL t b n)).length ≤ (W * (W * L) ^ n) * (L - 1) := Nat.mul_le_mul_left _ h3
    have h5 : (W * (W * L) ^ n) * (L - 1) + W * (W * L) ^ n = (W * L) ^ (n + 1) := by
      rw [Nat.pow_succ, ← Nat.mul_succ, show (L - 1).succ = L from by omega]
      rw [Nat.mul_comm W, Nat.mul_assoc]
    have h6 : W ≤ W * (W * L) ^ n := Nat.le_mul_of_pos_right _ hCn
    unfold hNext
    rw [headsL_len]
    omega
theorem okH_of {t b : List Int} {W L n : Nat} (hW : 1 ≤ W) (hL : 1 ≤ L) (ht : ∀ x ∈ t, x.natAbs ≤ W) (hb : ∀ x ∈ b, x.natAbs ≤ W) (hl : b.length ≤ L) (hn : (W * L) ^ (n + 1) < wideB) : okH t b n := by
  have hC : 1 ≤ W * L := Nat.mul_le_mul hW hL
  refine ⟨fun x hx => Nat.lt_of_le_of_lt ?_ hn, fun i hi => Nat.lt_of_le_of_lt (heads_bound hW hL ht hb hl i) (Nat.lt_of_le_of_lt (Nat.pow_le_pow_right hC (by omega)) hn)⟩
  refine Nat.le_trans (hb x hx) ?_
  rw [Nat.pow_succ]
  exact Nat.le_trans (Nat.le_mul_of_pos_right W hL) (Nat.le_mul_of_pos_left _ (Nat.pow_pos hC))
/-- the bottom's numbers times these come to the top's -/
theorem heads_right {t b : List Int} {N n : Nat} (h0 : b.getD 0 0 = 1) (hn : n < N) : ((List.range (min (n + 1) b.length)).map fun j => b.getD j 0 * (headsL t b N).getD (n - j) 0).sum = t.getD n 0 := by
  have hl : 1 ≤ b.length := by
    cases b with
    | nil => simp at h0
    | cons x b => simp
  have e : min (n + 1) b.length = min n (b.length - 1) + 1 := by omega
  rw [e, List.range_succ_eq_map, List.map_cons, List.sum_cons, h0, Nat.sub_zero, headsL_get _ _ hn, List.map_map]
  unfold hNext offs
  rw [headsL_len, List.map_map]
  have : ((List.range (min n (b.length - 1))).map ((fun j => b.getD j 0 * (headsL t b N).getD (n - j) 0) ∘ Nat.succ)) = (List.range (min n (b.length - 1))).map (offH b (headsL t b n) ∘ fun x => 1 + x) := by
    apply List.map_congr_left
    intro j hj
    have hj := List.mem_range.mp hj
    show b.getD (j + 1) 0 * (headsL t b N).getD (n - (j + 1)) 0 = offH b (headsL t b n) (1 + j)
    unfold offH
    rw [headsL_len, headsL_get _ _ (show n - (j + 1) < N by omega), headsL_get _ _ (show n - (1 + j) < n by omega), Nat.add_comm]
  rw [this]
  omega
theorem trimL_one (p : List Int) : (trimL (1 :: p)).getD 0 0 = 1 := by
  have h : ∀ xs : List Int, ((xs ++ [1]).dropWhile fun x => decide (x = 0)) = (xs.dropWhile fun x => decide (x = 0)) ++ [1] := fun xs => by
    induction xs with
    | nil => simp
    | cons x xs ih =>
      by_cases e : x = 0
      · simp [e, ih]
      · simp [e]
  unfold trimL
  rw [List.reverse_cons, h, List.reverse_append]
  rfl
end Dt

/-! # Dt: stores of rows -/
namespace Dt
open PySem PySem.Spec PyProof.Rows L2
def oiD : Option Int → D | none => .none | some i => .int i
def cOi : Cod (Option Int) := ⟨oiD, fun d => match d with | .none => some none | .int i => some (some i) | _ => none, fun a => by cases a <;> rfl, fun d a h => by
  cases d with
  | none => cases h; rfl
  | int i => cases h; rfl
  | _ => cases h⟩
def oiK (d : D) (k : Option Int → Prop) : Prop := cOi.K d k
theorem oiK_of {d : D} {k : Option Int → Prop} (h : oiK d k) : ∃ m, d = oiD m ∧ k m := Cod.K_of h
theorem oiK_in {m : Option Int} {k : Option Int → Prop} (h : k m) : oiK (oiD m) k := by
  show cOi.K (cOi.enc m) k
  rw [Cod.K_enc]
  exact h
theorem oiK_none {k : Option Int → Prop} (h : k none) : oiK .none k := oiK_in (m := none) h
theorem oiK_int {i : Int} {k : Option Int → Prop} (h : k (some i)) : oiK (.int i) k := oiK_in (m := some i) h
abbrev rowD (p : Int × Option Int) : D := .tuple [.int p.1, oiD p.2]
def cRow : Cod (Int × Option Int) := cP cInt cOi
abbrev stD (s : List (Int × Option Int)) : D := .tuple (s.map rowD)
def stK (d : D) (k : List (Int × Option Int) → Prop) : Prop := (cT cRow).K d k
theorem stK_of {d : D} {k : List (Int × Option Int) → Prop} (h : stK d k) : ∃ s, d = stD s ∧ k s := Cod.K_of h
theorem stK_in {s : List (Int × Option Int)} {k : List (Int × Option Int) → Prop} (h : k s) : stK (stD s) k := by
  show (cT cRow).K ((cT cRow).enc s) k
  rw [Cod.K_enc]
  exact h
def okRow (p : Int × Option Int) : Prop := 1 ≤ p.1 ∧ p.1 ≤ 24 ∧ ∀ m, p.2 = some m → 0 ≤ m ∧ m ≤ 9
/-- how often a row's part may be taken in a heap of n -/
def manyR (p : Nat) (m : Option Int) (n : Nat) : Nat := match m with | none => n / p | some m => min (n / p) m.toNat
def rowV (a : List Int) (p : Nat) (m : Option Int) (n : Nat) : Int := ((List.range (manyR p m n + 1)).map fun k => a.getD (n - k * p) 0).sum
def rowL (a : List Int) (p : Nat) (m : Option Int) : List Int := (List.range a.length).map (rowV a p m)
def numsL (s : List (Int × Option Int)) (n : Nat) : List Int := s.foldl (fun a r => rowL a r.1.toNat r.2) (1 :: List.replicate n 0)
theorem rowL_len {a : List Int} {p : Nat} {m : Option Int} : (rowL a p m).length = a.length := by simp [rowL]
theorem numsL_len' {s : List (Int × Option Int)} : ∀ {a : List Int}, (s.foldl (fun a r => rowL a r.1.toNat r.2) a).length = a.length := by
  induction s with
  | nil => intro a; rfl
  | cons r s ih => intro a; rw [List.foldl_cons, ih, rowL_len]
theorem numsL_len {s : List (Int × Option Int)} {n : Nat} : (numsL s n).length = n + 1 := by rw [numsL, numsL_len']; simp
theorem sum_range_succ (f : Nat → Int) (n : Nat) : ((List.range (n + 1)).map f).sum = ((List.range n).map f).sum + f n := by
  rw [List.range_succ, List.map_append, List.sum_append]; simp
theorem sum_range_succ' (f : Nat → Int) (n : Nat) : ((List.range (n + 1)).map f).sum = f 0 + ((List.range n).map fun i => f (i + 1)).sum := by
  rw [List.range_succ_eq_map, List.map_cons, List.sum_cons, List.map_map]; rfl
/-- what a row with a most gives back -/
def rowB (a : List Int) (p : Nat) (m : Option Int) (n : Nat) : Int := match m with | none => 0 | some x => if p * (x.toNat + 1) ≤ n then a.getD (n - p * (x.toNat + 1)) 0 else 0
theorem rowV_rec {a : List Int} {p : Nat} {m : Option Int} {n : Nat} (hp : 1 ≤ p) (hm : ∀ x, m = some x → 0 ≤ x) :
    rowV a p m n = a.getD n 0 + (if p ≤ n then rowV a p m (n - p) else 0) - rowB a p m n := by
  unfold rowB
  by_cases h : p ≤ n
  · have e : n / p = (n - p) / p + 1 := by
      conv => lhs; rw [show n = (n - p) + p from by omega]
      rw [Nat.add_div_right _ (by omega)]
    have sh : ∀ k, n - (k + 1) * p = n - p - k * p := fun k => by rw [Nat.succ_mul]; omega
    rw [if_pos h]
    cases m with
    | none =>
      unfold rowV manyR
      rw [e, sum_range_succ']
      simp only [Nat.zero_mul, Nat.sub_zero, sh]
      omega
    | some x =>
      have hx := hm x rfl
      unfold rowV manyR
      show (List.map _ (List.range (min (n / p) x.toNat + 1))).sum = _ + (List.map _ (List.range (min ((n - p) / p) x.toNat + 1))).sum - _
      by_cases g : p * (x.toNat + 1) ≤ n
      · have g' : x.toNat + 1 ≤ n / p := (Nat.le_div_iff_mul_le hp).mpr (by rw [Nat.mul_comm]; exact g)
        rw [show min (n / p) x.toNat = x.toNat by omega, show min ((n - p) / p) x.toNat = x.toNat by omega]
        simp only [if_pos g]
        rw [sum_range_succ', sum_range_succ _ x.toNat]
        simp only [Nat.zero_mul, Nat.sub_zero, sh]
        rw [show n - p - x.toNat * p = n - p * (x.toNat + 1) by rw [← sh, Nat.mul_comm]]
        omega
      · have g' : ¬ x.toNat + 1 ≤ n / p := fun q => g (by rw [Nat.mul_comm]; exact (Nat.le_div_iff_mul_le hp).mp q)
        rw [show min (n / p) x.toNat = min ((n - p) / p) x.toNat + 1 by omega]
        simp only [if_neg g]
        rw [sum_range_succ']
        simp only [Nat.zero_mul, Nat.sub_zero, sh]
        omega
  · have e : n / p = 0 := Nat.div_eq_of_lt (by omega)
    rw [if_neg h]
    cases m with
    | none =>
      unfold rowV manyR
      rw [e]
      simp
    | some x =>
      have g : ¬ p * (x.toNat + 1) ≤ n := by
        have : p * 1 ≤ p * (x.toNat + 1) := Nat.mul_le_mul_left p (by omega)
        omega
      unfold rowV manyR
      simp [e, if_neg g]
end Dt

/-! # Dt: numbers by places, as functions -/
namespace Dt
open PySem PySem.Spec PyProof.Rows L2
/-- less itself, moved p places on -/
def sh (p : Nat) (f : Nat → Int) (n : Nat) : Int := f n - if p ≤ n then f (n - p) else 0
def co (a : List Int) (i : Nat) : Int := a.getD i 0
theorem co_ge {a : List Int} {i : Nat} (h : a.length ≤ i) : co a i = 0 := by
  unfold co
  rw [List.getD_eq_getElem?_getD, List.getElem?_eq_none h]; rfl
theorem co_append_zero (xs : List Int) (i : Nat) : co (xs ++ [0]) i = co xs i := by
  unfold co
  simp only [List.getD_eq_getElem?_getD]
  by_cases h : i < xs.length
  · rw [List.getElem?_append_left h]
  · rw [List.getElem?_append_right (by omega), List.getElem?_eq_none (l := xs) (by omega)]
    by_cases g : i - xs.length = 0
    · rw [g]; rfl
    · rw [List.getElem?_eq_none (by simp; omega)]
theorem trimL_shape (xs : List Int) : ∃ k, xs = trimL xs ++ List.replicate k 0 ∧ (trimL xs = [] ∨ ∃ ys y, y ≠ 0 ∧ trimL xs = ys ++ [y]) := by
  induction h : xs.length generalizing xs with
  | zero =>
    have : xs = [] := List.length_eq_zero_iff.mp h
    subst this
    exact ⟨0, rfl, .inl rfl⟩
  | succ n ih =>
    have hne : xs ≠ [] := by intro e; subst e; simp at h
    have e := List.dropLast_concat_getLast hne
    by_cases g : xs.getLast hne = 0
    · obtain ⟨k, h1, h2⟩ := ih xs.dropLast (by rw [List.length_dropLast]; omega)
      have et : trimL xs = trimL xs.dropLast := by rw [trimL_snoc hne, if_pos g]
      refine ⟨k + 1, ?_, by rw [et]; exact h2⟩
      rw [et]
      conv => lhs; rw [← e, g, h1]
      rw [List.append_assoc, ← List.replicate_succ']
    · have et : trimL xs = xs := by rw [trimL_snoc hne, if_neg g]
      refine ⟨0, by rw [et]; simp, .inr ⟨xs.dropLast, xs.getLast hne, g, ?_⟩⟩
      rw [et]; exact e.symm
theorem co_append_zeros (xs : List Int) (i : Nat) : ∀ k, co (xs ++ List.replicate k 0) i = co xs i
  | 0 => by simp
  | k + 1 => by
    rw [List.replicate_succ', ← List.append_assoc, co_append_zero, co_append_zeros xs i k]
theorem co_trim (xs : List Int) (i : Nat) : co (trimL xs) i = co xs i := by
  obtain ⟨k, h, _⟩ := trimL_shape xs
  conv => rhs; rw [h]
  rw [co_append_zeros]
theorem co_last (ys : List Int) (y : Int) : co (ys ++ [y]) ys.length = y := by
  unfold co
  rw [List.getD_eq_getElem?_getD, List.getElem?_append_right (Nat.le_refl _)]
  simp
theorem trim_len_le {a b : List Int} (h : ∀ i, co a i = co b i) : (trimL a).length ≤ (trimL b).length := by
  obtain ⟨_, _, h2⟩ := trimL_shape a
  rcases h2 with e | ⟨ys, y, hy, e⟩
  · rw [e]; simp
  · apply Nat.le_of_not_lt
    intro hl
    rw [e] at hl
    have h1 := h ys.length
    rw [← co_trim a, ← co_trim b, e, co_last, co_ge (a := trimL b) (by simp at hl; omega)] at h1
    exact hy h1
theorem trim_ext {a b : List Int} (h : ∀ i, co a i = co b i) : trimL a = trimL b := by
  have hl : (trimL a).length = (trimL b).length := Nat.le_antisymm (trim_len_le h) (trim_len_le fun i => (h i).symm)
  apply List.ext_getElem hl
  intro i h1 h2
  have := h i
  rw [← co_trim a, ← co_trim b] at this
  unfold co at this
  rw [List.getD_eq_getElem?_getD, List.getD_eq_getElem?_getD, List.getElem?_eq_getElem h1, List.getElem?_eq_getElem h2] at this
  exact this
def oneL (p : Nat) : List Int := [1] ++ List.replicate (p - 1) 0 ++ [-1]
def lessL (a : List Int) (p : Nat) : List Int := (List.range (a.length + p)).map (sh p (co a))
theorem oneL_len {p : Nat} (h : 1 ≤ p) : (oneL p).length = p + 1 := by unfold oneL; simp; omega
theorem lessL_len {a : List Int} {p : Nat} : (lessL a p).length = a.length + p := by unfold lessL; simp
theorem co_range (f : Nat → Int) {N i : Nat} (h : i < N) : co ((List.range N).map f) i = f i := by
  unfold co
  rw [List.getD_eq_getElem?_getD, List.getElem?_eq_getElem (by simpa using h)]; simp
theorem co_less (a : List Int) (p i : Nat) : co (lessL a p) i = sh p (co a) i := by
  by_cases h : i < a.length + p
  · exact co_range _ h
  · rw [co_ge (by rw [lessL_len]; omega)]
    unfold sh
    rw [co_ge (a := a) (by omega), co_ge (a := a) (i := i - p) (by omega)]
    simp
/-- one place of one list times a number -/
theorem sum_term (a : List Int) (i k : Nat) (c : Int) : ((enumH 0 a).map fun q => term i q (k, c)).sum = (if k ≤ i then co a (i - k) else 0) * c := by
  have gen : ∀ (a : List Int) (o : Nat), ((enumH o a).map fun q => term i q (k, c)).sum = (if o + k ≤ i then co a (i - k - o) else 0) * c := by
    intro a
    induction a with
    | nil => intro o; simp [enumH, co]
    | cons x a ih =>
      intro o
      have e : enumH o (x :: a) = (o, x) :: enumH (o + 1) a := rfl
      rw [e, List.map_cons, List.sum_cons, ih (o + 1)]
      unfold term
      by_cases h1 : o + k = i
      · rw [if_pos h1, if_neg (by omega), if_pos (by omega), show i - k - o = 0 by omega]
        simp [co]
      · rw [if_neg h1]
        by_cases h2 : o + k ≤ i
        · rw [if_pos h2, if_pos (by omega), show i - k - o = (i - k - (o + 1)) + 1 by omega]
          simp [co]
        · rw [if_neg h2, if_neg (by omega)]
          simp
  have := gen a 0
  rw [Nat.zero_add, Nat.sub_zero] at this
  exact this
theorem mem_oneL {p : Nat} {q : Nat × Int} (h : q ∈ enumH 1 (List.replicate (p - 1) (0 : Int))) : q.2 = 0 := by
  have gen : ∀ k o, ∀ q ∈ enumH o (List.replicate k (0 : Int)), q.2 = 0 := by
    intro k
    induction k with
    | zero => intro o q h; cases h
    | succ k ih =>
      intro o q h
      rw [List.replicate_succ] at h
      rcases List.mem_cons.mp (show q ∈ (o, (0 : Int)) :: enumH (o + 1) (List.replicate k 0) from h) with rfl | h
      · rfl
      · exact ih _ _ h
  exact gen _ _ q h
theorem enumH_append (o : Nat) (a b : List Int) : enumH o (a ++ b) = enumH o a ++ enumH (o + a.length) b := by
  induction a generalizing o with
  | nil => rfl
  | cons x a ih =>
    show (o, x) :: enumH (o + 1) (a ++ b) = (o, x) :: enumH (o + 1) a ++ _
    rw [ih, List.length_cons, show o + 1 + a.length = o + (a.length + 1) by omega]
    rfl
theorem co_mul_one (a : List Int) {p : Nat} (hp : 1 ≤ p) (i : Nat) : co (mulL a (oneL p)) i = sh p (co a) i := by
  by_cases h : i < a.length + (oneL p).length
  · unfold mulL
    rw [co_range _ h]
    unfold convP
    rw [sum_comm]
    have e : enumH 0 (oneL p) = (0, 1) :: (enumH 1 (List.replicate (p - 1) 0) ++ [(p, -1)]) := by
      show enumH 0 (([1] ++ List.replicate (p - 1) 0) ++ [-1]) = _
      rw [enumH_append, enumH_append]
      have : 0 + ([1] ++ List.replicate (p - 1) (0 : Int)).length = p := by simp; omega
      rw [this]
      rfl
    rw [e, List.map_cons, List.sum_cons, List.map_append, List.sum_append, List.map_cons, List.map_nil, List.sum_cons, List.sum_nil]
    rw [sum_zero (l := enumH 1 (List.replicate (p - 1) 0)) fun q hq => by
      have h0 : q.2 = 0 := mem_oneL hq
      obtain ⟨k, c⟩ := q
      have h0 : c = 0 := h0
      subst h0
      rw [sum_term, Int.mul_zero]]
    rw [sum_term, sum_term]
    unfold sh
    simp
    split <;> omega
  · rw [co_ge (by rw [mulL_len]; omega)]
    rw [oneL_len hp] at h
    unfold sh
    rw [co_ge (a := a) (by omega), co_ge (a := a) (i := i - p) (by omega)]
    simp
theorem sh_congr {f g : Nat → Int} (p : Nat) (h : ∀ i, f i = g i) (i : Nat) : sh p f i = sh p g i := by unfold sh; rw [h, h]
theorem trim_times_one (a : List Int) {p : Nat} (hp : 1 ≤ p) : trimL (mulL (trimL a) (oneL p)) = trimL (lessL a p) := by
  apply trim_ext
  intro i
  rw [co_mul_one _ hp, co_less]
  exact sh_congr p (co_trim a) i
/-- the sum over two parts of a number -/
def cv (f g : Nat → Int) (n : Nat) : Int := ((List.range (n + 1)).map fun j => f j * g (n - j)).sum
theorem sh_comm (p q : Nat) (f : Nat → Int) (n : Nat) : sh p (sh q f) n = sh q (sh p f) n := by
  unfold sh
  by_cases h1 : p ≤ n <;> by_cases h2 : q ≤ n
  · simp only [if_pos h1, if_pos h2]
    by_cases h3 : p + q ≤ n
    · rw [if_pos (show q ≤ n - p by omega), if_pos (show p ≤ n - q by omega), Nat.sub_right_comm]
      omega
    · rw [if_neg (show ¬ q ≤ n - p by omega), if_neg (show ¬ p ≤ n - q by omega)]
      omega
  · simp only [if_pos h1, if_neg h2]
    rw [if_neg (show ¬ q ≤ n - p by omega)]
    omega
  · simp only [if_neg h1, if_pos h2]
    rw [if_neg (show ¬ p ≤ n - q by omega)]
    omega
  · simp only [if_neg h1, if_neg h2]
theorem sum_sub {α : Type} (f g : α → Int) : ∀ l : List α, (l.map fun x => f x - g x).sum = (l.map f).sum - (l.map g).sum
  | [] => rfl
  | x :: l => by
    simp only [List.map_cons, List.sum_cons]
    rw [sum_sub f g l]
    omega
theorem cv_shl (p : Nat) (f g : Nat → Int) (n : Nat) : cv (sh p f) g n = sh p (cv f g) n := by
  unfold cv
  have e : ((List.range (n + 1)).map fun j => sh p f j * g (n - j)) = (List.range (n + 1)).map fun j => f j * g (n - j) - (if p ≤ j then f (j - p) else 0) * g (n - j) := by
    apply List.map_congr_left
    intro j _
    unfold sh
    rw [Int.sub_mul]
  rw [e, sum_sub]
  show _ = _ - _
  congr 1
  by_cases h : p ≤ n
  · rw [if_pos h]
    have gen : ∀ m, ((List.range (p + m)).map fun j => (if p ≤ j then f (j - p) else 0) * g (n - j)).sum = ((List.range m).map fun j => f j * g (n - (p + j))).sum := by
      intro m
      induction m with
      | zero =>
        refine sum_zero fun x hx => ?_
        have := List.mem_range.mp hx
        rw [if_neg (by omega), Int.zero_mul]
      | succ m ih =>
        rw [show p + (m + 1) = (p + m) + 1 from rfl, sum_range_succ, sum_range_succ, ih, if_pos (by omega), show p + m - p = m by omega]
    have := gen (n - p + 1)
    rw [show p + (n - p + 1) = n + 1 by omega] at this
    rw [this]
    refine sum_map_congr fun j _ => ?_
    rw [Nat.sub_add_eq]
  · rw [if_neg h]
    refine sum_zero fun x hx => ?_
    have := List.mem_range.mp hx
    rw [if_neg (by omega), Int.zero_mul]
theorem sum_rev (f : Nat → Int) : ∀ n, ((List.range (n + 1)).map fun j => f (n - j)).sum = ((List.range (n + 1)).map f).sum
  | 0 => rfl
  | n + 1 => by
    rw [sum_range_succ', sum_range_succ f (n + 1), ← sum_rev f n]
    have : ((List.range (n + 1)).map fun i => f (n + 1 - (i + 1))) = (List.range (n + 1)).map fun j => f (n - j) := by
      apply List.map_congr_left
      intro i _
      rw [Nat.add_sub_add_right]
    rw [this, Nat.sub_zero]
    omega
theorem cv_comm (f g : Nat → Int) (n : Nat) : cv f g n = cv g f n := by
  unfold cv
  rw [← sum_rev (fun j => f j * g (n - j)) n]
  refine sum_map_congr fun j hj => ?_
  have := List.mem_range.mp hj
  show f (n - j) * g (n - (n - j)) = _
  rw [show n - (n - j) = j by omega, Int.mul_comm]
theorem cv_shr (p : Nat) (f g : Nat → Int) (n : Nat) : cv f (sh p g) n = sh p (cv f g) n := by
  rw [cv_comm, cv_shl]
  exact sh_congr p (cv_comm g f) n
theorem cv_congr {f f' g g' : Nat → Int} {N : Nat} (h : ∀ i, i ≤ N → f i = f' i) (h2 : ∀ i, i ≤ N → g i = g' i) {n : Nat} (hn : n ≤ N) : cv f g n = cv f' g' n := by
  unfold cv
  refine sum_map_congr fun j hj => ?_
  have := List.mem_range.mp hj
  rw [h j (by omega), h2 (n - j) (by omega)]
theorem popAt_in {ns : List Int} {i : Int} {k : List D → D → Prop} (h0 : 0 ≤ i) (h1 : i < ns.length) (q : ∀ j (h : j < ns.length), k ((ns.eraseIdx j).map PyData.int) (.int ns[j])) : getK (seqIndex? i (ns.map PyData.int).length) fun n => getK (ns.map PyData.int)[n]? fun d => k ((ns.map PyData.int).eraseIdx n) d := by
  refine seq_at h0 (by rw [List.length_map]; exact h1) ?_
  have hj : i.toNat < ns.length := by omega
  refine get_at (by rw [List.length_map]; exact hj) ?_
  have := q _ hj
  rw [map_erase', List.getElem_map]
  exact this
theorem nodup_erase : ∀ {ns : List Int} (h : ns.Nodup) {j : Nat} (hj : j < ns.length), (ns.eraseIdx j).Nodup ∧ ns[j] ∉ ns.eraseIdx j
  | [], _, _, hj => absurd hj (by simp)
  | x :: xs, h, 0, _ => ⟨(List.nodup_cons.mp h).2, (List.nodup_cons.mp h).1⟩
  | x :: xs, h, j + 1, hj => by
    have hj' : j < xs.length := by simpa using hj
    obtain ⟨h1, h2⟩ := nodup_erase (List.nodup_cons.mp h).2 hj'
    refine ⟨h.sublist (List.eraseIdx_sublist ..), fun hm => ?_⟩
    rcases List.mem_cons.mp (show xs[j] ∈ x :: xs.eraseIdx j from hm) with e | hm
    · exact (List.nodup_cons.mp h).1 (e ▸ List.getElem_mem hj')
    · exact h2 hm
theorem co_bound {a : List Int} {B : Nat} (h : ∀ x ∈ a, x.natAbs ≤ B) (i : Nat) : (co a i).natAbs ≤ B := by
  by_cases g : i < a.length
  · exact h _ (getD_in g)
  · rw [co_ge (by omega)]; simp
theorem less_bound {a : List Int} {B p : Nat} (h : ∀ x ∈ a, x.natAbs ≤ B) : ∀ x ∈ lessL a p, x.natAbs ≤ 2 * B := by
  intro x hx
  obtain ⟨i, _, rfl⟩ := List.mem_map.mp hx
  have h1 := co_bound h i
  have h2 := co_bound h (i - p)
  unfold sh
  split <;> omega
def botL (s : List (Int × Option Int)) : List Int := s.foldl (fun a r => lessL a r.1.toNat) [1]
def topS (a : List Int) (r : Int × Option Int) : List Int := match r.2 with | none => a | some m => lessL a (r.1 * (m + 1)).toNat
def topL (s : List (Int × Option Int)) : List Int := s.foldl topS [1]
theorem botL_snoc (p : List (Int × Option Int)) (i : Int) (m : Option Int) : botL (p ++ [(i, m)]) = lessL (botL p) i.toNat := by unfold botL; rw [List.foldl_append]; rfl
theorem topL_none (p : List (Int × Option Int)) (i : Int) : topL (p ++ [(i, none)]) = topL p := by unfold topL; rw [List.foldl_append]; rfl
theorem topL_some (p : List (Int × Option Int)) (i m : Int) : topL (p ++ [(i, some m)]) = lessL (topL p) (i * (m + 1)).toNat := by unfold topL; rw [List.foldl_append]; rfl
theorem mul_row {i m : Int} (h1 : 1 ≤ i) (h2 : i ≤ 24) (h3 : 0 ≤ m) (h4 : m ≤ 9) : 1 ≤ i * (m + 1) ∧ i * (m + 1) ≤ 240 := by
  have e1 : i * (m + 1) ≤ 24 * 10 := Int.mul_le_mul h2 (by omega) (by omega) (by omega)
  have e2 : 1 * 1 ≤ i * (m + 1) := Int.mul_le_mul h1 (by omega) (by omega) (by omega)
  omega
/-- what a store lets be taken of a part -/
def lkS (s : List (Int × Option Int)) (x : Int) : Option (Option Int) := (s.find? fun r => decide (r.1 = x)).map (·.2)
def okX (s : List (Int × Option Int)) (h : List Int) (x : Int) : Bool := match lkS s x with | none => false | some none => true | some (some m) => decide ((h.count x : Int) ≤ m)
def ofSt (s : List (Int × Option Int)) (h : List Int) : Bool := h.all (okX s h)
theorem lkS_head (s : List (Int × Option Int)) (x : Int) : lkS s x = (s.filter fun r => decide (r.1 = x)).head?.map (·.2) := by
  unfold lkS
  rw [List.head?_filter]
theorem lkS_snoc {p : List (Int × Option Int)} {i : Int} {m : Option Int} (h : ((p ++ [(i, m)]).map (·.1)).Nodup) (x : Int) : lkS (p ++ [(i, m)]) x = if i = x then some m else lkS p x := by
  unfold lkS
  rw [List.find?_append]
  by_cases e : i = x
  · subst e
    rw [List.map_append, List.nodup_append] at h
    have : (p.find? fun r => decide (r.1 = i)) = none := by
      rw [List.find?_eq_none]
      intro r hr he
      exact h.2.2 r.1 (List.mem_map.mpr ⟨r, hr, rfl⟩) i (by simp) (by simpa using he)
    rw [this]
    simp
  · rw [if_neg e]
    simp [e]
theorem okX_out {s : List (Int × Option Int)} {h : List Int} {x : Int} (hx : x ∈ h) (e : okX s h x = false) : ofSt s h = false := by
  unfold ofSt
  rw [List.all_eq_false]
  exact ⟨x, hx, by rw [e]; simp⟩
theorem okX_in {s : List (Int × Option Int)} {h : List Int} (e : ∀ x ∈ h, okX s h x = true) : ofSt s h = true := by
  unfold ofSt
  rw [List.all_eq_true]
  exact e
theorem heapK_nil' {k : Heap1 → Prop} (q : k []) : heapK (.tuple []) k := heapK_in (h := []) q
end Dt

/-! # Dt: rows as functions; five-cornered numbers -/
namespace Dt
open PySem PySem.Spec PyProof.Rows L2
def dl (n : Nat) : Int := if n = 0 then 1 else 0
def mv (a : Nat) (f : Nat → Int) (n : Nat) : Int := if a ≤ n then f (n - a) else 0
theorem sh_mv (p : Nat) (f : Nat → Int) (n : Nat) : sh p f n = f n - mv p f n := rfl
theorem mv_mv (a b : Nat) (f : Nat → Int) (n : Nat) : mv a (mv b f) n = mv (a + b) f n := by
  unfold mv
  by_cases h : a + b ≤ n
  · rw [if_pos (by omega), if_pos (by omega), if_pos h, Nat.sub_sub]
  · rw [if_neg h]
    split
    · rw [if_neg (by omega)]
    · rfl
theorem mv_sub (a : Nat) (f g : Nat → Int) (n : Nat) : mv a (fun i => f i - g i) n = mv a f n - mv a g n := by
  unfold mv
  by_cases h : a ≤ n
  · simp only [if_pos h]
  · simp only [if_neg h]; rfl
theorem mv_congr (a : Nat) {f g : Nat → Int} (h : ∀ i, f i = g i) (n : Nat) : mv a f n = mv a g n := by
  unfold mv
  split
  · exact h _
  · rfl
/-- the product of 1 less x to the powers s+1 .. s+d -/
def pr (s : Nat) : Nat → Nat → Int
  | 0 => dl
  | d + 1 => sh (s + d + 1) (pr s d)
theorem pr_front (s : Nat) : ∀ d i, pr s (d + 1) i = sh (s + 1) (pr (s + 1) d) i
  | 0, i => rfl
  | d + 1, i => by
    show sh (s + (d + 1) + 1) (pr s (d + 1)) i = sh (s + 1) (sh (s + 1 + d + 1) (pr (s + 1) d)) i
    rw [sh_congr _ (pr_front s d), sh_comm, show s + (d + 1) + 1 = s + 1 + d + 1 by omega]
def tri : Nat → Nat
  | 0 => 0
  | s + 1 => tri s + s + 1
def sg (s : Nat) : Int := if s % 2 = 0 then 1 else -1
theorem sg_succ (s : Nat) : sg (s + 1) = - sg s := by
  unfold sg
  by_cases h : s % 2 = 0
  · rw [if_pos h, if_neg (by omega)]
  · rw [if_neg h, if_pos (by omega)]; rfl
def shA (n s j : Nat) : Int := mv (s * n + tri s) (pr s (n - s)) j
def shD (n s j : Nat) : Int := mv ((s + 1) * (n + 1) + tri s) (pr s (n - s)) j
def shF (n j : Nat) : Int := ((List.range (n + 1)).map fun s => sg s * shA n s j).sum
theorem shC_zero (n j : Nat) : shA (n + 1) 0 j = shA n 0 j - shD n 0 j := by
  unfold shA shD
  have e : pr 0 (n + 1 - 0) = sh (0 + n + 1) (pr 0 n) := rfl
  rw [e]
  simp only [Nat.zero_mul, Nat.zero_add, Nat.sub_zero, Nat.one_mul, tri, Nat.add_zero]
  unfold mv
  rw [if_pos (Nat.zero_le _), if_pos (Nat.zero_le _), Nat.sub_zero]
  rfl
theorem shC_succ (n s j : Nat) (h : s + 1 ≤ n) : shA (n + 1) (s + 1) j = shA n (s + 1) j - shD n s j - shD n (s + 1) j := by
  have e1 : pr (s + 1) (n + 1 - (s + 1)) = fun i => pr (s + 1) (n - (s + 1)) i - mv (n + 1) (pr (s + 1) (n - (s + 1))) i := by
    rw [show n + 1 - (s + 1) = (n - (s + 1)) + 1 by omega]
    funext i
    show sh (s + 1 + (n - (s + 1)) + 1) _ i = _
    rw [show s + 1 + (n - (s + 1)) + 1 = n + 1 by omega]
    rfl
  have e2 : ∀ i, mv (s + 1) (pr (s + 1) (n - (s + 1))) i = pr (s + 1) (n - (s + 1)) i - pr s (n - s) i := fun i => by
    rw [show n - s = (n - (s + 1)) + 1 by omega, pr_front, sh_mv]
    omega
  have e3 : mv ((s + 1) * (n + 1) + tri (s + 1)) (pr (s + 1) (n - (s + 1))) j = shA n (s + 1) j - shD n s j := by
    have : (s + 1) * (n + 1) + tri (s + 1) = ((s + 1) * n + tri (s + 1)) + (s + 1) := by rw [Nat.mul_succ]; omega
    rw [this, ← mv_mv, mv_congr _ e2, mv_sub]
    unfold shA shD
    have e4 : (s + 1) * n + tri (s + 1) = (s + 1) * (n + 1) + tri s := by rw [Nat.mul_succ]; simp only [tri]; omega
    rw [e4]
  conv => lhs; unfold shA
  rw [e1, mv_sub, e3, mv_mv]
  show _ = _ - mv ((s + 1 + 1) * (n + 1) + tri (s + 1)) (pr (s + 1) (n - (s + 1))) j
  rw [show (s + 1) * (n + 1) + tri (s + 1) + (n + 1) = (s + 1 + 1) * (n + 1) + tri (s + 1) by rw [Nat.succ_mul (s + 1)]; omega]
theorem sh_tele (n j : Nat) : ∀ k, k ≤ n → ((List.range (k + 1)).map fun s => sg s * shA (n + 1) s j).sum = ((List.range (k + 1)).map fun s => sg s * shA n s j).sum - sg k * shD n k j
  | 0, _ => by
    simp only [Nat.zero_add, List.range_one, List.map_cons, List.map_nil, List.sum_cons, List.sum_nil, shC_zero]
    rw [show sg 0 = 1 from rfl]
    omega
  | k + 1, h => by
    rw [sum_range_succ _ (k + 1), sum_range_succ _ (k + 1), sh_tele n j k (by omega), shC_succ n k j h, sg_succ]
    rw [Int.mul_sub, Int.mul_sub]
    simp only [Int.neg_mul]
    omega
def g1 (m : Nat) : Nat := m * m + tri (m - 1)
def g2 (m : Nat) : Nat := m * m + tri m
theorem shF_step (n j : Nat) : shF (n + 1) j = shF n j + sg (n + 1) * (mv (g1 (n + 1)) dl j + mv (g2 (n + 1)) dl j) := by
  unfold shF
  rw [sum_range_succ _ (n + 1), sh_tele n j n (Nat.le_refl n)]
  have e1 : shD n n j = mv (g1 (n + 1)) dl j := by
    unfold shD g1
    rw [Nat.sub_self]
    rfl
  have e2 : shA (n + 1) (n + 1) j = mv (g2 (n + 1)) dl j := by
    unfold shA g2
    rw [Nat.sub_self]
    rfl
  rw [e1, e2, sg_succ, Int.mul_add]
  simp only [Int.neg_mul]
  omega
theorem shF_sum (n j : Nat) : shF n j = dl j + ((List.range n).map fun m => sg (m + 1) * (mv (g1 (m + 1)) dl j + mv (g2 (m + 1)) dl j)).sum := by
  induction n with
  | zero =>
    simp only [shF, Nat.zero_add, List.range_one, List.map_cons, List.map_nil, List.sum_cons, List.sum_nil, List.range_zero]
    rw [show sg 0 = 1 from rfl]
    show 1 * mv (0 * 0 + 0) dl j + 0 = dl j + 0
    unfold mv
    simp
  | succ n ih =>
    rw [shF_step, ih, sum_range_succ]
    omega
theorem shF_low {n j : Nat} (h : j ≤ n) : shF n j = pr 0 n j := by
  unfold shF
  rw [sum_range_succ']
  have : ((List.range n).map fun i => sg (i + 1) * shA n (i + 1) j).sum = 0 := sum_zero fun s hs => by
    unfold shA mv
    rw [if_neg, Int.mul_zero]
    have : n ≤ (s + 1) * n := Nat.le_mul_of_pos_left n (by omega)
    simp only [tri]
    omega
  rw [this]
  unfold shA mv
  simp [tri, sg]
/-- the numbers of partings, by the five-cornered numbers -/
theorem pent {n N : Nat} {f : Nat → Int} (h : N ≤ n) (hN : 1 ≤ N) (hf : cv (pr 0 n) f N = 0) : f N = ((List.range n).map fun m => sg m * (mv (g1 (m + 1)) f N + mv (g2 (m + 1)) f N)).sum := by
  have e1 : cv (pr 0 n) f N = cv (shF n) f N := cv_congr (N := N) (fun i hi => (shF_low (by omega)).symm) (fun _ _ => rfl) (Nat.le_refl N)
  rw [e1] at hf
  have hd : ∀ g, ((List.range (N + 1)).map fun j => mv g dl j * f (N - j)).sum = mv g f N := fun g => by
    by_cases hg : g ≤ N
    · have key : ∀ k, ((List.range (k + 1)).map fun j => mv g dl j * f (N - j)).sum = if g ≤ k then f (N - g) else 0 := by
        intro k
        induction k with
        | zero =>
          simp only [Nat.zero_add, List.range_one, List.map_cons, List.map_nil, List.sum_cons, List.sum_nil]
          unfold mv dl
          by_cases h0 : g = 0
          · subst h0; simp
          · simp [h0]
        | succ k ih =>
          rw [sum_range_succ _ (k + 1), ih]
          unfold mv dl
          by_cases h1 : g ≤ k
          · have a1 : g ≤ k + 1 := by omega
            have a2 : ¬ k + 1 - g = 0 := by omega
            simp only [if_pos h1, if_pos a1, if_neg a2]
            omega
          · by_cases h2 : g = k + 1
            · subst h2
              have a3 : ¬ k + 1 ≤ k := by omega
              simp [a3]
            · have a1 : ¬ g ≤ k + 1 := by omega
              simp only [if_neg h1, if_neg a1]
              omega
      rw [key N, if_pos hg]
      unfold mv
      rw [if_pos hg]
    · unfold mv
      rw [if_neg hg]
      refine sum_zero fun j hj => ?_
      have := List.mem_range.mp hj
      rw [if_neg (by omega), Int.zero_mul]
  have h0 : ((List.range (N + 1)).map fun j => dl j * f (N - j)).sum = f N := by
    have := hd 0
    have e : ∀ f, mv 0 f = f := fun f => by funext i; unfold mv; simp
    simpa [e] using this
  have e2 : cv (shF n) f N = f N + ((List.range n).map fun m => sg (m + 1) * (mv (g1 (m + 1)) f N + mv (g2 (m + 1)) f N)).sum := by
    unfold cv
    have : ((List.range (N + 1)).map fun j => shF n j * f (N - j)) = (List.range (N + 1)).map fun j => dl j * f (N - j) + ((List.range n).map fun m => sg (m + 1) * (mv (g1 (m + 1)) dl j * f (N - j) + mv (g2 (m + 1)) dl j * f (N - j))).sum := by
      apply List.map_congr_left
      intro j _
      rw [shF_sum, Int.add_mul]
      congr 1
      have sm : ∀ (l : List Nat) (g : Nat → Int) (c : Int), (l.map g).sum * c = (l.map fun m => g m * c).sum := fun l g c => by
        induction l with
        | nil => simp
        | cons x l ih => simp only [List.map_cons, List.sum_cons]; rw [Int.add_mul, ih]
      rw [sm]
      refine sum_map_congr fun m _ => ?_
      rw [Int.mul_assoc, Int.add_mul]
    rw [this, sum_add, h0, sum_comm]
    congr 1
    refine sum_map_congr fun m _ => ?_
    have sm : ∀ (l : List Nat) (g : Nat → Int) (c : Int), (l.map fun j => c * g j).sum = c * (l.map g).sum := fun l g c => by
      induction l with
      | nil => simp
      | cons x l ih => simp only [List.map_cons, List.sum_cons]; rw [Int.mul_add, ih]
    rw [sm, sum_add, hd, hd]
  rw [e2] at hf
  have e3 : ((List.range n).map fun m => sg m * (mv (g1 (m + 1)) f N + mv (g2 (m + 1)) f N)).sum + ((List.range n).map fun m => sg (m + 1) * (mv (g1 (m + 1)) f N + mv (g2 (m + 1)) f N)).sum = 0 := by
    rw [← sum_add]
    refine sum_zero fun m _ => ?_
    rw [sg_succ, Int.neg_mul]
    omega
  omega
/-- a row, as a function -/
def rowF (f : Nat → Int) (p : Nat) (m : Option Int) (n : Nat) : Int := ((List.range (manyR p m n + 1)).map fun k => f (n - k * p)).sum
def rowG (f : Nat → Int) (r : Int × Option Int) : Nat → Int := rowF f r.1.toNat r.2
def numsF (s : List (Int × Option Int)) : Nat → Int := s.foldl rowG dl
theorem map_getD (f : Nat → Int) {N i : Nat} (h : i < N) : ((List.range N).map f).getD i 0 = f i := co_range f h
theorem rowV_rowF (f : Nat → Int) (p : Nat) (m : Option Int) {N n : Nat} (h : n < N) : rowV ((List.range N).map f) p m n = rowF f p m n := by
  unfold rowV rowF
  refine sum_map_congr fun k _ => map_getD f (by omega)
theorem numsL_gen (N : Nat) : ∀ (s : List (Int × Option Int)) (f : Nat → Int), s.foldl (fun a r => rowL a r.1.toNat r.2) ((List.range (N + 1)).map f) = (List.range (N + 1)).map (s.foldl rowG f)
  | [], f => rfl
  | r :: s, f => by
    rw [List.foldl_cons, List.foldl_cons, ← numsL_gen N s]
    congr 1
    unfold rowL
    rw [List.length_map, List.length_range]
    apply List.map_congr_left
    intro n hn
    exact rowV_rowF f _ _ (List.mem_range.mp hn)
theorem one_dl (N : Nat) : (1 :: List.replicate N 0 : List Int) = (List.range (N + 1)).map dl := by
  rw [List.range_succ_eq_map, List.map_cons, List.map_map]
  congr 1
  apply List.ext_getElem
  · simp
  · intro i h1 h2
    simp [dl]
theorem numsL_eq (s : List (Int × Option Int)) (N : Nat) : numsL s N = (List.range (N + 1)).map (numsF s) := by
  unfold numsL numsF
  rw [one_dl, numsL_gen]
def goodR (r : Int × Option Int) : Prop := 1 ≤ r.1 ∧ ∀ x, r.2 = some x → 0 ≤ x
def unR (f : Nat → Int) (p : Nat) (m : Option Int) : Nat → Int := match m with | none => f | some x => sh (p * (x.toNat + 1)) f
theorem sh_rowF {f : Nat → Int} {p : Nat} {m : Option Int} (hp : 1 ≤ p) (hm : ∀ x, m = some x → 0 ≤ x) (n : Nat) : sh p (rowF f p m) n = unR f p m n := by
  have h := rowV_rec (a := (List.range (n + 1)).map f) (p := p) (m := m) (n := n) hp hm
  rw [rowV_rowF _ _ _ (Nat.lt_succ_self n), rowV_rowF _ _ _ (by omega), map_getD _ (Nat.lt_succ_self n)] at h
  unfold sh
  rw [h]
  unfold rowB
  cases m with
  | none =>
    show _ + _ - 0 - _ = f n
    omega
  | some x =>
    show _ + _ - (if p * (x.toNat + 1) ≤ n then ((List.range (n + 1)).map f).getD (n - p * (x.toNat + 1)) 0 else 0) - _ = f n - if p * (x.toNat + 1) ≤ n then f (n - p * (x.toNat + 1)) else 0
    rw [map_getD _ (by omega)]
    omega
def botG (f : Nat → Int) (r : Int × Option Int) : Nat → Int := sh r.1.toNat f
def topG (f : Nat → Int) (r : Int × Option Int) : Nat → Int := match r.2 with | none => f | some x => sh (r.1.toNat * (x.toNat + 1)) f
theorem cv_rows (n : Nat) : ∀ (s : List (Int × Option Int)) (B N T : Nat → Int), (∀ r ∈ s, goodR r) → (∀ n, cv B N n = T n) → cv (s.foldl botG B) (s.foldl rowG N) n = s.foldl topG T n
  | [], B, N, T, _, h => h n
  | r :: s, B, N, T, hs, h => by
    refine cv_rows n s _ _ _ (fun r hr => hs r (by simp [hr])) fun n => ?_
    obtain ⟨i, m⟩ := r
    obtain ⟨h1, h2⟩ := hs (i, m) (by simp)
    have h1 : 1 ≤ i := h1
    show cv (sh i.toNat B) (rowF N i.toNat m) n = topG T (i, m) n
    rw [cv_shl, ← cv_shr]
    cases m with
    | none =>
      rw [cv_congr (N := n) (fun _ _ => rfl) (fun j _ => sh_rowF (m := none) (by omega) h2 j) (Nat.le_refl n)]
      exact h n
    | some x =>
      rw [cv_congr (N := n) (fun _ _ => rfl) (fun j _ => sh_rowF (m := some x) (by omega) h2 j) (Nat.le_refl n)]
      show cv B (sh (i.toNat * (x.toNat + 1)) N) n = sh (i.toNat * (x.toNat + 1)) T n
      rw [cv_shr]
      exact sh_congr _ h n
theorem cv_dl (n : Nat) : cv dl dl n = dl n := by
  unfold cv
  rw [sum_range_succ', sum_zero (fun j _ => by unfold dl; rw [if_neg (by omega), Int.zero_mul])]
  unfold dl
  simp
theorem co_one (i : Nat) : co [1] i = dl i := by
  cases i with
  | zero => rfl
  | succ i => rfl
theorem botL_co (i : Nat) : ∀ (s : List (Int × Option Int)) (a : List Int) (f : Nat → Int), (∀ i, co a i = f i) → co (s.foldl (fun a r => lessL a r.1.toNat) a) i = s.foldl botG f i
  | [], a, f, h => h i
  | r :: s, a, f, h => botL_co i s _ _ fun i => by
    show co (lessL a r.1.toNat) i = sh r.1.toNat f i
    rw [co_less]
    exact sh_congr _ h i
theorem topL_co (i : Nat) : ∀ (s : List (Int × Option Int)) (a : List Int) (f : Nat → Int), (∀ r ∈ s, goodR r) → (∀ i, co a i = f i) → co (s.foldl topS a) i = s.foldl topG f i
  | [], a, f, _, h => h i
  | (r, m) :: s, a, f, hs, h => topL_co i s _ _ (fun r hr => hs r (by simp [hr])) fun i => by
    cases m with
    | none => exact h i
    | some x =>
      obtain ⟨h1, h2⟩ := hs (r, some x) (by simp)
      have h2 := h2 x rfl
      have h1 : 1 ≤ r := h1
      show co (lessL a (r * (x + 1)).toNat) i = sh (r.toNat * (x.toNat + 1)) f i
      have e : (r * (x + 1)).toNat = r.toNat * (x.toNat + 1) := by
        have e1 : r = (r.toNat : Int) := by omega
        have e2 : x + 1 = ((x.toNat + 1 : Nat) : Int) := by omega
        rw [e2]
        conv => lhs; rw [e1]
        rw [← Int.natCast_mul, Int.toNat_natCast]
      rw [co_less, e]
      exact sh_congr _ h i
/-- bottom times numbers is top -/
theorem fraction (s : List (Int × Option Int)) (hs : ∀ r ∈ s, goodR r) (n : Nat) : cv (co (botL s)) (numsF s) n = co (topL s) n := by
  have h1 := cv_rows n s dl dl dl hs cv_dl
  rw [show co (topL s) n = s.foldl topG dl n from topL_co n s [1] dl hs co_one, ← h1]
  exact cv_congr (N := n) (fun i _ => botL_co i s [1] dl co_one) (fun _ _ => rfl) (Nat.le_refl n)
/-- all parts up to n, as often as one likes -/
def parts (n : Nat) : List (Int × Option Int) := (List.range n).map fun j : Nat => (1 + (j : Int), none)
theorem parts_succ (n : Nat) : parts (n + 1) = parts n ++ [(1 + (n : Int), none)] := by unfold parts; rw [List.range_succ, List.map_append]; rfl
theorem parts_good {n : Nat} : ∀ r ∈ parts n, goodR r := by
  intro r hr
  obtain ⟨j, _, rfl⟩ := List.mem_map.mp hr
  exact ⟨by show 1 ≤ 1 + (j : Int); omega, fun x h => (by cases h)⟩
theorem parts_bot : ∀ n, (parts n).foldl botG dl = pr 0 n
  | 0 => rfl
  | n + 1 => by
    rw [parts_succ, List.foldl_append, parts_bot n]
    show sh (1 + (n : Int)).toNat (pr 0 n) = sh (0 + n + 1) (pr 0 n)
    rw [show (1 + (n : Int)).toNat = 0 + n + 1 by omega]
theorem parts_top : ∀ n, (parts n).foldl topG dl = dl
  | 0 => rfl
  | n + 1 => by rw [parts_succ, List.foldl_append, parts_top n]; rfl
theorem rowF_low {f : Nat → Int} {p i : Nat} {m : Option Int} (h : i < p) : rowF f p m i = f i := by
  have e : manyR p m i = 0 := by
    unfold manyR
    cases m <;> simp [Nat.div_eq_of_lt h]
  unfold rowF
  rw [e]
  simp
/-- the number of partings of n -/
def pF (n : Nat) : Int := numsF (parts n) n
theorem numsF_parts {i : Nat} : ∀ {M : Nat}, i ≤ M → numsF (parts M) i = pF i
  | 0, h => by have : i = 0 := by omega
               subst this; rfl
  | M + 1, h => by
    by_cases e : i = M + 1
    · subst e; rfl
    · rw [← numsF_parts (M := M) (by omega), parts_succ]
      unfold numsF
      rw [List.foldl_append]
      show rowF _ (1 + (M : Int)).toNat none i = _
      exact rowF_low (by omega)
theorem pF_zero : pF 0 = 1 := rfl
theorem pF_rec {N : Nat} (h : 1 ≤ N) : pF N = ((List.range N).map fun m => sg m * (mv (g1 (m + 1)) pF N + mv (g2 (m + 1)) pF N)).sum := by
  have hc := cv_rows N (parts N) dl dl dl parts_good cv_dl
  rw [parts_bot, parts_top] at hc
  have h0 : dl N = 0 := by unfold dl; rw [if_neg (by omega)]
  rw [h0] at hc
  have := pent (f := numsF (parts N)) (Nat.le_refl N) h hc
  have ee : ∀ g, mv g (numsF (parts N)) N = mv g pF N := fun g => by
    unfold mv
    split
    · exact numsF_parts (by omega)
    · rfl
  simp only [ee] at this
  exact this
theorem tri_two : ∀ k, 2 * tri k = k * (k + 1)
  | 0 => rfl
  | k + 1 => by
    have := tri_two k
    simp only [tri, Nat.mul_add, Nat.add_mul] at *
    omega
theorem g2_two (k : Nat) : 2 * g2 k = k * (3 * k + 1) := by
  unfold g2
  have := tri_two k
  have e : k * (3 * k + 1) = 3 * (k * k) + k := by rw [Nat.mul_add, Nat.mul_left_comm]; omega
  have e2 : k * (k + 1) = k * k + k := Nat.mul_succ k k
  omega
theorem g1_two (k : Nat) : 2 * g1 (k + 1) + (k + 1) = 3 * ((k + 1) * (k + 1)) := by
  unfold g1
  have := tri_two k
  have e2 : k * (k + 1) = k * k + k := Nat.mul_succ k k
  have e3 : (k + 1) * (k + 1) = k * k + k + k + 1 := by rw [Nat.mul_add, Nat.add_mul]; omega
  rw [Nat.add_sub_cancel]
  omega
theorem g1_mono {a b : Nat} (h : a ≤ b) : g1 (a + 1) ≤ g1 (b + 1) := by
  have h1 := g1_two a
  have h2 := g1_two b
  have h3 : (a + 1) * (a + 1) ≤ (b + 1) * (b + 1) := Nat.mul_le_mul (by omega) (by omega)
  have h4 : a * a ≤ b * b := Nat.mul_le_mul h h
  have e3 : (a + 1) * (a + 1) = a * a + 2 * a + 1 := by rw [Nat.mul_add, Nat.add_mul]; omega
  have e4 : (b + 1) * (b + 1) = b * b + 2 * b + 1 := by rw [Nat.mul_add, Nat.add_mul]; omega
  omega
theorem g1_g2 (k : Nat) : g1 k ≤ g2 k := by
  unfold g1 g2
  have : tri (k - 1) ≤ tri k := by
    cases k with
    | zero => exact Nat.le_refl _
    | succ k => simp only [tri, Nat.add_sub_cancel]; omega
  omega
theorem g1_ge (k : Nat) : k + 1 ≤ g1 (k + 1) := by
  unfold g1
  have : (k + 1) * 1 ≤ (k + 1) * (k + 1) := Nat.mul_le_mul_left _ (by omega)
  omega
/-- coins are rows -/
theorem coinsP_row {n p : Nat} {w : List Int} (hp : 1 ≤ p) (hpn : p ≤ n) (hw : w.length = n + 1) : coinsP n w p = rowL w p none := by
  have key : ∀ k, k ≤ n + 1 - p → ((List.range k).map (p + ·)).foldl (addAt p) w = (List.range (n + 1)).map fun i => if i < p + k then rowV w p none i else co w i := by
    intro k
    induction k with
    | zero =>
      intro _
      show w = _
      apply List.ext_getElem
      · simp [hw]
      · intro i h1 h2
        simp only [List.getElem_map, List.getElem_range]
        have ew : w[i] = co w i := by
          unfold co
          rw [List.getD_eq_getElem?_getD, List.getElem?_eq_getElem h1]; rfl
        split
        · have : manyR p none i = 0 := Nat.div_eq_of_lt (by omega)
          unfold rowV
          rw [this, ew]
          simp [co]
        · exact ew
    | succ k ih =>
      intro hk
      rw [List.range_succ, List.map_append, List.foldl_append, ih (by omega)]
      show addAt p _ (p + k) = _
      unfold addAt
      rw [map_getD _ (by omega), map_getD _ (by omega), if_neg (by omega)]
      have e1 : (if p + k - p < p + k then rowV w p none (p + k - p) else co w (p + k - p)) = rowV w p none (p + k - p) := if_pos (by omega)
      rw [e1]
      have e2 := rowV_rec (a := w) (p := p) (m := none) (n := p + k) hp (fun x h => by cases h)
      rw [if_pos (by omega)] at e2
      have e3 : rowB w p none (p + k) = 0 := rfl
      have e4 : co w (p + k) + rowV w p none (p + k - p) = rowV w p none (p + k) := by unfold co; omega
      rw [e4]
      apply List.ext_getElem
      · simp
      · intro i h1 h2
        rw [List.getElem_set]
        simp only [List.getElem_map, List.getElem_range]
        by_cases e : p + k = i
        · subst e
          rw [if_pos rfl, if_pos (by omega)]
        · rw [if_neg e]
          by_cases e5 : i < p + k
          · rw [if_pos e5, if_pos (by omega)]
          · rw [if_neg e5, if_neg (by omega)]
  unfold coinsP
  rw [key _ (Nat.le_refl _)]
  unfold rowL
  rw [hw]
  apply List.map_congr_left
  intro i hi
  have := List.mem_range.mp hi
  rw [if_pos (by omega)]
theorem coins_pF (n : Nat) : coinsL n = (List.range (n + 1)).map pF := by
  have key : ∀ k, k ≤ n → ((List.range k).map (1 + ·)).foldl (coinsP n) (1 :: List.replicate n 0) = (parts k).foldl (fun a r => rowL a r.1.toNat r.2) (1 :: List.replicate n 0) := by
    intro k
    induction k with
    | zero => intro _; rfl
    | succ k ih =>
      intro hk
      rw [List.range_succ, List.map_append, List.foldl_append, ih (by omega), parts_succ, List.foldl_append]
      show coinsP n _ (1 + k) = rowL _ (1 + (k : Int)).toNat none
      rw [show (1 + (k : Int)).toNat = 1 + k by omega]
      refine coinsP_row (by omega) (by omega) ?_
      rw [numsL_len']
      simp
  unfold coinsL
  rw [key n (Nat.le_refl n)]
  show numsL (parts n) n = _
  rw [numsL_eq]
  apply List.map_congr_left
  intro i hi
  exact numsF_parts (by have := List.mem_range.mp hi; omega)
/-! how great -/
theorem rowF_abs {f : Nat → Int} {p N B : Nat} {m : Option Int} (hp : 1 ≤ p) (h : ∀ i, i ≤ N → (f i).natAbs ≤ B) : ∀ i, i ≤ N → (rowF f p m i).natAbs ≤ B * (N + 1) := by
  intro i hi
  have h1 : manyR p m i ≤ i := by
    unfold manyR
    cases m with
    | none => exact Nat.div_le_self _ _
    | some x => exact Nat.le_trans (Nat.min_le_left _ _) (Nat.div_le_self _ _)
  unfold rowF
  refine Nat.le_trans (abs_sum_le _ (M := B) fun k _ => h _ (by omega)) ?_
  rw [List.length_range]
  exact Nat.mul_le_mul_left _ (by omega)
theorem numsF_abs {N : Nat} : ∀ (s : List (Int × Option Int)) (f : Nat → Int) (B : Nat), (∀ r ∈ s, goodR r) → (∀ i, i ≤ N → (f i).natAbs ≤ B) → ∀ i, i ≤ N → (s.foldl rowG f i).natAbs ≤ B * (N + 1) ^ s.length
  | [], f, B, _, h, i, hi => by simpa using h i hi
  | r :: s, f, B, hs, h, i, hi => by
    obtain ⟨h1, _⟩ := hs r (by simp)
    have := numsF_abs s (rowG f r) (B * (N + 1)) (fun r hr => hs r (by simp [hr])) (fun i hi => rowF_abs (by omega) h i hi) i hi
    rw [List.foldl_cons, List.length_cons, Nat.pow_succ', ← Nat.mul_assoc]
    exact this
theorem pF_small {n : Nat} (h : n ≤ 400) : (pF n).natAbs < wideB := by
  have h1 : (pF n).natAbs ≤ 1 * (400 + 1) ^ (parts n).length := by
    unfold pF numsF
    exact numsF_abs (N := 400) (parts n) dl 1 parts_good (fun i _ => by unfold dl; split <;> decide) n h
  have h2 : (parts n).length = n := by simp [parts]
  rw [h2, Nat.one_mul] at h1
  refine Nat.lt_of_le_of_lt h1 (Nat.lt_of_le_of_lt (Nat.pow_le_pow_right (by omega) h) ?_)
  rw [wideB_eq]
  decide +kernel
end Dt

/-! # Dt: counting partings -/
namespace Dt
open PySem PySem.Spec PyProof.Rows L2
theorem len_bij {α β : Type} [DecidableEq β] {l1 : List α} {l2 : List β} (φ : α → β) (n1 : l1.Nodup) (n2 : l2.Nodup) (hm : ∀ a ∈ l1, φ a ∈ l2) (hi : ∀ a ∈ l1, ∀ b ∈ l1, φ a = φ b → a = b) (hs : ∀ b ∈ l2, ∃ a ∈ l1, φ a = b) : l1.length = l2.length := by
  have n3 : (l1.map φ).Nodup := by
    rw [List.nodup_iff_pairwise_ne, List.pairwise_map]
    refine List.Pairwise.imp_of_mem ?_ n1
    intro a b ha hb hab e
    exact hab (hi a ha b hb e)
  have : (l1.map φ).Perm l2 := by
    refine (List.perm_ext_iff_of_nodup n3 n2).mpr fun b => ⟨fun h => ?_, fun h => ?_⟩
    · obtain ⟨a, ha, rfl⟩ := List.mem_map.mp h
      exact hm a ha
    · obtain ⟨a, ha, rfl⟩ := hs b h
      exact List.mem_map.mpr ⟨a, ha, rfl⟩
  have := this.length_eq
  rw [List.length_map] at this
  exact this
theorem ltL_irr : ∀ a : List Int, ltL a a = false
  | [] => rfl
  | x :: a => by rw [ltL_tail, ltL_irr a]
theorem pts_nodup (k n m : Nat) : (pts k n m).Nodup := (pts_desc k n m).imp fun {a b} h e => by
  subst e
  rw [ltL_irr] at h
  cases h
theorem pts_all : ∀ {k n m : Nat} {r : Heap1}, n < k → r.sum = (n : Int) → (∀ x ∈ r, 1 ≤ x ∧ x ≤ (m : Int)) → r.Pairwise (· ≥ ·) → r ∈ pts k n m
  | 0, n, m, r, h, _, _, _ => by omega
  | k + 1, n, m, [], h, hs, _, _ => by
    have : n = 0 := by simp at hs; omega
    rw [pts, if_pos this]
    simp
  | k + 1, n, m, x :: r, h, hs, hx, hp => by
    obtain ⟨x1, x2⟩ := hx x (by simp)
    obtain ⟨p1, p2⟩ := List.pairwise_cons.mp hp
    have hr : (r.length : Int) ≤ r.sum := len_le_sum fun y hy => (hx y (by simp [hy])).1
    rw [List.sum_cons] at hs
    rw [pts, if_neg (by omega), List.mem_flatMap]
    refine ⟨x.toNat, mem_downTo.mpr ⟨by omega, by omega⟩, List.mem_map.mpr ⟨r, pts_all (by omega) (by omega) (fun y hy => ⟨(hx y (by simp [hy])).1, ?_⟩) p2, ?_⟩⟩
    · have := p1 y hy
      omega
    · rw [show ((x.toNat : Nat) : Int) = x by omega]
/-- heaps of n -/
def hps (n : Nat) : List Heap1 := pts (n + 1) n n
theorem mem_le_sum : ∀ {r : Heap1}, (∀ x ∈ r, 1 ≤ x) → ∀ x ∈ r, x ≤ r.sum
  | [], _, x, h => by cases h
  | y :: r, h, x, hx => by
    have h1 := h y (by simp)
    have h2 := len_le_sum (r := r) fun z hz => h z (by simp [hz])
    rw [List.sum_cons]
    rcases List.mem_cons.mp hx with rfl | hx
    · omega
    · have := mem_le_sum (r := r) (fun z hz => h z (by simp [hz])) x hx
      omega
theorem hps_iff {k n : Nat} (hk : n < k) {r : Heap1} : r ∈ pts k n n ↔ isHeap r ∧ r.sum = (n : Int) := by
  constructor
  · intro h
    exact ⟨pts_heap h, (pts_mem k n n r h).1⟩
  · rintro ⟨h1, h2⟩
    refine pts_all hk h2 (fun x hx => ⟨h1.2 x hx, ?_⟩) h1.1
    have := mem_le_sum h1.2 x hx
    omega
theorem pts_deep {k n : Nat} (hk : n < k) : (pts k n n).Perm (hps n) := (List.perm_ext_iff_of_nodup (pts_nodup _ _ _) (pts_nodup _ _ _)).mpr fun r => by
  rw [hps_iff hk, hps_iff (Nat.lt_succ_self n)]
theorem sum_without (i : Int) : ∀ h : Heap1, (h.filter fun x => decide (x ≠ i)).sum = h.sum - h.count i * i
  | [] => by simp
  | x :: h => by
    have ih := sum_without i h
    by_cases e : x = i
    · subst e
      rw [List.filter_cons_of_neg (by simp), ih, List.sum_cons, List.count_cons_self, Int.natCast_add, Int.add_mul]
      omega
    · rw [List.filter_cons_of_pos (by simp [e]), List.sum_cons, ih, List.sum_cons, List.count_cons_of_ne e]
      omega
theorem count_without (i x : Int) (h : Heap1) : (h.filter fun y => decide (y ≠ i)).count x = if x = i then 0 else h.count x := by
  by_cases e : x = i
  · subst e
    rw [if_pos rfl, List.count_eq_zero]
    intro hx
    simpa using (List.mem_filter.mp hx).2
  · rw [if_neg e, List.count_filter (by simpa using e)]
theorem down_ext {a b : Heap1} (h1 : a.Pairwise (· ≥ ·)) (h2 : b.Pairwise (· ≥ ·)) (h : ∀ x, a.count x = b.count x) : a = b := down_unique (List.perm_iff_count.mpr h) h1 h2
theorem part_len {α : Type} (f : α → Nat) (l : List α) : ∀ M, (∀ a ∈ l, f a < M) → (l.length : Int) = ((List.range M).map fun k => (((l.filter fun a => decide (f a = k)).length : Nat) : Int)).sum := by
  have gen : ∀ M, (((l.filter fun a => decide (f a < M)).length : Nat) : Int) = ((List.range M).map fun k => (((l.filter fun a => decide (f a = k)).length : Nat) : Int)).sum := by
    intro M
    induction M with
    | zero => simp
    | succ M ih =>
      rw [sum_range_succ, ← ih]
      clear ih
      induction l with
      | nil => rfl
      | cons a l ih =>
        simp only [List.filter_cons]
        have key : ∀ b1 b2 b3 : Bool, decide (f a < M) = b1 → decide (f a < M + 1) = b2 → decide (f a = M) = b3 → ((if b2 = true then 1 else 0 : Nat) = (if b1 = true then 1 else 0) + (if b3 = true then 1 else 0)) := by
          intro b1 b2 b3 e1 e2 e3
          subst e1 e2 e3
          simp only [decide_eq_true_eq]
          split <;> split <;> split <;> omega
        have key := key _ _ _ rfl rfl rfl
        revert key
        generalize decide (f a < M) = b1
        generalize decide (f a < M + 1) = b2
        generalize decide (f a = M) = b3
        intro key
        cases b1 <;> cases b2 <;> cases b3 <;> simp at key ⊢ <;> omega
  intro M h
  rw [← gen M]
  congr 2
  symm
  rw [List.filter_eq_self]
  intro a ha
  exact decide_eq_true (h a ha)
theorem okX_snoc {p : List (Int × Option Int)} {i : Int} {m : Option Int} (hn : ((p ++ [(i, m)]).map (·.1)).Nodup) (h : Heap1) (x : Int) (hx : x ≠ i) : okX (p ++ [(i, m)]) h x = okX p h x := by
  unfold okX
  rw [lkS_snoc hn, if_neg (fun e => hx e.symm)]
theorem okX_count {p : List (Int × Option Int)} {h g : Heap1} {x : Int} (e : h.count x = g.count x) : okX p h x = okX p g x := by
  unfold okX
  rw [e]
theorem ofSt_iff {s : List (Int × Option Int)} {h : Heap1} : ofSt s h = true ↔ ∀ x ∈ h, okX s h x = true := by
  unfold ofSt
  rw [List.all_eq_true]
def upTo (m : Option Int) (c : Nat) : Bool := match m with | none => true | some m => decide ((c : Int) ≤ m)
/-- as many heaps of n are made of a store as its numbers tell -/
theorem store_count : ∀ (len : Nat) (s : List (Int × Option Int)), s.length = len → (∀ r ∈ s, goodR r) → (s.map (·.1)).Nodup → ∀ n, ((((hps n).filter (ofSt s)).length : Nat) : Int) = numsF s n
  | 0, s, hl, _, _, n => by
    have : s = [] := List.length_eq_zero_iff.mp hl
    subst this
    show _ = dl n
    by_cases e : n = 0
    · subst e; rfl
    · have : (hps n).filter (ofSt []) = [] := by
        rw [List.filter_eq_nil_iff]
        intro h hh he
        obtain ⟨h1, h2⟩ := (hps_iff (Nat.lt_succ_self n)).mp hh
        cases h with
        | nil => simp at h2; omega
        | cons x h => cases he
      rw [this]
      unfold dl
      rw [if_neg e]; rfl
  | len + 1, s, hl, hg, hn, n => by
    have hne : s ≠ [] := by intro e; subst e; simp at hl
    obtain ⟨p, i, m, rfl⟩ : ∃ p i m, s = p ++ [(i, m)] := ⟨s.dropLast, (s.getLast hne).1, (s.getLast hne).2, (List.dropLast_concat_getLast hne).symm⟩
    have ih := store_count len p (by simpa using hl) (fun r hr => hg r (by simp [hr])) (hn.sublist (List.Sublist.map _ (List.sublist_append_left ..)))
    obtain ⟨gi, gm⟩ := hg (i, m) (by simp)
    have gi : 1 ≤ i := gi
    have hip : lkS p i = none := by
      unfold lkS
      rw [List.map_append, List.nodup_append] at hn
      have : (p.find? fun r => decide (r.1 = i)) = none := by
        rw [List.find?_eq_none]
        intro r hr he
        exact hn.2.2 r.1 (List.mem_map.mpr ⟨r, hr, rfl⟩) i (by simp) (by simpa using he)
      rw [this]; rfl
    have hki : okX (p ++ [(i, m)]) = fun h x => if x = i then upTo m (h.count x) else okX p h x := by
      funext h x
      by_cases e : x = i
      · subst e
        unfold okX
        rw [lkS_snoc hn, if_pos rfl, if_pos rfl]
        cases m <;> rfl
      · rw [if_neg e]
        exact okX_snoc hn h x e
    have hlim : ∀ h ∈ (hps n).filter (ofSt (p ++ [(i, m)])), h.count i < manyR i.toNat m n + 1 := by
      intro h hh
      obtain ⟨h1, h2⟩ := List.mem_filter.mp hh
      obtain ⟨h3, h4⟩ := (hps_iff (Nat.lt_succ_self n)).mp h1
      have h5 := sum_without i h
      have h6 : 0 ≤ (h.filter fun x => decide (x ≠ i)).sum := by
        have := len_le_sum (r := h.filter fun x => decide (x ≠ i)) fun x hx => h3.2 x (List.mem_filter.mp hx).1
        omega
      have h7 : h.count i ≤ n / i.toNat := by
        rw [Nat.le_div_iff_mul_le (by omega)]
        have : ((h.count i * i.toNat : Nat) : Int) = h.count i * i := by rw [Int.natCast_mul, show ((i.toNat : Nat) : Int) = i by omega]
        omega
      unfold manyR
      cases m with
      | none => show h.count i < n / i.toNat + 1; omega
      | some m =>
        have h8 : (h.count i : Int) ≤ m := by
          by_cases e : i ∈ h
          · have := ofSt_iff.mp h2 i e
            rw [hki] at this
            have : upTo (some m) (h.count i) = true := by simpa using this
            exact of_decide_eq_true this
          · rw [List.count_eq_zero.mpr e]
            exact gm m rfl
        show h.count i < min (n / i.toNat) m.toNat + 1
        omega
    rw [part_len (fun h : Heap1 => h.count i) _ _ hlim]
    have e1 : numsF (p ++ [(i, m)]) n = rowF (numsF p) i.toNat m n := by
      unfold numsF
      rw [List.foldl_append]
      rfl
    rw [e1]
    unfold rowF
    refine sum_map_congr fun k hk => ?_
    have hk := List.mem_range.mp hk
    have hk2 : k ≤ n / i.toNat ∧ ∀ x, m = some x → (k : Int) ≤ x := by
      unfold manyR at hk
      cases m with
      | none =>
        have hk : k < n / i.toNat + 1 := hk
        exact ⟨by omega, fun x h => by cases h⟩
      | some m =>
        have hk : k < min (n / i.toNat) m.toNat + 1 := hk
        exact ⟨by omega, fun x h => by have := gm m rfl; cases h; omega⟩
    have hkn : k * i.toNat ≤ n := Nat.le_trans (Nat.mul_le_mul_right _ hk2.1) (Nat.div_mul_le_self _ _)
    have hkI : ((k * i.toNat : Nat) : Int) = k * i := by rw [Int.natCast_mul, show ((i.toNat : Nat) : Int) = i by omega]
    rw [← ih (n - k * i.toNat)]
    congr 1
    refine len_bij (fun h : Heap1 => h.filter fun x => decide (x ≠ i)) (((pts_nodup _ _ _).filter _).filter _) ((pts_nodup _ _ _).filter _) (fun h hh => ?_) (fun a ha b hb e => ?_) (fun g hgm => ?_)
    · obtain ⟨h1, h2⟩ := List.mem_filter.mp hh
      have h2 : h.count i = k := by simpa using h2
      obtain ⟨h1, h0⟩ := List.mem_filter.mp h1
      obtain ⟨h3, h4⟩ := (hps_iff (Nat.lt_succ_self n)).mp h1
      refine List.mem_filter.mpr ⟨(hps_iff (Nat.lt_succ_self _)).mpr ⟨⟨h3.1.filter _, fun x hx => h3.2 x (List.mem_filter.mp hx).1⟩, ?_⟩, ofSt_iff.mpr fun x hx => ?_⟩
      · rw [sum_without, h2, h4]
        omega
      · obtain ⟨hx1, hx2⟩ := List.mem_filter.mp hx
        have hx2 : x ≠ i := by simpa using hx2
        have := ofSt_iff.mp h0 x hx1
        rw [okX_snoc hn h x hx2] at this
        rw [← this]
        exact okX_count (by rw [count_without, if_neg hx2])
    · obtain ⟨a1, a2⟩ := List.mem_filter.mp ha
      obtain ⟨b1, b2⟩ := List.mem_filter.mp hb
      have a2 : a.count i = k := by simpa using a2
      have b2 : b.count i = k := by simpa using b2
      have a3 := ((hps_iff (Nat.lt_succ_self n)).mp (List.mem_filter.mp a1).1).1
      have b3 := ((hps_iff (Nat.lt_succ_self n)).mp (List.mem_filter.mp b1).1).1
      refine down_ext a3.1 b3.1 fun x => ?_
      by_cases e2 : x = i
      · subst e2; rw [a2, b2]
      · have ea := count_without i x a
        have eb := count_without i x b
        have e : (a.filter fun x => decide (x ≠ i)) = b.filter fun x => decide (x ≠ i) := e
        rw [if_neg e2] at ea eb
        rw [← ea, ← eb, e]
    · obtain ⟨g1, g2⟩ := List.mem_filter.mp hgm
      obtain ⟨g3, g4⟩ := (hps_iff (Nat.lt_succ_self _)).mp g1
      have g5 : i ∉ g := fun hi => by
        have := ofSt_iff.mp g2 i hi
        unfold okX at this
        rw [hip] at this
        cases this
      have hc : ∀ x, ((srt (List.replicate k i ++ g)).reverse).count x = if x = i then k else g.count x := fun x => by
        rw [(perm_srtR _).count_eq, List.count_append, List.count_replicate]
        by_cases e : x = i
        · subst e
          rw [List.count_eq_zero.mpr g5]
          simp
        · have : ¬ i = x := fun z => e z.symm
          simp [e, this]
      have hfil : ((srt (List.replicate k i ++ g)).reverse.filter fun x => decide (x ≠ i)) = g := by
        refine down_ext ((down_srtR _).filter _) g3.1 fun x => ?_
        rw [count_without, hc]
        by_cases e : x = i
        · subst e
          rw [if_pos rfl, List.count_eq_zero.mpr g5]
        · rw [if_neg e, if_neg e]
      have hmem : ∀ x ∈ (srt (List.replicate k i ++ g)).reverse, x = i ∧ 1 ≤ k ∨ x ≠ i ∧ x ∈ g := fun x hx => by
        rw [mem_srtR] at hx
        rcases List.mem_append.mp hx with hx | hx
        · exact .inl ⟨(List.mem_replicate.mp hx).2, Nat.pos_of_ne_zero (List.mem_replicate.mp hx).1⟩
        · exact .inr ⟨fun e => g5 (e ▸ hx), hx⟩
      refine ⟨(srt (List.replicate k i ++ g)).reverse, List.mem_filter.mpr ⟨List.mem_filter.mpr ⟨(hps_iff (Nat.lt_succ_self n)).mpr ⟨⟨down_srtR _, fun x hx => ?_⟩, ?_⟩, ofSt_iff.mpr fun x hx => ?_⟩, ?_⟩, hfil⟩
      · rcases hmem x hx with ⟨rfl, _⟩ | ⟨_, hx⟩
        · exact gi
        · exact g3.2 x hx
      · have := sum_without i (srt (List.replicate k i ++ g)).reverse
        rw [hfil, hc, if_pos rfl, g4] at this
        omega
      · rw [hki]
        rcases hmem x hx with ⟨rfl, _⟩ | ⟨e, hx⟩
        · simp only [if_true]
          cases m with
          | none => rfl
          | some m =>
            show decide _ = true
            rw [hc, if_pos rfl]
            exact decide_eq_true (hk2.2 m rfl)
        · simp only [if_neg e]
          rw [← ofSt_iff.mp g2 x hx]
          exact okX_count (by rw [hc, if_neg e])
      · show decide _ = true
        rw [hc, if_pos rfl]
        simp
/-- as many partings as the numbers tell -/
theorem hps_len (n : Nat) : (((hps n).length : Nat) : Int) = pF n := by
  have hd : ∀ n, ((parts n).map (·.1)).Nodup := fun n => by
    unfold parts
    rw [List.map_map, List.nodup_iff_pairwise_ne, List.pairwise_map]
    refine (List.nodup_range (n := n)).imp ?_
    intro a b hab e
    exact hab (by simp only [Function.comp] at e; omega)
  have hk : ∀ (n : Nat) (x : Int), 1 ≤ x → x ≤ n → lkS (parts n) x = some none := fun n => by
    induction n with
    | zero => intro x h1 h2; omega
    | succ n ih =>
      intro x h1 h2
      have := hd (n + 1)
      rw [parts_succ] at this ⊢
      rw [lkS_snoc this]
      split
      · rfl
      · rename_i hne; exact ih x h1 (by omega)
  rw [show pF n = numsF (parts n) n from rfl, ← store_count _ (parts n) rfl parts_good (hd n) n]
  congr 2
  symm
  rw [List.filter_eq_self]
  intro h hh
  obtain ⟨h1, h2⟩ := (hps_iff (Nat.lt_succ_self n)).mp hh
  refine ofSt_iff.mpr fun x hx => ?_
  unfold okX
  rw [hk n x (h1.2 x hx) (by have := mem_le_sum h1.2 x hx; omega)]
theorem botG_zero : ∀ (s : List (Int × Option Int)) (f : Nat → Int), (∀ r ∈ s, goodR r) → s.foldl botG f 0 = f 0
  | [], _, _ => rfl
  | r :: s, f, h => by
    rw [List.foldl_cons, botG_zero s _ fun r hr => h r (by simp [hr])]
    have := (h r (by simp)).1
    show sh r.1.toNat f 0 = f 0
    unfold sh
    rw [if_neg (by omega)]
    omega
theorem bot_zero {s : List (Int × Option Int)} (h : ∀ r ∈ s, goodR r) : (trimL (botL s)).getD 0 0 = 1 := by
  show co (trimL (botL s)) 0 = 1
  rw [co_trim]
  show co (s.foldl _ [1]) 0 = 1
  rw [botL_co 0 s [1] dl co_one, botG_zero s dl h]
  rfl
theorem sum_cut {f : Nat → Int} {a : Nat} (h : ∀ m, a ≤ m → f m = 0) (b : Nat) (hab : a ≤ b) : ((List.range b).map f).sum = ((List.range a).map f).sum := by
  obtain ⟨d, rfl⟩ : ∃ d, b = a + d := ⟨b - a, by omega⟩
  clear hab
  induction d with
  | zero => rfl
  | succ d ih => rw [← Nat.add_assoc, sum_range_succ, ih, h _ (by omega)]; omega
theorem heads_store {s : List (Int × Option Int)} (hs : ∀ r ∈ s, goodR r) : ∀ n, headsL (trimL (topL s)) (trimL (botL s)) n = (List.range n).map (numsF s)
  | 0 => rfl
  | n + 1 => by
    rw [headsL, heads_store hs n, List.range_succ, List.map_append]
    congr 1
    show [hNext _ _ _] = [numsF s n]
    congr 1
    unfold hNext offs offH
    simp only [List.length_map, List.length_range]
    rw [List.map_map]
    have hb := bot_zero hs
    have ht : (trimL (topL s)).getD n 0 = cv (co (trimL (botL s))) (numsF s) n := by
      show co (trimL (topL s)) n = _
      rw [co_trim, ← fraction s hs n]
      exact (cv_congr (N := n) (fun i _ => co_trim _ i) (fun _ _ => rfl) (Nat.le_refl n)).symm
    rw [ht]
    unfold cv
    rw [sum_range_succ', Nat.sub_zero, show co (trimL (botL s)) 0 = 1 from hb, Int.one_mul]
    have e1 : ((List.range n).map fun i => co (trimL (botL s)) (i + 1) * numsF s (n - (i + 1))).sum = ((List.range (min n ((trimL (botL s)).length - 1))).map fun i => co (trimL (botL s)) (i + 1) * numsF s (n - (i + 1))).sum := by
      by_cases h : n ≤ (trimL (botL s)).length - 1
      · rw [Nat.min_eq_left h]
      · rw [Nat.min_eq_right (by omega)]
        exact sum_cut (fun m hm => by rw [co_ge (by omega), Int.zero_mul]) n (by omega)
    have e2 : ((List.range (min n ((trimL (botL s)).length - 1))).map ((fun j => (trimL (botL s)).getD j 0 * ((List.range n).map (numsF s)).getD (n - j) 0) ∘ fun x => 1 + x)).sum = ((List.range (min n ((trimL (botL s)).length - 1))).map fun i => co (trimL (botL s)) (i + 1) * numsF s (n - (i + 1))).sum := by
      refine sum_map_congr fun i hi => ?_
      have := List.mem_range.mp hi
      show (trimL (botL s)).getD (1 + i) 0 * ((List.range n).map (numsF s)).getD (n - (1 + i)) 0 = co (trimL (botL s)) (i + 1) * numsF s (n - (i + 1))
      rw [map_getD _ (by omega), Nat.add_comm 1 i]
      rfl
    rw [e1, e2]
    omega
theorem botL_ok {s : List (Int × Option Int)} (hs : ∀ r ∈ s, okRow r) : (botL s).length ≤ 1 + 24 * s.length ∧ (topL s).length ≤ 1 + 240 * s.length ∧ (∀ x ∈ botL s, x.natAbs ≤ 2 ^ s.length) ∧ ∀ x ∈ topL s, x.natAbs ≤ 2 ^ s.length := by
  induction h : s.length generalizing s with
  | zero =>
    have : s = [] := List.length_eq_zero_iff.mp h
    subst this
    exact ⟨by simp [botL], by simp [topL], by simp [botL], by simp [topL]⟩
  | succ n ih =>
    have hne : s ≠ [] := by intro e; subst e; simp at h
    obtain ⟨p, i, m, rfl⟩ : ∃ p i m, s = p ++ [(i, m)] := ⟨s.dropLast, (s.getLast hne).1, (s.getLast hne).2, (List.dropLast_concat_getLast hne).symm⟩
    obtain ⟨h1, h2, h3, h4⟩ := ih (s := p) (fun r hr => hs r (by simp [hr])) (by simpa using h)
    obtain ⟨r1, r2, r3⟩ := hs (i, m) (by simp)
    have r1 : 1 ≤ i := r1
    have r2 : i ≤ 24 := r2
    refine ⟨?_, ?_, ?_, ?_⟩
    · rw [botL_snoc, lessL_len]; omega
    · cases m with
      | none => rw [topL_none]; omega
      | some m =>
        have r3 := r3 m rfl
        have := mul_row (i := i) (m := m) r1 r2 r3.1 r3.2
        rw [topL_some, lessL_len]; omega
    · rw [botL_snoc]
      intro x hx
      have := less_bound h3 x hx
      rw [Nat.pow_succ]; omega
    · cases m with
      | none =>
        rw [topL_none]
        intro x hx
        have := h4 x hx
        rw [Nat.pow_succ]; omega
      | some m =>
        rw [topL_some]
        intro x hx
        have := less_bound h4 x hx
        rw [Nat.pow_succ]; omega
end Dt

/-! # Dt: how many keep a rule -/
namespace Dt
open PySem PySem.Spec PyProof.Rows L2
/-- sum over all choices of a rule, with signs -/
def ieS (r : List Heap1) (f : List Heap1 → Int) : Int := ((chosenL r).map fun ys => sg ys.length * f ys).sum
theorem ieS_snoc (r : List Heap1) (g : Heap1) (f : List Heap1 → Int) : ieS (r ++ [g]) f = ieS r f - ieS r fun ys => f (ys ++ [g]) := by
  unfold ieS
  rw [chosenL_snoc, List.map_append, List.sum_append, List.map_map]
  have : ((chosenL r).map ((fun ys => sg ys.length * f ys) ∘ fun x => x ++ [g])).sum = ((chosenL r).map fun ys => 0 - sg ys.length * f (ys ++ [g])).sum := by
    refine sum_map_congr fun ys _ => ?_
    show sg (ys ++ [g]).length * f (ys ++ [g]) = _
    rw [List.length_append, List.length_singleton, sg_succ, Int.neg_mul]
    omega
  rw [this, sum_sub, sum_zero (f := fun _ => (0 : Int)) (fun _ _ => rfl)]
  show _ + (0 - ((chosenL r).map fun ys => sg ys.length * f (ys ++ [g])).sum) = _ - ((chosenL r).map fun ys => sg ys.length * f (ys ++ [g])).sum
  omega
theorem ieS_nil (f : List Heap1 → Int) : ieS [] f = f [] := by
  unfold ieS
  show ([sg 0 * f []]).sum = f []
  simp [sg]
theorem ieS_congr {r : List Heap1} {f g : List Heap1 → Int} (h : ∀ ys, (∀ y ∈ ys, y ∈ r) → f ys = g ys) : ieS r f = ieS r g := by
  unfold ieS
  refine sum_map_congr fun ys hys => ?_
  rw [h ys fun y hy => (chosenL_sub hys).subset hy]
theorem ieS_mulc (r : List Heap1) (f : List Heap1 → Int) (c : Int) : ieS r (fun ys => f ys * c) = ieS r f * c := by
  unfold ieS
  have sm : ∀ (l : List (List Heap1)) (g : List Heap1 → Int) (c : Int), (l.map fun m => g m * c).sum = (l.map g).sum * c := fun l g c => by
    induction l with
    | nil => simp
    | cons x l ih => simp only [List.map_cons, List.sum_cons]; rw [Int.add_mul, ih]
  rw [← sm]
  refine sum_map_congr fun ys _ => ?_
  rw [Int.mul_assoc]
theorem ieS_sum {α : Type} (r : List Heap1) (f : α → List Heap1 → Int) (l : List α) : (l.map fun h => ieS r (f h)).sum = ieS r fun ys => (l.map fun h => f h ys).sum := by
  unfold ieS
  rw [sum_comm]
  refine sum_map_congr fun ys _ => ?_
  have sm : ∀ (l : List α) (g : α → Int) (c : Int), (l.map fun m => c * g m).sum = c * (l.map g).sum := fun l g c => by
    induction l with
    | nil => simp
    | cons x l ih => simp only [List.map_cons, List.sum_cons]; rw [Int.mul_add, ih]
  rw [sm]
def b01 (b : Bool) : Int := if b then 1 else 0
theorem b01_and (a b : Bool) : b01 (a && b) = b01 a * b01 b := by cases a <;> cases b <;> rfl
theorem keep_ie (h : Heap1) : ∀ (k : Nat) (r : List Heap1), r.length = k → b01 (keepB r h) = ieS r fun ys => b01 (ys.all fun g => liesIn g h)
  | 0, r, e => by
    have : r = [] := List.length_eq_zero_iff.mp e
    subst this
    rw [ieS_nil]
    rfl
  | k + 1, r, e => by
    have hne : r ≠ [] := by intro z; subst z; simp at e
    obtain ⟨p, g, rfl⟩ : ∃ p g, r = p ++ [g] := ⟨r.dropLast, r.getLast hne, (List.dropLast_concat_getLast hne).symm⟩
    have ih := keep_ie h k p (by simpa using e)
    rw [ieS_snoc, ← ih]
    have : (ieS p fun ys => b01 ((ys ++ [g]).all fun g => liesIn g h)) = ieS p fun ys => b01 (ys.all fun g => liesIn g h) * b01 (liesIn g h) := ieS_congr fun ys _ => by
      rw [List.all_append, b01_and]
      simp
    rw [this, ieS_mulc, ← ih]
    unfold keepB
    rw [List.all_append, b01_and]
    cases (p.all fun x => !liesIn x h) <;> cases hg : liesIn g h <;> simp [b01, hg]
theorem join_lies (ys : List Heap1) (h : Heap1) : (ys.all fun g => liesIn g h) = liesIn (joinL ys) h := by
  rw [Bool.eq_iff_iff, List.all_eq_true, liesIn_iff]
  constructor
  · intro q x
    rw [joinL_count]
    exact mxC_le fun g hg => liesIn_iff.mp (q g hg) x
  · intro q g hg
    refine liesIn_iff.mpr fun x => ?_
    have := q x
    rw [joinL_count] at this
    exact Nat.le_trans (mxC_ge hg x) this
theorem b01_filter {α : Type} (p : α → Bool) (l : List α) : (l.map fun h => b01 (p h)).sum = (((l.filter p).length : Nat) : Int) := by
  induction l with
  | nil => rfl
  | cons x l ih =>
    rw [List.map_cons, List.sum_cons, ih, List.filter_cons]
    cases p x <;> simp [b01] <;> omega
theorem takeOff_heap {J h : Heap1} (hl : ∀ x, J.count x ≤ h.count x) (hh : isHeap h) : isHeap (takeOff J h) ∧ (takeOff J h).sum = h.sum - J.sum := by
  have p := takeOff_perm J h hl
  refine ⟨⟨hh.1.sublist (takeOff_sub J h), fun x hx => hh.2 x ((takeOff_sub J h).subset hx)⟩, ?_⟩
  have : h.sum = (J ++ takeOff J h).sum := perm_sum p
  rw [List.sum_append] at this
  omega
/-- the heaps of n in which J lies -/
theorem lies_count {J : Heap1} (hJ : ∀ x ∈ J, 1 ≤ x) (n : Nat) : ((((hps n).filter (liesIn J)).length : Nat) : Int) = if J.sum ≤ (n : Int) then pF (n - J.sum.toNat) else 0 := by
  have hJ0 : 0 ≤ J.sum := by have := len_le_sum hJ; omega
  split
  · rename_i hs
    rw [← hps_len]
    congr 1
    refine len_bij (takeOff J) ((pts_nodup _ _ _).filter _) (pts_nodup _ _ _) (fun h hh => ?_) (fun a ha b hb e => ?_) (fun g hg => ?_)
    · obtain ⟨h1, h2⟩ := List.mem_filter.mp hh
      obtain ⟨h3, h4⟩ := (hps_iff (Nat.lt_succ_self n)).mp h1
      obtain ⟨h5, h6⟩ := takeOff_heap (liesIn_iff.mp h2) h3
      exact (hps_iff (Nat.lt_succ_self _)).mpr ⟨h5, by rw [h6, h4]; omega⟩
    · obtain ⟨a1, a2⟩ := List.mem_filter.mp ha
      obtain ⟨b1, b2⟩ := List.mem_filter.mp hb
      have a3 := ((hps_iff (Nat.lt_succ_self n)).mp a1).1
      have b3 := ((hps_iff (Nat.lt_succ_self n)).mp b1).1
      refine down_unique ((takeOff_perm J a (liesIn_iff.mp a2)).trans ?_) a3.1 b3.1
      rw [e]
      exact (takeOff_perm J b (liesIn_iff.mp b2)).symm
    · obtain ⟨g1, g2⟩ := (hps_iff (Nat.lt_succ_self _)).mp hg
      have hp := perm_srtR (J ++ g)
      have hl : ∀ x, J.count x ≤ ((srt (J ++ g)).reverse).count x := fun x => by
        rw [hp.count_eq, List.count_append]; omega
      have hh : isHeap (srt (J ++ g)).reverse := ⟨down_srtR _, fun x hx => by
        rw [mem_srtR] at hx
        rcases List.mem_append.mp hx with hx | hx
        · exact hJ x hx
        · exact g1.2 x hx⟩
      refine ⟨(srt (J ++ g)).reverse, List.mem_filter.mpr ⟨(hps_iff (Nat.lt_succ_self n)).mpr ⟨hh, ?_⟩, liesIn_iff.mpr hl⟩, ?_⟩
      · have : (srt (J ++ g)).reverse.sum = (J ++ g).sum := perm_sum hp
        rw [this, List.sum_append, g2]
        omega
      · refine down_unique ((List.perm_append_left_iff J).mp ((takeOff_perm _ _ hl).symm.trans hp)) (takeOff_heap hl hh).1.1 g1.1
  · rename_i hs
    have : (hps n).filter (liesIn J) = [] := by
      rw [List.filter_eq_nil_iff]
      intro h hh he
      obtain ⟨h3, h4⟩ := (hps_iff (Nat.lt_succ_self n)).mp hh
      obtain ⟨h5, h6⟩ := takeOff_heap (liesIn_iff.mp he) h3
      have := len_le_sum h5.2
      omega
    rw [this]
    rfl
/-- the count by all choices -/
def keepN (r : List Heap1) (n : Nat) : Int := ieS r fun ys => if (joinL ys).sum ≤ (n : Int) then pF (n - (joinL ys).sum.toNat) else 0
def posR (r : List Heap1) : Prop := ∀ h ∈ r, ∀ x ∈ h, 1 ≤ x
theorem joinL_pos {ys : List Heap1} (h : posR ys) : ∀ x ∈ joinL ys, 1 ≤ x := fun x hx => by
  have h1 := List.count_pos_iff.mpr hx
  rw [joinL_count] at h1
  obtain ⟨g, hg, hx⟩ := mxC_pos h1
  exact h g hg x hx
theorem kept_count {r : List Heap1} (hr : posR r) {k n : Nat} (hk : n < k) : ((((pts k n n).filter (keepB r)).length : Nat) : Int) = keepN r n := by
  rw [((pts_deep hk).filter _).length_eq, ← b01_filter]
  have : ((hps n).map fun h => b01 (keepB r h)) = (hps n).map fun h => ieS r fun ys => b01 (liesIn (joinL ys) h) := by
    apply List.map_congr_left
    intro h _
    rw [keep_ie h _ r rfl]
    exact ieS_congr fun ys _ => by rw [join_lies]
  rw [this, ieS_sum]
  unfold keepN
  refine ieS_congr fun ys hys => ?_
  rw [b01_filter]
  exact lies_count (joinL_pos fun h hh => hr h (hys h hh)) n
theorem keepN_choices (r : List Heap1) (n : Nat) : keepN r n = ((choicesL r.length).map fun c => sg c.length * if (joinL (pickC r c)).sum ≤ (n : Int) then pF (n - (joinL (pickC r c)).sum.toNat) else 0).sum := by
  unfold keepN ieS
  rw [chosenL_at ([] : Heap1) r, List.map_map]
  refine sum_map_congr fun c _ => ?_
  show sg (c.map _).length * _ = _
  rw [List.length_map]
  rfl
/-! rules of heaps of one value each -/
theorem cv_inj {B X Y : Nat → Int} {N : Nat} (hB : B 0 = 1) (h : ∀ n, n ≤ N → cv B X n = cv B Y n) : ∀ n, n ≤ N → X n = Y n := by
  intro n
  induction n using Nat.strongRecOn with
  | ind n ih =>
    intro hn
    have := h n hn
    unfold cv at this
    rw [sum_range_succ', sum_range_succ', hB, Int.one_mul, Int.one_mul, Nat.sub_zero] at this
    have e : ((List.range n).map fun i => B (i + 1) * X (n - (i + 1))).sum = ((List.range n).map fun i => B (i + 1) * Y (n - (i + 1))).sum := by
      refine sum_map_congr fun i hi => ?_
      have := List.mem_range.mp hi
      rw [ih (n - (i + 1)) (by omega) (by omega)]
    omega
theorem cv_ie (B : Nat → Int) (r : List Heap1) (f : List Heap1 → Nat → Int) (n : Nat) : cv B (fun i => ieS r fun ys => f ys i) n = ieS r fun ys => cv B (f ys) n := by
  unfold cv
  rw [← ieS_sum]
  refine sum_map_congr fun j _ => ?_
  rw [Int.mul_comm, ← ieS_mulc]
  refine ieS_congr fun ys _ => Int.mul_comm _ _
theorem cv_mv (B X : Nat → Int) (a n : Nat) : cv B (mv a X) n = mv a (cv B X) n := by
  have h1 := cv_shr a B X n
  have h2 : cv B (sh a X) n = cv B X n - cv B (mv a X) n := by
    unfold cv
    rw [← sum_sub]
    refine sum_map_congr fun j _ => ?_
    rw [sh_mv, Int.mul_sub]
  rw [h2, sh_mv] at h1
  omega
def wtL (ys : List Heap1) : Nat := (ys.map fun h => h.sum.toNat).sum
def shR (f : Nat → Int) (g : Heap1) : Nat → Int := sh g.sum.toNat f
theorem ie_fold (f : Nat → Int) (i : Nat) : ∀ (k : Nat) (r : List Heap1), r.length = k → (ieS r fun ys => mv (wtL ys) f i) = r.foldl shR f i
  | 0, r, e => by
    have : r = [] := List.length_eq_zero_iff.mp e
    subst this
    rw [ieS_nil]
    show mv 0 f i = f i
    unfold mv
    simp
  | k + 1, r, e => by
    have hne : r ≠ [] := by intro z; subst z; simp at e
    obtain ⟨p, g, rfl⟩ : ∃ p g, r = p ++ [g] := ⟨r.dropLast, r.getLast hne, (List.dropLast_concat_getLast hne).symm⟩
    have hp : p.length = k := by simpa using e
    have ih := fun i => ie_fold f i k p hp
    rw [ieS_snoc, ih, List.foldl_append]
    show _ = sh g.sum.toNat (p.foldl shR f) i
    rw [sh_mv]
    congr 1
    have e1 : ∀ ys, mv (wtL (ys ++ [g])) f i = if g.sum.toNat ≤ i then mv (wtL ys) f (i - g.sum.toNat) else 0 := fun ys => by
      have : wtL (ys ++ [g]) = g.sum.toNat + wtL ys := by unfold wtL; rw [List.map_append, List.sum_append]; simp; omega
      rw [this, ← mv_mv]
      rfl
    simp only [e1]
    unfold mv
    split
    · exact ih _
    · unfold ieS
      exact sum_zero fun ys _ => Int.mul_zero _
theorem shR_far {f : Nat → Int} {n : Nat} : ∀ (r : List Heap1), (∀ h ∈ r, n < h.sum.toNat) → ∀ i, i ≤ n → r.foldl shR f i = f i
  | [], _, i, _ => rfl
  | g :: r, h, i, hi => by
    rw [List.foldl_cons, shR_far r (fun h' hh => h h' (by simp [hh])) i hi]
    have := h g (by simp)
    show sh g.sum.toNat f i = f i
    unfold sh
    rw [if_neg (by omega)]
    omega
theorem shR_perm {r s : List Heap1} (p : r.Perm s) (f : Nat → Int) : r.foldl shR f = s.foldl shR f := by
  refine p.foldl_eq' (fun x _ y _ z => ?_) f
  funext i
  exact sh_comm _ _ _ _
def val1 (h : Heap1) : Int := h.headD 0
def okOne (r : List Heap1) : Prop := (∀ h ∈ r, 1 ≤ val1 h ∧ 1 ≤ h.length ∧ h = List.replicate h.length (val1 h)) ∧ (r.map val1).Nodup
def limR (r : List Heap1) (v : Int) : Option Int := (r.find? fun h => decide (val1 h = v)).map fun h => (h.length : Int) - 1
def limS (r : List Heap1) (n : Nat) : List (Int × Option Int) := (List.range n).map fun j : Nat => (1 + (j : Int), limR r (1 + (j : Int)))
theorem limS_succ (r : List Heap1) (n : Nat) : limS r (n + 1) = limS r n ++ [(1 + (n : Int), limR r (1 + (n : Int)))] := by unfold limS; rw [List.range_succ, List.map_append]; rfl
theorem one_sum {h : Heap1} (e : h = List.replicate h.length (val1 h)) (h1 : 1 ≤ val1 h) : h.sum.toNat = (val1 h).toNat * h.length := by
  have : h.sum = h.length * val1 h := by
    conv => lhs; rw [e]
    rw [List.sum_replicate_int]
  rw [this]
  have e2 : val1 h = ((val1 h).toNat : Int) := by omega
  conv => lhs; rw [e2]
  rw [← Int.natCast_mul, Int.toNat_natCast, Nat.mul_comm]
theorem limS_top {r : List Heap1} (hr : okOne r) : ∀ k, (limS r k).foldl topG dl = (r.filter fun h => decide (val1 h ≤ k)).foldl shR dl
  | 0 => by
    have : (r.filter fun h => decide (val1 h ≤ ((0 : Nat) : Int))) = [] := by
      rw [List.filter_eq_nil_iff]
      intro h hh
      have := (hr.1 h hh).1
      simp; omega
    rw [this]
    rfl
  | k + 1 => by
    rw [limS_succ, List.foldl_append, limS_top hr k]
    have hnd : r.Nodup := by
      have := hr.2
      rw [List.nodup_iff_pairwise_ne, List.pairwise_map] at this
      exact this.imp fun {a b} h e => h (by rw [e])
    cases hf : r.find? fun h => decide (val1 h = 1 + (k : Int)) with
    | none =>
      have e1 : limR r (1 + (k : Int)) = none := by unfold limR; rw [hf]; rfl
      rw [e1]
      show (r.filter _).foldl shR dl = _
      congr 1
      apply List.filter_congr
      intro h hh
      have := List.find?_eq_none.mp hf h hh
      have : val1 h ≠ 1 + (k : Int) := by simpa using this
      rw [Bool.eq_iff_iff]
      simp only [decide_eq_true_eq]
      omega
    | some g =>
      have e1 : limR r (1 + (k : Int)) = some ((g.length : Int) - 1) := by unfold limR; rw [hf]; rfl
      have hg := List.mem_of_find?_eq_some hf
      have hv : val1 g = 1 + (k : Int) := by simpa using List.find?_some hf
      obtain ⟨g1, g2, g3⟩ := hr.1 g hg
      rw [e1]
      show sh ((1 + (k : Int)).toNat * (((g.length : Int) - 1).toNat + 1)) _ = _
      have e2 : (1 + (k : Int)).toNat * (((g.length : Int) - 1).toNat + 1) = g.sum.toNat := by
        rw [one_sum g3 g1, hv, show ((g.length : Int) - 1).toNat + 1 = g.length by omega]
      rw [e2]
      have pm : (r.filter fun h => decide (val1 h ≤ ((k + 1 : Nat) : Int))).Perm ((r.filter fun h => decide (val1 h ≤ (k : Int))) ++ [g]) := by
        refine (List.perm_ext_iff_of_nodup (hnd.filter _) ?_).mpr fun x => ?_
        · rw [List.nodup_append]
          refine ⟨hnd.filter _, by simp, fun a ha b hb e => ?_⟩
          have hb : b = g := by simpa using hb
          subst hb
          subst e
          have := (List.mem_filter.mp ha).2
          simp at this
          omega
        · rw [List.mem_append, List.mem_filter, List.mem_filter]
          simp only [decide_eq_true_eq, List.mem_singleton]
          constructor
          · rintro ⟨a1, a2⟩
            by_cases e : val1 x ≤ k
            · exact .inl ⟨a1, e⟩
            · right
              have a3 : val1 x = val1 g := by omega
              have := hr.2
              rw [List.nodup_iff_pairwise_ne, List.pairwise_map] at this
              exact Classical.byContradiction fun ne => by
                rcases List.mem_iff_getElem.mp a1 with ⟨i, hi, ei⟩
                rcases List.mem_iff_getElem.mp hg with ⟨j, hj, ej⟩
                have pw := List.pairwise_iff_getElem.mp this
                rcases Nat.lt_trichotomy i j with q | q | q
                · exact pw i j hi hj q (by rw [ei, ej, a3])
                · subst q; exact ne (ei.symm.trans ej)
                · exact pw j i hj hi q (by rw [ei, ej, a3])
          · rintro (⟨a1, a2⟩ | rfl)
            · exact ⟨a1, by omega⟩
            · exact ⟨hg, by omega⟩
      rw [shR_perm pm, List.foldl_append]
      rfl
theorem limS_good {r : List Heap1} (hr : okOne r) (n : Nat) : ∀ x ∈ limS r n, goodR x := by
  intro x hx
  obtain ⟨j, _, rfl⟩ := List.mem_map.mp hx
  refine ⟨by show 1 ≤ 1 + (j : Int); omega, fun m h => ?_⟩
  have h : limR r (1 + (j : Int)) = some m := h
  unfold limR at h
  cases hf : r.find? fun h => decide (val1 h = 1 + (j : Int)) with
  | none => rw [hf] at h; cases h
  | some g =>
    rw [hf] at h
    have := (hr.1 g (List.mem_of_find?_eq_some hf)).2.1
    cases h
    show 0 ≤ (g.length : Int) - 1
    omega
theorem limS_bot (r : List Heap1) : ∀ n, (limS r n).foldl botG dl = pr 0 n
  | 0 => rfl
  | n + 1 => by
    rw [limS_succ, List.foldl_append, limS_bot r n]
    show sh (1 + (n : Int)).toNat (pr 0 n) = sh (0 + n + 1) (pr 0 n)
    rw [show (1 + (n : Int)).toNat = 0 + n + 1 by omega]
theorem pr_zero : ∀ n, pr 0 n 0 = 1
  | 0 => rfl
  | n + 1 => by
    show sh (0 + n + 1) (pr 0 n) 0 = 1
    unfold sh
    rw [if_neg (by omega), pr_zero n]
    rfl
theorem mxC_one {x : Int} : ∀ {ys : List Heap1}, okOne ys → mxC ys x = (ys.map fun h => h.count x).sum
  | [], _ => rfl
  | g :: ys, h => by
    have h2 : okOne ys := ⟨fun h' hh => h.1 h' (by simp [hh]), (List.nodup_cons.mp h.2).2⟩
    have ih := mxC_one (x := x) h2
    have e : mxC (g :: ys) x = max (g.count x) (mxC ys x) := rfl
    rw [e, List.map_cons, List.sum_cons, ← ih]
    by_cases q : g.count x = 0
    · omega
    · have hx : x ∈ g := List.count_pos_iff.mp (by omega)
      have hv : x = val1 g := by
        rw [(h.1 g (by simp)).2.2] at hx
        exact (List.mem_replicate.mp hx).2
      have : mxC ys x ≤ 0 := mxC_le fun g' hg' => by
        rw [List.count_eq_zero.mpr fun hx' => ?_]
        · exact Nat.le_refl _
        · have hv' : x = val1 g' := by
            rw [(h.1 g' (by simp [hg'])).2.2] at hx'
            exact (List.mem_replicate.mp hx').2
          exact (List.nodup_cons.mp h.2).1 (List.mem_map.mpr ⟨g', hg', by rw [← hv', hv]⟩)
      omega
theorem join_one {ys : List Heap1} (h : okOne ys) : (joinL ys).sum = (wtL ys : Int) := by
  have hp : (joinL ys).Perm ys.flatten := List.perm_iff_count.mpr fun x => by
    rw [joinL_count, mxC_one h, List.count_flatten]
  rw [perm_sum hp]
  unfold wtL
  have : ∀ ys : List Heap1, (∀ h ∈ ys, ∀ x ∈ h, 1 ≤ x) → ys.flatten.sum = ((ys.map fun h => h.sum.toNat).sum : Nat) := by
    intro ys
    induction ys with
    | nil => intro _; rfl
    | cons g ys ih =>
      intro q
      rw [List.flatten_cons, List.sum_append, ih fun h hh => q h (by simp [hh]), List.map_cons, List.sum_cons]
      have := len_le_sum (q g (by simp))
      omega
  refine this ys fun g hg x hx => ?_
  obtain ⟨a, b, c⟩ := h.1 g hg
  rw [c] at hx
  rw [(List.mem_replicate.mp hx).2]
  exact a
theorem okOne_sub {r ys : List Heap1} (h : okOne r) (s : ys.Sublist r) : okOne ys := ⟨fun g hg => h.1 g (s.subset hg), h.2.sublist (s.map _)⟩
/-- for heaps of one value each, the count is that of limited parts -/
theorem limited_count {r : List Heap1} (hr : okOne r) (n : Nat) : numsF (limS r n) n = keepN r n := by
  have h1 : ∀ i, i ≤ n → cv (pr 0 n) (numsF (limS r n)) i = cv (pr 0 n) (fun i => ieS r fun ys => mv (wtL ys) (numsF (parts n)) i) i := by
    intro i hi
    have a1 := cv_rows i (limS r n) dl dl dl (limS_good hr n) cv_dl
    rw [limS_bot, limS_top hr] at a1
    have a2 : cv (pr 0 n) (numsF (limS r n)) i = (r.filter fun h => decide (val1 h ≤ n)).foldl shR dl i := a1
    rw [a2, cv_ie]
    have a3 : (ieS r fun ys => cv (pr 0 n) (mv (wtL ys) (numsF (parts n))) i) = ieS r fun ys => mv (wtL ys) dl i := ieS_congr fun ys _ => by
      rw [cv_mv]
      have a4 := fun j => cv_rows j (parts n) dl dl dl parts_good cv_dl
      rw [parts_bot, parts_top] at a4
      exact mv_congr _ a4 i
    rw [a3, ie_fold dl i _ r rfl]
    have pm : r.Perm ((r.filter fun h => decide (val1 h ≤ n)) ++ r.filter fun h => !decide (val1 h ≤ n)) := (List.filter_append_perm _ r).symm
    rw [shR_perm pm, List.foldl_append]
    refine (shR_far (n := n) _ (fun h hh => ?_) i hi).symm
    obtain ⟨b1, b2⟩ := List.mem_filter.mp hh
    obtain ⟨c1, c2, c3⟩ := hr.1 h b1
    rw [one_sum c3 c1]
    have : (val1 h).toNat * 1 ≤ (val1 h).toNat * h.length := Nat.mul_le_mul_left _ c2
    simp at b2
    omega
  rw [cv_inj (pr_zero n) h1 n (Nat.le_refl n)]
  unfold keepN ieS
  refine sum_map_congr fun ys hys => ?_
  dsimp only
  rw [join_one (okOne_sub hr (chosenL_sub hys))]
  congr 1
  unfold mv
  by_cases e : wtL ys ≤ n
  · rw [if_pos e, if_pos (by omega), numsF_parts (by omega), Int.toNat_natCast]
  · rw [if_neg e, if_neg (by omega)]
theorem set_fun (F : Nat → Int) {N j : Nat} (v : Int) : ((List.range N).map F).set j v = (List.range N).map fun i => if i = j then v else F i := by
  apply List.ext_getElem
  · simp
  · intro i h1 h2
    rw [List.getElem_set]
    simp only [List.getElem_map, List.getElem_range]
    by_cases e : j = i
    · subst e; simp
    · rw [if_neg e, if_neg (fun z => e z.symm)]
theorem set_funD (F : Nat → Int) {N j : Nat} (v : Int) : (((List.range N).map F).map PyData.int).set j (.int v) = ((List.range N).map fun i => if i = j then v else F i).map PyData.int := by
  rw [map_set', set_fun]
theorem rowF_zero (f : Nat → Int) (p i : Nat) : rowF f p (some 0) i = f i := by
  have e : manyR p (some 0) i = 0 := Nat.min_eq_right (Nat.zero_le _)
  unfold rowF
  rw [e]
  simp
theorem rowF_more (f : Nat → Int) {p i T : Nat} (hp : 1 ≤ p) (h : (T + 1) * p ≤ i) : rowF f p (some ((T + 1 : Nat) : Int)) i = rowF f p (some (T : Int)) i + f (i - (T + 1) * p) := by
  have h1 : T + 1 ≤ i / p := (Nat.le_div_iff_mul_le hp).mpr h
  have e1 : manyR p (some ((T + 1 : Nat) : Int)) i = T + 1 := by
    show min (i / p) (((T + 1 : Nat) : Int).toNat) = T + 1
    rw [Int.toNat_natCast]; omega
  have e2 : manyR p (some (T : Int)) i = T := by
    show min (i / p) ((T : Int).toNat) = T
    rw [Int.toNat_natCast]; omega
  unfold rowF
  rw [e1, e2, sum_range_succ]
theorem rowF_same (f : Nat → Int) {p i T : Nat} (hp : 1 ≤ p) (h : i < (T + 1) * p) : rowF f p (some ((T + 1 : Nat) : Int)) i = rowF f p (some (T : Int)) i := by
  have h1 : i / p < T + 1 := (Nat.div_lt_iff_lt_mul hp).mpr h
  have e1 : manyR p (some ((T + 1 : Nat) : Int)) i = manyR p (some (T : Int)) i := by
    show min (i / p) (((T + 1 : Nat) : Int).toNat) = min (i / p) ((T : Int).toNat)
    rw [Int.toNat_natCast, Int.toNat_natCast]; omega
  unfold rowF
  rw [e1]
theorem rowF_on (f : Nat → Int) {p i : Nat} (hp : 1 ≤ p) (h : p ≤ i) : rowF f p none i = f i + rowF f p none (i - p) := by
  have := sh_rowF (f := f) (p := p) (m := none) hp (fun x h => by cases h) i
  unfold sh at this
  rw [if_pos h] at this
  have e : unR f p none i = f i := rfl
  omega
theorem numsF_lim (r : List Heap1) (n : Nat) : numsF (limS r (n + 1)) = rowF (numsF (limS r n)) (n + 1) (limR r (1 + (n : Int))) := by
  unfold numsF
  rw [limS_succ, List.foldl_append]
  show rowF _ (1 + (n : Int)).toNat _ = _
  rw [show (1 + (n : Int)).toNat = n + 1 by omega]
end Dt

/-! # Dt: strict heaps, and how they shift -/
namespace Dt
open PySem PySem.Spec PyProof.Rows L2
def strictB (h : Heap1) : Bool := (h.zip (h.drop 1)).all fun p => decide (p.1 > p.2)
def slopeN : List Int → Nat
  | [] => 0
  | [_] => 1
  | x :: y :: t => if y = x - 1 then slopeN (y :: t) + 1 else 1
def lastI (h : List Int) : Int := h.getD (h.length - 1) 0
def leftB (h : Heap1) : Bool := h.isEmpty || (decide (slopeN h = h.length) && (decide (0 ≤ lastI h - h.length) && decide (lastI h - h.length ≤ 1)))
def shiftL (h : Heap1) : Heap1 := if lastI h ≤ slopeN h then ((h.take (lastI h).toNat).map fun x => x + 1) ++ (h.drop (lastI h).toNat).dropLast else ((h.take (slopeN h)).map fun x => x - 1) ++ h.drop (slopeN h) ++ [(slopeN h : Int)]
theorem strictB_iff {h : Heap1} : strictB h = true ↔ h.Pairwise (· > ·) := by
  unfold strictB
  rw [List.all_eq_true]
  induction h with
  | nil => simp
  | cons x t ih =>
    cases t with
    | nil => simp
    | cons y t =>
      have e : ((x :: y :: t).zip ((x :: y :: t).drop 1)) = (x, y) :: ((y :: t).zip ((y :: t).drop 1)) := rfl
      rw [e]
      constructor
      · intro q
        have h1 := ih.mp fun p hp => q p (List.mem_cons_of_mem _ hp)
        have h2 : x > y := by simpa using q (x, y) (by simp)
        refine List.pairwise_cons.mpr ⟨fun z hz => ?_, h1⟩
        rcases List.mem_cons.mp hz with rfl | hz
        · exact h2
        · exact Int.lt_trans ((List.pairwise_cons.mp h1).1 z hz) h2
      · intro q p hp
        obtain ⟨q1, q2⟩ := List.pairwise_cons.mp q
        rcases List.mem_cons.mp hp with rfl | hp
        · simpa using q1 y (by simp)
        · exact ih.mpr q2 p hp
theorem slopeN_le : ∀ h : List Int, slopeN h ≤ h.length
  | [] => Nat.le_refl _
  | [_] => Nat.le_refl _
  | x :: y :: t => by
    have := slopeN_le (y :: t)
    rw [slopeN]
    split
    · simp at *; omega
    · simp
theorem slopeN_pos : ∀ {h : List Int}, h ≠ [] → 1 ≤ slopeN h
  | [], h => absurd rfl h
  | [_], _ => Nat.le_refl _
  | x :: y :: t, _ => by
    rw [slopeN]
    split <;> omega
/-- within the slope each part is one less than that before it -/
theorem slopeN_in : ∀ {h : List Int} {i : Nat}, i + 1 < slopeN h → h.getD (i + 1) 0 = h.getD i 0 - 1
  | [], i, q => by simp [slopeN] at q
  | [_], i, q => by simp [slopeN] at q
  | x :: y :: t, i, q => by
    rw [slopeN] at q
    split at q
    · rename_i e
      cases i with
      | zero => exact e
      | succ i =>
        have := slopeN_in (h := y :: t) (i := i) (by omega)
        exact this
    · omega
theorem slopeN_out : ∀ {h : List Int}, h ≠ [] → slopeN h < h.length → h.getD (slopeN h) 0 ≠ h.getD (slopeN h - 1) 0 - 1
  | [], h, _ => absurd rfl h
  | [_], _, q => by simp [slopeN] at q
  | x :: y :: t, _, q => by
    rw [slopeN] at q ⊢
    by_cases e : y = x - 1
    · rw [if_pos e] at q ⊢
      have h1 := slopeN_pos (h := y :: t) (by simp)
      have := slopeN_out (h := y :: t) (by simp) (by simp at q ⊢; omega)
      obtain ⟨s, hs⟩ : ∃ s, slopeN (y :: t) = s + 1 := ⟨slopeN (y :: t) - 1, by omega⟩
      rw [hs] at this ⊢
      exact this
    · rw [if_neg e]
      exact e
theorem slopeN_eq {h : List Int} {m : Nat} (h1 : 1 ≤ m) (h2 : m ≤ h.length) (hi : ∀ i, i + 1 < m → h.getD (i + 1) 0 = h.getD i 0 - 1) (ho : m < h.length → h.getD m 0 ≠ h.getD (m - 1) 0 - 1) : slopeN h = m := by
  have hne : h ≠ [] := by intro e; subst e; simp at h2; omega
  have a := slopeN_le h
  rcases Nat.lt_trichotomy (slopeN h) m with q | q | q
  · have b := slopeN_out hne (by omega)
    have c := slopeN_pos hne
    obtain ⟨s, hs⟩ : ∃ s, slopeN h = s + 1 := ⟨slopeN h - 1, by omega⟩
    rw [hs] at b q
    exact absurd (hi s q) b
  · exact q
  · obtain ⟨s, rfl⟩ : ∃ s, m = s + 1 := ⟨m - 1, by omega⟩
    exact absurd (slopeN_in q) (ho (by omega))
theorem slopeN_ge {h : List Int} {m : Nat} (h2 : m ≤ h.length) (hi : ∀ i, i + 1 < m → h.getD (i + 1) 0 = h.getD i 0 - 1) : m ≤ slopeN h := by
  by_cases hm : m ≤ 1
  · by_cases h0 : m = 0
    · omega
    · have hne : h ≠ [] := by intro e; subst e; simp at h2; omega
      have := slopeN_pos hne
      omega
  · have hne : h ≠ [] := by intro e; subst e; simp at h2; omega
    refine Classical.byContradiction fun q => ?_
    have c := slopeN_pos hne
    have b := slopeN_out hne (by omega)
    obtain ⟨s, hs⟩ : ∃ s, slopeN h = s + 1 := ⟨slopeN h - 1, by omega⟩
    rw [hs] at b q
    exact b (hi s (by omega))
/-- a strict heap: a slope of r parts from t down, then the rest -/
def runL (t : Int) (r : Nat) (rest : List Int) : List Int := ((List.range r).map fun i : Nat => t - (i : Int)) ++ rest
theorem getD_app_l {a b : List Int} {i : Nat} (h : i < a.length) : (a ++ b).getD i 0 = a.getD i 0 := by
  rw [List.getD_eq_getElem?_getD, List.getD_eq_getElem?_getD, List.getElem?_append_left h]
theorem getD_app_r {a b : List Int} {i : Nat} (h : a.length ≤ i) : (a ++ b).getD i 0 = b.getD (i - a.length) 0 := by
  rw [List.getD_eq_getElem?_getD, List.getD_eq_getElem?_getD, List.getElem?_append_right h]
theorem runL_get {t : Int} {r : Nat} {rest : List Int} {i : Nat} (h : i < r) : (runL t r rest).getD i 0 = t - i := by
  unfold runL
  rw [getD_app_l (by simpa using h)]
  exact map_getD (fun i : Nat => t - (i : Int)) h
theorem runL_len {t : Int} {r : Nat} {rest : List Int} : (runL t r rest).length = r + rest.length := by unfold runL; simp
structure okRun (t : Int) (r : Nat) (rest : List Int) : Prop where
  r1 : 1 ≤ r
  low : ∀ x ∈ rest, x ≤ t - r - 1
  pos : ∀ x ∈ rest, 1 ≤ x
  dn : rest.Pairwise (· > ·)
  bot : (r : Int) ≤ t
theorem runL_slope {t : Int} {r : Nat} {rest : List Int} (o : okRun t r rest) : slopeN (runL t r rest) = r := by
  refine slopeN_eq o.r1 (by rw [runL_len]; omega) (fun i hi => ?_) fun hlt => ?_
  · rw [runL_get hi, runL_get (by omega)]; omega
  · have h1 := o.r1
    have e : (runL t r rest).getD r 0 = rest.getD 0 0 := by
      unfold runL
      rw [getD_app_r (by simp)]
      simp
    rw [e, runL_get (by omega)]
    rw [runL_len] at hlt
    have := o.low _ (getD_in (show 0 < rest.length by omega))
    omega
theorem runL_strict {t : Int} {r : Nat} {rest : List Int} (hd : rest.Pairwise (· > ·)) (hl : ∀ x ∈ rest, x < t - r + 1) : (runL t r rest).Pairwise (· > ·) := by
  unfold runL
  refine List.pairwise_append.mpr ⟨?_, hd, fun a ha b hb => ?_⟩
  · rw [List.pairwise_map]
    refine (List.pairwise_lt_range (n := r)).imp ?_
    intro a b hab
    show t - (a : Int) > t - (b : Int)
    omega
  · obtain ⟨i, hi, rfl⟩ := List.mem_map.mp ha
    have := List.mem_range.mp hi
    have := hl b hb
    show t - (i : Int) > b
    omega
theorem runL_take {t : Int} {r s : Nat} {rest : List Int} (h : s ≤ r) : (runL t r rest).take s = (List.range s).map fun i : Nat => t - (i : Int) := by
  unfold runL
  rw [List.take_append_of_le_length (by simpa using h), ← List.map_take, List.take_range, Nat.min_eq_left h]
theorem runL_drop {t : Int} {r s : Nat} {rest : List Int} (h : s ≤ r) : (runL t r rest).drop s = runL (t - s) (r - s) rest := by
  unfold runL
  rw [List.drop_append_of_le_length (by simpa using h)]
  congr 1
  apply List.ext_getElem
  · simp
  · intro i h1 h2
    simp only [List.getElem_drop, List.getElem_map, List.getElem_range]
    omega
theorem run_split (t : Int) (s m : Nat) (rest : List Int) : runL t (s + m) rest = runL t s (runL (t - s) m rest) := by
  unfold runL
  rw [← List.append_assoc]
  congr 1
  rw [List.range_add, List.map_append, List.map_map]
  congr 1
  apply List.map_congr_left
  intro i _
  show t - ((s + i : Nat) : Int) = t - (s : Int) - (i : Int)
  omega
theorem run_up (t : Int) (s : Nat) (rest : List Int) : (((List.range s).map fun i : Nat => t - (i : Int)).map fun x => x + 1) ++ rest = runL (t + 1) s rest := by
  unfold runL
  congr 1
  rw [List.map_map]
  apply List.map_congr_left
  intro i _
  show t - (i : Int) + 1 = t + 1 - (i : Int)
  omega
theorem run_down (t : Int) (s : Nat) (rest : List Int) : (((List.range s).map fun i : Nat => t - (i : Int)).map fun x => x - 1) ++ rest = runL (t - 1) s rest := by
  unfold runL
  congr 1
  rw [List.map_map]
  apply List.map_congr_left
  intro i _
  show t - (i : Int) - 1 = t - 1 - (i : Int)
  omega
theorem lastI_snoc (a : List Int) (x : Int) : lastI (a ++ [x]) = x := by
  unfold lastI
  rw [getD_app_r (by simp)]
  simp
theorem lastI_runL {t : Int} {r : Nat} (h : 1 ≤ r) : lastI (runL t r []) = t - r + 1 := by
  unfold lastI
  rw [runL_len, List.length_nil, Nat.add_zero, runL_get (by omega)]
  omega
theorem run_sum_up (t : Int) (s : Nat) (rest : List Int) : (runL (t + 1) s rest).sum = (runL t s rest).sum + s := by
  rw [← run_up]
  unfold runL
  rw [List.sum_append, List.sum_append]
  have : ∀ l : List Int, (l.map fun x => x + 1).sum = l.sum + l.length := fun l => by
    induction l with
    | nil => rfl
    | cons x l ih => simp only [List.map_cons, List.sum_cons, List.length_cons, ih]; omega
  rw [this, List.length_map, List.length_range]
  omega
/-- a shift that takes off the last part s, given so: h = t.. down (s parts), mid, s -/
structure okA (t : Int) (s : Nat) (mid : List Int) : Prop where
  s1 : 1 ≤ s
  low : ∀ x ∈ mid, x ≤ t - s
  big : ∀ x ∈ mid, (s : Int) < x
  dn : mid.Pairwise (· > ·)
  gap : 2 * (s : Int) ≤ t
theorem shift_A {t : Int} {s : Nat} {mid : List Int} (o : okA t s mid) : strictB (runL t s (mid ++ [(s : Int)])) = true ∧ leftB (runL t s (mid ++ [(s : Int)])) = false ∧ shiftL (runL t s (mid ++ [(s : Int)])) = runL (t + 1) s mid := by
  have hs := o.s1
  have hg := o.gap
  have hlast : lastI (runL t s (mid ++ [(s : Int)])) = s := by
    show lastI (_ ++ (mid ++ [(s : Int)])) = s
    rw [← List.append_assoc, lastI_snoc]
  have hsl : s ≤ slopeN (runL t s (mid ++ [(s : Int)])) := slopeN_ge (by rw [runL_len]; omega) fun i hi => by
    rw [runL_get hi, runL_get (by omega)]; omega
  have hlen : (runL t s (mid ++ [(s : Int)])).length = s + mid.length + 1 := by rw [runL_len]; simp; omega
  refine ⟨strictB_iff.mpr (runL_strict ?_ fun x hx => ?_), ?_, ?_⟩
  · refine List.pairwise_append.mpr ⟨o.dn, by simp, fun a ha b hb => ?_⟩
    rw [List.mem_singleton.mp hb]
    exact o.big a ha
  · rcases List.mem_append.mp hx with hx | hx
    · have := o.low x hx; omega
    · rw [List.mem_singleton.mp hx]; omega
  · unfold leftB
    rw [hlast, hlen]
    have e1 : (runL t s (mid ++ [(s : Int)])).isEmpty = false := by
      cases q : runL t s (mid ++ [(s : Int)]) with
      | nil => rw [q] at hlen; simp at hlen
      | cons x y => rfl
    have e2 : decide (0 ≤ (s : Int) - ((s + mid.length + 1 : Nat) : Int)) = false := decide_eq_false (by omega)
    rw [e1, e2]
    simp
  · unfold shiftL
    rw [hlast, if_pos (by omega), Int.toNat_natCast, runL_take (Nat.le_refl s), runL_drop (Nat.le_refl s), Nat.sub_self, run_up]
    show runL (t + 1) s ((([] : List Int) ++ (mid ++ [(s : Int)])).dropLast) = _
    rw [List.nil_append, List.dropLast_concat]
/-- and back -/
theorem shift_B {t : Int} {s : Nat} {mid : List Int} (o : okA t s mid) : strictB (runL (t + 1) s mid) = true ∧ leftB (runL (t + 1) s mid) = false ∧ shiftL (runL (t + 1) s mid) = runL t s (mid ++ [(s : Int)]) := by
  have hs := o.s1
  have hg := o.gap
  have orun : okRun (t + 1) s mid := ⟨hs, fun x hx => by have := o.low x hx; omega, fun x hx => by have := o.big x hx; omega, o.dn, by omega⟩
  have hsl := runL_slope orun
  have hlast : (s : Int) < lastI (runL (t + 1) s mid) := by
    cases hm : mid with
    | nil => rw [lastI_runL hs]; omega
    | cons x y =>
      rw [← hm]
      have : lastI (runL (t + 1) s mid) ∈ mid := by
        unfold lastI
        rw [runL_len]
        unfold runL
        rw [getD_app_r (by rw [hm]; simp)]
        exact getD_in (by rw [hm]; simp)
      exact o.big _ this
  refine ⟨strictB_iff.mpr (runL_strict o.dn fun x hx => by have := o.low x hx; omega), ?_, ?_⟩
  · unfold leftB
    have e1 : (runL (t + 1) s mid).isEmpty = false := by
      cases q : runL (t + 1) s mid with
      | nil => have := runL_len (t := t + 1) (r := s) (rest := mid); rw [q] at this; simp at this; omega
      | cons x y => rfl
    rw [e1, hsl, runL_len]
    cases hm : mid with
    | nil =>
      rw [lastI_runL hs]
      have : decide (t + 1 - (s : Int) + 1 - ((s + ([] : List Int).length : Nat) : Int) ≤ 1) = false := decide_eq_false (by simp; omega)
      rw [this]
      simp
    | cons x y =>
      have : decide (s = s + (x :: y).length) = false := decide_eq_false (by simp)
      rw [this]
      simp
  · unfold shiftL
    rw [hsl, if_neg (by omega), runL_take (Nat.le_refl s), runL_drop (Nat.le_refl s), Nat.sub_self, List.append_assoc, run_down, Int.add_sub_cancel]
    rfl
/-- each strict heap that is not left over is of one of the two kinds -/
theorem shift_cases {t : Int} {r : Nat} {rest : List Int} (o : okRun t r rest) (hl : leftB (runL t r rest) = false) :
    (∃ (s : Nat) (mid : List Int), okA t s mid ∧ lastI (runL t r rest) = s ∧ s ≤ r ∧ runL t r rest = runL t s (mid ++ [(s : Int)])) ∨ ((r : Int) < lastI (runL t r rest) ∧ okA (t - 1) r rest) := by
  have hr := o.r1
  have hb := o.bot
  have hsl := runL_slope o
  cases hm : rest with
  | nil =>
    subst hm
    have hlast := lastI_runL (t := t) hr
    have hnl : ¬ (0 ≤ t - r + 1 - r ∧ t - r + 1 - r ≤ 1) := by
      intro q
      unfold leftB at hl
      rw [hlast, hsl, runL_len] at hl
      simp at hl
      have := hl.2 (by omega)
      omega
    by_cases q : t - r + 1 ≤ r
    · left
      obtain ⟨s, hs⟩ : ∃ s : Nat, (s : Int) = t - r + 1 := ⟨(t - r + 1).toNat, by omega⟩
      have hsr : s < r := by omega
      refine ⟨s, runL (t - s) (r - s - 1) [], ⟨by omega, fun x hx => ?_, fun x hx => ?_, runL_strict .nil (by simp), by omega⟩, by rw [hlast, hs], by omega, ?_⟩
      · unfold runL at hx
        rw [List.append_nil] at hx
        obtain ⟨i, hi, rfl⟩ := List.mem_map.mp hx
        omega
      · unfold runL at hx
        rw [List.append_nil] at hx
        obtain ⟨i, hi, rfl⟩ := List.mem_map.mp hx
        have := List.mem_range.mp hi
        omega
      · obtain ⟨m, rfl⟩ : ∃ m, r = s + (m + 1) := ⟨r - s - 1, by omega⟩
        rw [run_split t s (m + 1), show s + (m + 1) - s - 1 = m by omega]
        congr 1
        have : t - (s : Int) - (m : Int) = s := by omega
        unfold runL
        rw [List.range_succ, List.map_append]
        simp [this]
    · right
      refine ⟨by rw [hlast]; omega, ⟨hr, by simp, by simp, .nil, by omega⟩⟩
  | cons x y =>
    rw [← hm]
    have hne : rest ≠ [] := by rw [hm]; simp
    have e := List.dropLast_concat_getLast hne
    have hin := List.getLast_mem hne
    have hlow := o.low _ hin
    have hpos := o.pos _ hin
    have hdn := o.dn
    have hlast : lastI (runL t r rest) = rest.getLast hne := by
      conv => lhs; rw [← e]
      show lastI (_ ++ (rest.dropLast ++ [rest.getLast hne])) = _
      rw [← List.append_assoc, lastI_snoc]
    have hlo := o.low
    generalize rest.getLast hne = l at e hin hlow hpos hlast
    generalize hdl : rest.dropLast = dl at e
    subst e
    have hbig : ∀ x ∈ dl, l < x := fun x hx => (List.pairwise_append.mp hdn).2.2 x hx l (by simp)
    by_cases q : l ≤ r
    · left
      obtain ⟨s, hs⟩ : ∃ s : Nat, (s : Int) = l := ⟨l.toNat, by omega⟩
      subst hs
      obtain ⟨m, rfl⟩ : ∃ m, r = s + m := ⟨r - s, by omega⟩
      refine ⟨s, runL (t - s) m dl, ⟨by omega, fun x hx => ?_, fun x hx => ?_, runL_strict (List.pairwise_append.mp hdn).1 fun x hx => ?_, by omega⟩, hlast, by omega, ?_⟩
      · unfold runL at hx
        rcases List.mem_append.mp hx with hx | hx
        · obtain ⟨i, hi, rfl⟩ := List.mem_map.mp hx
          omega
        · have := hlo x (by simp [hx]); omega
      · unfold runL at hx
        rcases List.mem_append.mp hx with hx | hx
        · obtain ⟨i, hi, rfl⟩ := List.mem_map.mp hx
          have := List.mem_range.mp hi
          omega
        · exact hbig x hx
      · have := hlo x (by simp [hx]); omega
      · rw [run_split]
        congr 1
        unfold runL
        rw [List.append_assoc]
    · right
      refine ⟨by rw [hlast]; omega, ⟨hr, fun x hx => by have := hlo x hx; omega, fun x hx => ?_, hdn, ?_⟩⟩
      · rcases List.mem_append.mp hx with hx | hx
        · have := hbig x hx; omega
        · rw [List.mem_singleton.mp hx]; omega
      · omega
theorem run_of (t : Int) (r : Nat) (rest : List Int) : runL t r rest = runL (t - 1 + 1) r rest := by rw [Int.sub_add_cancel]
theorem runL_sum (t : Int) (s : Nat) (mid : List Int) (x : Int) : (runL t s (mid ++ [x])).sum = (runL t s mid).sum + x := by
  unfold runL
  rw [← List.append_assoc, List.sum_append]
  simp
theorem runL_pos {t : Int} {r : Nat} {rest : List Int} (ht : (r : Int) ≤ t) (hp : ∀ x ∈ rest, 1 ≤ x) : ∀ x ∈ runL t r rest, 1 ≤ x := by
  intro x hx
  unfold runL at hx
  rcases List.mem_append.mp hx with hx | hx
  · obtain ⟨i, hi, rfl⟩ := List.mem_map.mp hx
    have := List.mem_range.mp hi
    omega
  · exact hp x hx
theorem okRun.good {t : Int} {r : Nat} {rest : List Int} (o : okRun t r rest) : strictB (runL t r rest) = true ∧ ∀ x ∈ runL t r rest, 1 ≤ x :=
  ⟨strictB_iff.mpr (runL_strict o.dn fun x hx => by have := o.low x hx; omega), runL_pos o.bot o.pos⟩
structure shOk (h g : Heap1) : Prop where
  eq : shiftL h = g
  st : strictB g = true
  lf : leftB g = false
  back : shiftL g = h
  sum : g.sum = h.sum
  len : g.length = h.length + 1 ∨ h.length = g.length + 1
  pos : ∀ x ∈ g, 1 ≤ x
  fit : lastI h ≤ slopeN h → 0 ≤ lastI h ∧ lastI h < h.length
theorem shift_law {t : Int} {r : Nat} {rest : List Int} (o : okRun t r rest) (hl : leftB (runL t r rest) = false) : ∃ g, shOk (runL t r rest) g := by
  have hsl := runL_slope o
  rcases shift_cases o hl with ⟨s, mid, oA, h1, h2, h3⟩ | ⟨h1, oB⟩
  · obtain ⟨a1, a2, a3⟩ := shift_A oA
    obtain ⟨b1, b2, b3⟩ := shift_B oA
    refine ⟨runL (t + 1) s mid, ⟨by rw [h3]; exact a3, b1, b2, by rw [h3]; exact b3, ?_, .inr ?_, runL_pos (by have := oA.gap; omega) fun x hx => by have := oA.big x hx; omega, fun _ => ?_⟩⟩
    · rw [h3, run_sum_up, runL_sum]
    · rw [h3, runL_len, runL_len]; simp; omega
    · rw [h1, h3, runL_len]; simp; omega
  · obtain ⟨a1, a2, a3⟩ := shift_A oB
    obtain ⟨b1, b2, b3⟩ := shift_B oB
    rw [Int.sub_add_cancel] at b1 b2 b3 a3
    refine ⟨runL (t - 1) r (rest ++ [(r : Int)]), ⟨b3, a1, a2, a3, ?_, .inl ?_, runL_pos (by have := oB.gap; omega) fun x hx => ?_, fun h => by omega⟩⟩
    · have := run_sum_up (t - 1) r rest
      rw [Int.sub_add_cancel] at this
      rw [runL_sum, this]
    · rw [runL_len, runL_len]; simp; omega
    · rcases List.mem_append.mp hx with hx | hx
      · exact o.pos x hx
      · rw [List.mem_singleton.mp hx]; have := o.r1; omega
/-- the first k made greater by c -/
def upL (k : Nat) (c : Int) (h : List Int) : List Int := ((h.take k).map fun x => x + c) ++ h.drop k
theorem upL_len (k : Nat) (c : Int) (h : List Int) : (upL k c h).length = h.length := by unfold upL; simp; omega
theorem upL_get {k : Nat} {c : Int} {h : List Int} (hk : k < h.length) : (upL k c h).getD k 0 = h.getD k 0 := by
  unfold upL
  rw [getD_app_r (by simp; omega), List.getD_eq_getElem?_getD, List.getD_eq_getElem?_getD, List.getElem?_drop]
  simp
  rw [Nat.min_eq_left (by omega), Nat.sub_self, Nat.add_zero]
theorem upL_cons (k : Nat) (c x : Int) (h : List Int) : upL (k + 1) c (x :: h) = (x + c) :: upL k c h := rfl
theorem upL_set (c : Int) : ∀ {k : Nat} {h : List Int}, k < h.length → (upL k c h).set k (h.getD k 0 + c) = upL (k + 1) c h
  | k, [], hk => absurd hk (by simp)
  | 0, x :: h, _ => by
    rw [upL_cons]
    unfold upL
    simp
  | k + 1, x :: h, hk => by
    rw [upL_cons, upL_cons, List.set_cons_succ]
    congr 1
    exact upL_set c (by simpa using hk)
theorem upL_zero (c : Int) (h : List Int) : upL 0 c h = h := by unfold upL; simp
theorem cut_mid {α β : Type} (f : α → β) (xs : List α) {k : Int} (h : 0 ≤ k) (hk : k < xs.length) : cut (xs.map f) (some k) (some (-1)) = ((xs.drop k.toNat).dropLast).map f := by
  have e1 : HT.sIx xs.length 0 (some k) = k.toNat := by
    unfold HT.sIx
    simp only
    rw [if_neg (by omega)]
    omega
  have e2 : HT.sIx xs.length xs.length (some (-1)) = xs.length - 1 := by
    unfold HT.sIx
    simp only
    rw [if_pos (by omega)]
    omega
  unfold cut
  rw [List.length_map, e1, e2, ← List.map_drop, ← List.map_take, List.dropLast_eq_take, List.length_drop]
  rw [show xs.length - 1 - k.toNat = xs.length - k.toNat - 1 by omega]
theorem upL_dropLast {s : Nat} {h : List Int} (hs : s < h.length) : upL s 1 h.dropLast = ((h.take s).map fun x => x + 1) ++ (h.drop s).dropLast := by
  unfold upL
  rw [List.dropLast_eq_take, List.take_take, List.drop_take, Nat.min_eq_left (by omega), List.dropLast_eq_take, List.length_drop]
  rw [show h.length - 1 - s = h.length - s - 1 by omega]
theorem lastI_last {h : List Int} (hne : h ≠ []) : h.getLast hne = lastI h := by
  have hl := List.length_pos_iff.mpr hne
  unfold lastI
  rw [List.getD_eq_getElem?_getD, List.getElem?_eq_getElem (by omega), List.getLast_eq_getElem]
  rfl
theorem lastI_pos {h : List Int} (hp : ∀ x ∈ h, 1 ≤ x) (hne : h ≠ []) : 1 ≤ lastI h := by
  rw [← lastI_last hne]
  exact hp _ (List.getLast_mem hne)
end Dt

/-! # Dt: tuple(range(a, b, -1)); len(set(x)) -/
namespace Dt
open PySem PySem.Spec PyProof.Rows L2
section
variable {X : Cx}
def tTupR3 (ta : TA) : TE := fun σ H Q => ta σ H fun vs H1 => ∃ i j : Int, vs = [.int i, .int j, .int (-1)] ∧ (-(2 ^ 62) ≤ i ∧ i < 2 ^ 62 ∧ -(2 ^ 62) ≤ j ∧ j < 2 ^ 62 ∧ i - j ≤ 16000000) ∧ NewT H1 Q ((List.range (i - j).toNat).map fun k : Nat => V.int (i - (k : Int)))
theorem pe_tupR3 {a b c : Expr} {ta : TA} {p p2 q pos : Pos} (hc : X.calm = true) (hg : Gl X "tuple") (hm : X.mg "tuple" = none) (hg2 : Gl X "range") (hm2 : X.mg "range" = none) (ha : PA X [a, b, c] ta)
    (hs : starEach [a, b, c] X.env = (false, eval a X.env) :: starEach [b, c] X.env := by rfl) (hpl : (backTo q (starEach [b, c] X.env)).any (·.1) = false := by rfl)
    (na : starEach [.Call (.Name "range" p2) [a, b, c] [] q] X.env = (false, eval (.Call (.Name "range" p2) [a, b, c] [] q) X.env) :: starEach [] X.env := by rfl) :
    PE X (.Call (.Name "tuple" p) [.Call (.Name "range" p2) [a, b, c] [] q] [] pos) (tTupR3 ta) := by
  refine ⟨fun pins s σ H Q I h => ?_⟩
  refine Call_ (ld_blt I hg hm boot_tuple ?_)
  refine PyProof.Rows.callWith_type1 (PyProof.Rows.args_cons ?_ na) na rfl
  refine Call_ (ld_blt I hg2 hm2 boot_range (PyProof.Rows.callWith_type1 (thn (ha.run q pins s σ H _ I h) fun us s1 ⟨vs, H1, I1, r1, q1⟩ => ?_) hs hpl))
  obtain ⟨i, j, e, ⟨b1, b2, b3, b4, b5⟩, q1⟩ := q1
  obtain ⟨c0, c1, c2, c3⟩ := RgC.neg b1 b2 b3 b4
  subst e
  cases r1 with
  | cons r rr =>
    cases rr with
    | cons r' rr =>
      cases rr with
      | cons r'' rr =>
        cases rr
        obtain ⟨t, rfl⟩ := r
        obtain ⟨t', rfl⟩ := r'
        obtain ⟨t'', rfl⟩ := r''
        refine call_range_3 c0 ?_ (.inl (PyProof.noPylong_small c1))
        refine PyProof.Rows.args_nil ?_
        have I2 : Inv X pins σ H1 { s1 with heap := s1.heap.push { cls := .type "range", data := .fields #[.int i t, .int j t', .int (-1) t''] } } := I1.kept (t' := s1.toks) fun b o e => Heap.get?_push_of_some _ e
        refine call_tuple_range (n := (i - j).toNat) (I2.ok.hd hc) (IsRange.new ..) c2 c3 (by omega) fun h' tk acc hk hi => ?_
        have I3 := I2.kept (t' := tk) (h' := h') hk
        have e : acc.toList.length = (i - j).toNat := by rw [Array.length_toList]; exact hi.1
        have hv : Vals ((List.range (i - j).toNat).map fun k : Nat => V.int (i - (k : Int))) acc.toList := by
          rw [← e]
          refine vals_of_get acc.toList _ fun k u hk => ?_
          obtain ⟨t, rfl⟩ := hi.2 k u (by rw [← hk, Array.getElem?_toList])
          exact ⟨t, by rw [show i + (k : Int) * (-1) = i - (k : Int) by omega]⟩
        have := laidF I3 hv (by rw [List.length_map, List.length_range, sizeLine_eq]; omega) q1
        rw [Array.toArray_toList] at this
        exact this
theorem met_seen (ns : List Int) : ∀ i, i ≤ ns.length → firstMet (fun i => ns.getD i 0) i = seenL (ns.take i)
  | 0, _ => rfl
  | i + 1, hi => by
    have hlt : i < ns.length := hi
    have e : ns.getD i 0 = ns[i] := by rw [List.getD_eq_getElem?_getD, List.getElem?_eq_getElem hlt] <;> rfl
    rw [firstMet_succ, met_seen ns i (Nat.le_of_lt hlt), List.take_succ, List.getElem?_eq_getElem hlt, e]
    show _ = seenL (ns.take i ++ [ns[i]])
    rw [seenL_snoc]
    unfold step_dedup addNew
    by_cases h : ns[i] ∈ seenL (ns.take i)
    · rw [if_pos h, if_pos (by rw [List.any_eq_true]; exact ⟨_, h, by simp⟩)]
    · rw [if_neg h, if_neg (by rw [List.any_eq_true]; rintro ⟨x, hx, e⟩; exact h ((beq_iff_eq.mp e) ▸ hx))]
def tLenSetD (K : PySem.W.Frag) (ta : TE) : TE := fun σ H Q => ta σ H fun x H1 => ∃ (l : Addr) (ns : List Int), x = V.ref l ∧ (SqL K H1 l (ns.map V.int) ∨ SqT K H1 l (ns.map V.int)) ∧ ns.length < 4000 ∧ Q (.int (seenL ns).length) H1
theorem pe_lenSetD {a : Expr} {ta : TE} {p p2 q pos : Pos} (hc : X.calm = true) (hg : Gl X "len") (hm : X.mg "len" = none) (hg2 : Gl X "set") (hm2 : X.mg "set" = none) (ha : PE X a ta)
    (na : starEach [a] X.env = (false, eval a X.env) :: starEach [] X.env := by rfl) (nb : starEach [.Call (.Name "set" p2) [a] [] q] X.env = (false, eval (.Call (.Name "set" p2) [a] [] q) X.env) :: starEach [] X.env := by rfl) :
    PE X (.Call (.Name "len" p) [.Call (.Name "set" p2) [a] [] q] [] pos) (tLenSetD X.K ta) := by
  refine ⟨fun pins s σ H Q I h => ?_⟩
  refine Call_ (ld_blt I hg hm PySem.boot_len ?_)
  refine PyProof.Rows.callWith_builtin1 (PyProof.Rows.args_cons ?_ nb) nb rfl
  refine Call_ (ld_blt I hg2 hm2 PyProof.Rows.boot_set ?_)
  refine PyProof.Rows.callWith_type1 (PyProof.Rows.args_cons (thn (ha.run pins s σ H _ I h) fun v s1 ⟨x, H1, I1, r1, q1⟩ => PyProof.Rows.args_nil ?_) na) na rfl
  obtain ⟨l, ns, rfl, hq, h1, q1⟩ := q1
  cases r1
  rcases hq with hq | hq
  · obtain ⟨its, r, pl, hz⟩ := I1.list hq
    have hl : its.toArray.size = ns.length := by rw [List.size_toArray, ← r.length, List.length_map]
    refine call_set_list (I1.ok.hd hc) pl.isList (ns := ns) (by simpa using r.ints) (by unfold scanBound; omega) fun h' tk hS hk => ?_
    rw [hl, met_seen ns ns.length (Nat.le_refl _), List.take_length] at hS
    have hlen := seenL_len ns
    refine PyProof.Rows.args_nil ?_
    obtain ⟨o, es, ep, t, ho, hex, hd, _, _, _, hf, hn⟩ := hS
    have I2 : Inv X pins σ H1 { s1 with heap := h', toks := tk } := I1.kept fun b o e => hk b o (Heap.lt_size e) e
    refine call_len_set ho hex hd hf (by rw [hn] <;> omega) ⟨.int (seenL ns).length, H1, I2.tok _, ⟨_, by rw [hn]⟩, q1⟩
  · obtain ⟨its, r, pl, hz⟩ := I1.tuple hq
    refine call_set_tupI ns (I1.ok.hd hc) pl (by simpa using r.ints) (by unfold scanBound; omega) fun h' tk c hS hcl hk => ?_
    have hlen := seenL_len ns
    refine PyProof.Rows.args_nil ?_
    obtain ⟨o, es, ep, t, ho, hex, hd, hg1, hg2, hg3, _, hf, hn, _⟩ := hS
    have I2 : Inv X pins σ H1 { s1 with heap := h', toks := tk } := I1.kept hk
    have hes : es.size = (seenL ns).length := by
      have pm : (es.toList.map L2.keyOf).Perm (seenL ns) := (List.perm_ext_iff_of_nodup hg2 (seenL_nodup ns)).mpr fun k => by
        rw [← hg3 k, seenL_mem]
        simp
      have := pm.length_eq
      rw [List.length_map, Array.length_toList] at this
      exact this
    refine call_len_set ho hex hd hf (by rw [hes] <;> omega) ⟨.int (seenL ns).length, H1, I2.tok _, ⟨_, by rw [hes]⟩, q1⟩
def dTupR3 (g : DA) : DE := fun ρ P PX => g ρ (fun os ρ1 => match os with
  | [.d (.int m), .d (.int n), .d (.int (-1))] => (-(2 ^ 62) ≤ m ∧ m < 2 ^ 62 ∧ -(2 ^ 62) ≤ n ∧ n < 2 ^ 62 ∧ m - n ≤ 16000000) ∧ P (.d (.tuple (((List.range (m - n).toNat).map fun i : Nat => m - (i : Int)).map PyData.int))) ρ1
  | _ => False) PX
def dLenSet (f : DE) : DE := fun ρ P PX => f ρ (fun o ρ1 => vw1 ρ1 o fun d => match d with
  | .list ds => intsK ds fun ns => ns.length < 4000 ∧ P (.d (.int (seenL ns).length)) ρ1
  | .tuple ds => intsK ds fun ns => ns.length < 4000 ∧ P (.d (.int (seenL ns).length)) ρ1
  | _ => False) PX
variable {G : V → Nat → Option Addr → Prop} {W : WX} {a b c : Expr} {fa : DE} {g : DA} {px q pos pos' : Pos}
theorem e_tupR3 (hc : X.calm = true) (hg : Gl X "tuple") (hm : X.mg "tuple" = none) (hg2 : Gl X "range") (hm2 : X.mg "range" = none) (ha : PAd X G W [a, b, c] g)
    (hs : starEach [a, b, c] X.env = (false, eval a X.env) :: starEach [b, c] X.env := by rfl) (hpl : (backTo q (starEach [b, c] X.env)).any (·.1) = false := by rfl)
    (na : starEach [.Call (.Name "range" px) [a, b, c] [] q] X.env = (false, eval (.Call (.Name "range" px) [a, b, c] [] q) X.env) :: starEach [] X.env := by rfl) :
    PEd X G W (.Call (.Name "tuple" pos') [.Call (.Name "range" px) [a, b, c] [] q] [] pos) (dTupR3 g) := PE.weak (pe_tupR3 hc hg hm hg2 hm2 ha hs hpl na) fun σ H Q qq => by
  obtain ⟨F, I, ρ, P, PX, RR, f1, k, x⟩ := qq
  refine ⟨F, I, ρ, _, PX, RR, f1, fun os ρ1 vs F1 I1 H1 f2 s1 R1 r1 => ?_, x⟩
  split at f2
  · rename_i m n
    cases r1 with
    | cons r rr =>
      cases rr with
      | cons r' rr =>
        cases rr with
        | cons r'' rr =>
          cases rr
          cases r
          cases r'
          cases r''
          refine ⟨m, n, rfl, f2.1, ?_⟩
          have := Kont.tup (P := fun o => P o ρ1) (F := F1) (I := I1) (H := H1) (σ := σ) (ρ := ρ1) (Q := Q) (fun o v' I' H' h s' R' r' => k o ρ1 v' F1 I' H' h (s1.trans s') R' (r'.older fun b e => s1.old e)) R1 f2.2 (DdAll.ints _)
          rw [List.map_map] at this
          exact this
  · exact f2.elim
theorem e_lenset (hc : X.calm = true) (hg : Gl X "len") (hm : X.mg "len" = none) (hg2 : Gl X "set") (hm2 : X.mg "set" = none) (ha : PEd X G W a fa)
    (na : starEach [a] X.env = (false, eval a X.env) :: starEach [] X.env := by rfl) (nb : starEach [.Call (.Name "set" px) [a] [] q] X.env = (false, eval (.Call (.Name "set" px) [a] [] q) X.env) :: starEach [] X.env := by rfl) :
    PEd X G W (.Call (.Name "len" pos') [.Call (.Name "set" px) [a] [] q] [] pos) (dLenSet fa) := PE.weak (pe_lenSetD hc hg hm hg2 hm2 ha na nb) fun σ H Q qq => by
  obtain ⟨F, I, ρ, P, PX, R, f1, k, x⟩ := qq
  refine ⟨F, I, ρ, _, PX, R, f1, fun o ρ1 v F1 I1 H1 f2 s1 R1 r1 => ?_, x⟩
  obtain ⟨d, e, f2⟩ := vw1_of f2
  have hd0 := vw_ok R1 r1 e
  split at f2
  · obtain ⟨ns, rfl, hl, f3⟩ := intsK_of f2
    obtain ⟨l, rfl, e1⟩ := listInts R1.sub hd0
    exact ⟨l, ns, rfl, .inl e1, hl, k (.d (.int _)) ρ1 (.int _) F1 I1 H1 f3 s1 R1 (.int _)⟩
  · obtain ⟨ns, rfl, hl, f3⟩ := intsK_of f2
    obtain ⟨l, rfl, e1⟩ := tupInts R1.sub hd0
    exact ⟨l, ns, rfl, .inr e1, hl, k (.d (.int _)) ρ1 (.int _) F1 I1 H1 f3 s1 R1 (.int _)⟩
  · exact f2.elim
end
end Dt
/-! # Dt: the heap left over -/
namespace Dt
open PySem PySem.Spec PyProof.Rows L2
def downL (a b : Int) : List Int := (List.range (a - b).toNat).map fun i : Nat => a - (i : Int)
def sel (n : Int) (m : Nat) : Option Heap1 := if (m : Int) * (3 * (m : Int) - 1) = 2 * n then some (downL (2 * (m : Int) - 1) ((m : Int) - 1)) else if (m : Int) * (3 * (m : Int) + 1) = 2 * n then some (downL (2 * (m : Int)) (m : Int)) else none
def leftO (n : Int) : Option Heap1 := (List.range 58).findSome? (sel n)
def ohD : Option Heap1 → D | none => .none | some h => hD h
theorem leftO_at {n : Int} {m : Nat} {h : Heap1} (hm : m < 58) (hn : ∀ j, j < m → sel n j = none) (e : sel n m = some h) : leftO n = some h := by
  unfold leftO
  have : List.range 58 = List.range m ++ (m :: (List.range (57 - m)).map fun i => m + 1 + i) := by
    rw [show 58 = (m + 1) + (57 - m) by omega, List.range_add, List.range_succ]
    simp
  rw [this, List.findSome?_append]
  have h0 : (List.range m).findSome? (sel n) = none := by
    rw [List.findSome?_eq_none_iff]
    intro j hj
    exact hn j (List.mem_range.mp hj)
  rw [h0, List.findSome?_cons, e]
  rfl
theorem leftO_none {n : Int} (hn : ∀ j, j < 58 → sel n j = none) : leftO n = none := by
  unfold leftO
  rw [List.findSome?_eq_none_iff]
  intro j hj
  exact hn j (List.mem_range.mp hj)
theorem sq_mono {a b : Nat} (h : a ≤ b) : (a : Int) * (3 * (a : Int) - 1) ≤ (b : Int) * (3 * (b : Int) - 1) := by
  have e : ∀ a : Nat, (a : Int) * (3 * (a : Int) - 1) = 3 * ((a * a : Nat) : Int) - a := fun a => by
    rw [Int.mul_sub, Int.mul_left_comm, Int.mul_one, Int.natCast_mul]
  rw [e, e]
  have h2 : a * a + (b - a) ≤ b * b := by
    obtain ⟨d, rfl⟩ : ∃ d, b = a + d := ⟨b - a, by omega⟩
    rw [Nat.add_sub_cancel_left, Nat.mul_add, Nat.add_mul, Nat.add_mul]
    have : d ≤ d * d ∨ d = 0 := by
      rcases Nat.eq_zero_or_pos d with h | h
      · exact .inr h
      · exact .inl (Nat.le_mul_of_pos_left d h)
    rcases this with h | h
    · omega
    · subst h; omega
  omega
theorem sq_plus (a : Nat) : (a : Int) * (3 * (a : Int) + 1) = (a : Int) * (3 * (a : Int) - 1) + 2 * a := by
  rw [Int.mul_sub, Int.mul_add]
  omega
theorem sel_far {n : Int} {m : Nat} (h : 2 * n < (m : Int) * (3 * (m : Int) - 1)) {j : Nat} (hj : m ≤ j) : sel n j = none := by
  have h1 := sq_mono hj
  have h2 := sq_plus j
  unfold sel
  rw [if_neg (by omega), if_neg (by omega)]
theorem downL_run1 (m : Nat) : downL (2 * (m : Int) - 1) ((m : Int) - 1) = runL (2 * (m : Int) - 1) m [] := by
  unfold downL runL
  rw [show (2 * (m : Int) - 1 - ((m : Int) - 1)).toNat = m by omega, List.append_nil]
theorem downL_run2 (m : Nat) : downL (2 * (m : Int)) (m : Int) = runL (2 * (m : Int)) m [] := by
  unfold downL runL
  rw [show (2 * (m : Int) - (m : Int)).toNat = m by omega, List.append_nil]
theorem run_left {t : Int} {m : Nat} (h : m = 0 ∨ (m : Int) ≤ t ∧ (t - m + 1 = m ∨ t - m + 1 = m + 1)) : strictB (runL t m []) = true ∧ leftB (runL t m []) = true := by
  refine ⟨strictB_iff.mpr (runL_strict .nil (by simp)), ?_⟩
  by_cases h0 : m = 0
  · subst h0; rfl
  · obtain ⟨h1, h2⟩ := h.resolve_left h0
    have hs : slopeN (runL t m []) = m := runL_slope ⟨by omega, by simp, by simp, .nil, h1⟩
    unfold leftB
    rw [hs, runL_len, lastI_runL (by omega)]
    simp
    omega
theorem leftO_good {n : Int} {h : Heap1} (e : leftO n = some h) : strictB h = true ∧ leftB h = true ∧ h.length ≤ 58 := by
  unfold leftO at e
  obtain ⟨m, hm, e⟩ := List.exists_of_findSome?_eq_some e
  have hm := List.mem_range.mp hm
  unfold sel at e
  split at e
  · cases e
    rw [downL_run1]
    obtain ⟨a, b⟩ := run_left (t := 2 * (m : Int) - 1) (m := m) (by omega)
    exact ⟨a, b, by rw [runL_len]; simp; omega⟩
  · split at e
    · cases e
      rw [downL_run2]
      obtain ⟨a, b⟩ := run_left (t := 2 * (m : Int)) (m := m) (by omega)
      exact ⟨a, b, by rw [runL_len]; simp; omega⟩
    · cases e
theorem row_rev (low : Int) (m : Nat) : ((List.range m).map fun k : Nat => low + (k : Int)).reverse = downL (low + m - 1) (low - 1) := by
  unfold downL
  rw [show (low + (m : Int) - 1 - (low - 1)).toNat = m by omega]
  apply List.ext_getElem
  · simp
  · intro i h1 h2
    simp at h1 h2 ⊢
    omega
theorem row_sum (low : Int) : ∀ m : Nat, 2 * ((List.range m).map fun k : Nat => low + (k : Int)).sum = (m : Int) * (2 * low + m - 1)
  | 0 => by simp
  | m + 1 => by
    have := row_sum low m
    rw [sum_range_succ, Int.mul_add, this]
    have e1 : ((m + 1 : Nat) : Int) * (2 * low + ((m + 1 : Nat) : Int) - 1) = (m : Int) * (2 * low + m - 1) + m + (2 * low + m) := by
      rw [Int.natCast_add, show ((1 : Nat) : Int) = 1 from rfl, Int.add_mul, Int.one_mul, show 2 * low + ((m : Int) + 1) - 1 = (2 * low + m - 1) + 1 by omega, Int.mul_add, Int.mul_one]
      omega
    omega
def signO (n : Int) : Int := match leftO n with | none => 0 | some h => 1 - 2 * ((h.length : Int) % 2)
/-- the sign is the number at that place of the product -/
theorem sign_pr {n b : Nat} (h : n ≤ b) (h4 : n ≤ 400) : pr 0 b n = signO n := by
  rw [← shF_low h, shF_sum]
  have z : ∀ (c : Nat) (m : Nat), (n < c ∨ 20 ≤ c) → c ≤ m → sg (m + 1) * (mv (g1 (m + 1)) dl n + mv (g2 (m + 1)) dl n) = 0 := fun c m hc hm => by
    have e1 := g1_mono hm
    have e2 := g1_ge c
    have e3 := g1_g2 (m + 1)
    have e4 : 20 ≤ c → 400 < g1 (c + 1) := fun h => by
      have := g1_mono h
      have e5 : g1 (20 + 1) = 651 := by decide
      omega
    unfold mv
    rw [if_neg (by omega), if_neg (by omega)]
    simp
  have e : ((List.range b).map fun m => sg (m + 1) * (mv (g1 (m + 1)) dl n + mv (g2 (m + 1)) dl n)).sum = ((List.range 20).map fun m => sg (m + 1) * (mv (g1 (m + 1)) dl n + mv (g2 (m + 1)) dl n)).sum := by
    by_cases hb : b ≤ 20
    · by_cases hn : n < b
      · exact (sum_cut (z b · (.inl hn)) 20 hb).symm
      · have : n = b := by omega
        exact (sum_cut (f := fun m => sg (m + 1) * (mv (g1 (m + 1)) dl n + mv (g2 (m + 1)) dl n)) (fun m hm => by
          have e1 := g1_mono hm
          have e2 := g1_ge b
          have e3 := g1_g2 (m + 1)
          unfold mv
          rw [if_neg (by omega), if_neg (by omega)]
          simp) 20 hb).symm
    · exact sum_cut (z 20 · (.inr (Nat.le_refl _))) b (by omega)
  rw [e]
  have key : ∀ n : Fin 401, dl n.val + ((List.range 20).map fun m => sg (m + 1) * (mv (g1 (m + 1)) dl n.val + mv (g2 (m + 1)) dl n.val)).sum = signO n.val := by decide +kernel
  exact key ⟨n, by omega⟩
end Dt

/-! # Dt: all strict heaps of a number -/
namespace Dt
open PySem PySem.Spec PyProof.Rows L2
def unl : Nat → Nat → Nat → List Heap1
  | 0, _, _ => []
  | k + 1, n, m => if n = 0 then [[]] else (downTo (min n m)).flatMap fun p => (unl k (n - p) (p - 1)).map fun r => (p : Int) :: r
theorem unl_len : ∀ (k n m : Nat), (unl k n m).length ≤ gLen n
  | 0, n, _ => by rw [unl]; exact Nat.zero_le _
  | k + 1, n, m => by
    rw [unl]
    split
    · rename_i e
      subst e
      decide
    · refine Nat.le_trans (flat_len _ (fun p => gLen (n - p)) _ fun p _ => ?_) (gLen_le n (min n m) (by omega) (by omega))
      rw [List.length_map]
      exact unl_len k _ _
theorem unl_len24 {k n m : Nat} (h : n ≤ 24) : (unl k n m).length ≤ 8388608 := Nat.le_trans (unl_len k n m) (Nat.le_trans (gLen_mono h) (by decide))
theorem unl_small : ∀ {k n m : Nat} {r : Heap1}, r ∈ unl k n m → r.length ≤ n
  | 0, _, _, _, h => by rw [unl] at h; cases h
  | k + 1, n, m, r, h => by
    rw [unl] at h
    split at h
    · rw [List.mem_singleton.mp h]; simp
    · obtain ⟨p, hp, h⟩ := List.mem_flatMap.mp h
      obtain ⟨s, hs, rfl⟩ := List.mem_map.mp h
      have := unl_small hs
      have := mem_downTo.mp hp
      simp
      omega
def sgI (h : Heap1) : Int := 1 - 2 * ((h.length : Int) % 2)
def ulH (F : List Heap1) (h : Heap1) : Bool := strictB h && h.all (fun x => decide (1 ≤ x)) && (leftB h || (F.contains (shiftL h) && strictB (shiftL h) && (shiftL h).all (fun x => decide (1 ≤ x)) && !leftB (shiftL h) && decide (shiftL (shiftL h) = h) && (decide ((shiftL h).length = h.length + 1) || decide (h.length = (shiftL h).length + 1))))
def ulC (n : Nat) : Bool := (unl 26 n n).all (ulH (unl 26 n n)) && decide ((unl 26 n n).filter leftB = (leftO n).toList) && decide (((unl 26 n n).map sgI).sum = signO n)
theorem ul_all : ∀ n : Fin 25, ulC n.val = true := by decide +kernel
theorem ul_heap {n : Nat} (hn : n < 25) {h : Heap1} (hh : h ∈ unl 26 n n) : strictB h = true ∧ (∀ x ∈ h, 1 ≤ x) ∧ (leftB h = false → shiftL h ∈ unl 26 n n ∧ strictB (shiftL h) = true ∧ (∀ x ∈ shiftL h, 1 ≤ x) ∧ leftB (shiftL h) = false ∧ shiftL (shiftL h) = h ∧ ((shiftL h).length = h.length + 1 ∨ h.length = (shiftL h).length + 1)) := by
  have := ul_all ⟨n, hn⟩
  unfold ulC at this
  simp only [Bool.and_eq_true] at this
  have := List.all_eq_true.mp this.1.1 h hh
  unfold ulH at this
  simp only [Bool.and_eq_true, Bool.or_eq_true] at this
  obtain ⟨⟨a, b⟩, c⟩ := this
  refine ⟨a, fun x hx => by simpa using List.all_eq_true.mp b x hx, fun hl => ?_⟩
  rcases c with c | ⟨⟨⟨⟨⟨c1, c2⟩, c3⟩, c4⟩, c5⟩, c6⟩
  · rw [hl] at c; cases c
  · exact ⟨by simpa using c1, c2, fun x hx => by simpa using List.all_eq_true.mp c3 x hx, by simpa using c4, of_decide_eq_true c5, by simpa using c6⟩
theorem ul_left {n : Nat} (hn : n < 25) : (unl 26 n n).filter leftB = (leftO n).toList := by
  have := ul_all ⟨n, hn⟩
  unfold ulC at this
  simp only [Bool.and_eq_true] at this
  exact of_decide_eq_true this.1.2
theorem ul_sign {n : Nat} (hn : n < 25) : ((unl 26 n n).map sgI).sum = signO n := by
  have := ul_all ⟨n, hn⟩
  unfold ulC at this
  simp only [Bool.and_eq_true] at this
  exact of_decide_eq_true this.2
end Dt

/-! # Dt: rules that are made -/
namespace Dt
open PySem PySem.Spec PyProof.Rows L2
/-- ints in lists and tuples, so deep -/
def okI : Nat → D → Prop
  | 0, _ => False
  | k + 1, .list ds => ∀ d ∈ ds, okI k d
  | k + 1, .tuple ds => ∀ d ∈ ds, okI k d
  | _ + 1, .int _ => True
  | _ + 1, _ => False
theorem okI_heap (k : Nat) (h : Heap1) : okI (k + 2) (hD h) := by
  intro d hd
  obtain ⟨x, _, rfl⟩ := List.mem_map.mp hd
  trivial
theorem okI_rule (k : Nat) (r : List Heap1) : okI (k + 3) (rD r) := by
  intro d hd
  obtain ⟨x, _, rfl⟩ := List.mem_map.mp hd
  exact okI_heap k x
theorem okI_two (a b : List Heap1) : okI 6 (.tuple [rD a, rD b]) := by
  intro d hd
  rcases List.mem_cons.mp hd with rfl | hd
  · exact okI_rule _ a
  · rw [List.mem_singleton.mp hd]
    exact okI_rule _ b
theorem nodup_seen {ns : List Int} (h : ns.Nodup) : (seenL ns).length = ns.length := ((List.perm_ext_iff_of_nodup (seenL_nodup ns) h).mpr fun k => seenL_mem).length_eq
theorem seen_nodup' {ns : List Int} : ∀ {s : List Int}, (ns.foldl addNew s).length = s.length + ns.length → s.Nodup → (s ++ ns).Nodup := by
  induction ns with
  | nil => intro s _ h; simpa using h
  | cons x xs ih =>
    intro s h hs
    rw [List.foldl_cons] at h
    by_cases hx : x ∈ s
    · have e : addNew s x = s := by unfold addNew; rw [if_pos hx]
      rw [e] at h
      have := (seen_from xs s hs).2.2
      rw [List.length_cons] at h
      omega
    · have e : addNew s x = s ++ [x] := by unfold addNew; rw [if_neg hx]
      rw [e] at h
      have := ih (s := s ++ [x]) (by rw [h]; simp; omega) (by
        rw [List.nodup_append]
        exact ⟨hs, by simp, fun a ha b hb => by rw [List.mem_singleton.mp hb]; intro e; subst e; exact hx ha⟩)
      simpa using this
theorem nodup_of_seen {ns : List Int} (h : (seenL ns).length = ns.length) : ns.Nodup := by
  have := seen_nodup' (ns := ns) (s := []) (by simpa [seenL] using h) (by simp)
  simpa using this
theorem srt_rep (n : Nat) (x : Int) : (srt (List.replicate n x)).reverse = List.replicate n x := srtR_self (by
  rw [List.pairwise_replicate]
  exact .inr (Int.le_refl x))
theorem rep_map (n : Nat) (x : Int) : (List.replicate n [PyData.int x]).flatten = (List.replicate n x).map PyData.int := by
  rw [List.flatten_replicate_singleton, List.map_replicate]
theorem srt_one (x : Int) : (srt [x]).reverse = [x] := rfl
end Dt

/-! # Dt: two rules made of lanes match -/
namespace Dt
open PySem PySem.Spec PyProof.Rows L2
/-- the sum of the joined heap of a choice's rows -/
def jS (r : List Heap1) (c : List Int) : Int := (joinL (pickC r c)).sum
def okC (m : Nat) (c : List Int) : Prop := ∀ j ∈ c, 0 ≤ j ∧ j < (m : Int)
def alikeR (r s : List Heap1) : Prop := ∀ c, okC r.length c → jS r c = jS s c
theorem join_app {α : Type} (c : List α) (f g : α → Heap1) (h : ∀ x, (∀ j ∈ c, (f j).count x = 0) ∨ (∀ j ∈ c, (g j).count x = 0)) :
    (joinL (c.map fun j => f j ++ g j)).sum = (joinL (c.map f)).sum + (joinL (c.map g)).sum := by
  rw [← List.sum_append]
  refine perm_sum (List.perm_iff_count.mpr fun x => ?_)
  rw [List.count_append, joinL_count, joinL_count, joinL_count]
  have hle : ∀ {u : α → Heap1} {n : Nat}, (∀ j ∈ c, (u j).count x ≤ n) → mxC (c.map u) x ≤ n := fun hu => mxC_le fun w hw => by
    obtain ⟨j, hj, rfl⟩ := List.mem_map.mp hw
    exact hu j hj
  have hge : ∀ {u : α → Heap1} {j : α}, j ∈ c → (u j).count x ≤ mxC (c.map u) x := fun hj => mxC_ge (List.mem_map_of_mem hj) x
  rcases h x with h | h
  · have e0 : mxC (c.map f) x ≤ 0 := hle fun j hj => by rw [h j hj]; exact Nat.le_refl _
    have e1 : mxC (c.map fun j => f j ++ g j) x ≤ mxC (c.map g) x := hle fun j hj => by
      rw [List.count_append, h j hj, Nat.zero_add]; exact hge hj
    have e2 : mxC (c.map g) x ≤ mxC (c.map fun j => f j ++ g j) x := hle fun j hj => by
      have := hge (u := fun j => f j ++ g j) hj
      rw [List.count_append] at this
      omega
    omega
  · have e0 : mxC (c.map g) x ≤ 0 := hle fun j hj => by rw [h j hj]; exact Nat.le_refl _
    have e1 : mxC (c.map fun j => f j ++ g j) x ≤ mxC (c.map f) x := hle fun j hj => by
      rw [List.count_append, h j hj, Nat.add_zero]; exact hge hj
    have e2 : mxC (c.map f) x ≤ mxC (c.map fun j => f j ++ g j) x := hle fun j hj => by
      have := hge (u := fun j => f j ++ g j) hj
      rw [List.count_append] at this
      omega
    omega
def zapp (r s : List Heap1) : List Heap1 := (r.zip s).map fun p => p.1 ++ p.2
theorem zapp_len {r s : List Heap1} (h : r.length = s.length) : (zapp r s).length = r.length := by unfold zapp; simp [h]
theorem zapp_get {r s : List Heap1} (h : r.length = s.length) {j : Nat} (hj : j < r.length) : (zapp r s).getD j [] = r.getD j [] ++ s.getD j [] := by
  unfold zapp
  have hs : j < s.length := by omega
  have hz : j < (r.zip s).length := by rw [List.length_zip]; omega
  rw [List.getD_eq_getElem?_getD, List.getElem?_map, List.getElem?_eq_getElem hz, List.getD_eq_getElem?_getD, List.getD_eq_getElem?_getD, List.getElem?_eq_getElem hj, List.getElem?_eq_getElem hs]
  simp
theorem zapp_mem {r s : List Heap1} {g : Heap1} (h : g ∈ zapp r s) : ∃ a ∈ r, ∃ b ∈ s, g = a ++ b := by
  unfold zapp at h
  obtain ⟨p, hp, rfl⟩ := List.mem_map.mp h
  exact ⟨p.1, (List.of_mem_zip hp).1, p.2, (List.of_mem_zip hp).2, rfl⟩
theorem jS_zapp {r s : List Heap1} (hl : r.length = s.length) (hd : ∀ x, (∀ a ∈ r, x ∉ a) ∨ (∀ b ∈ s, x ∉ b)) {c : List Int} (hc : okC r.length c) : jS (zapp r s) c = jS r c + jS s c := by
  unfold jS pickC
  have e : (c.map fun j => (zapp r s).getD j.toNat []) = c.map fun j => r.getD j.toNat [] ++ s.getD j.toNat [] := List.map_congr_left fun j hj => zapp_get hl (by have := hc j hj; omega)
  rw [e]
  refine join_app c _ _ fun x => ?_
  have mem : ∀ {q : List Heap1} {j : Int}, j ∈ c → q.length = r.length → q.getD j.toNat [] ∈ q := fun {q j} hj hq => by
    have hlt : j.toNat < q.length := by have := hc j hj; omega
    rw [List.getD_eq_getElem?_getD, List.getElem?_eq_getElem hlt]
    exact List.getElem_mem hlt
  rcases hd x with h | h
  · exact .inl fun j hj => List.count_eq_zero.mpr (h _ (mem hj rfl))
  · exact .inr fun j hj => List.count_eq_zero.mpr (h _ (mem hj hl.symm))
/-! a lane: heaps by the level -/
structure LaneF (f : Nat → Heap1) : Prop where
  nil : f 0 = []
  mono : ∀ a b x, a ≤ b → (f a).count x ≤ (f b).count x
  down : ∀ a, (f a).Pairwise (· ≥ ·)
def topV (v : List Nat) (c : List Int) : Nat := (c.map fun j => v.getD j.toNat 0).foldr max 0
theorem topV_ge {v : List Nat} {c : List Int} {j : Int} (h : j ∈ c) : v.getD j.toNat 0 ≤ topV v c := by
  unfold topV
  induction c with
  | nil => cases h
  | cons k c ih =>
    rw [List.map_cons, List.foldr_cons]
    rcases List.mem_cons.mp h with rfl | h
    · omega
    · have := ih h; omega
theorem topV_at : ∀ (v : List Nat) (c : List Int), topV v c = 0 ∨ ∃ j ∈ c, topV v c = v.getD j.toNat 0
  | v, [] => .inl rfl
  | v, k :: c => by
    have e : topV v (k :: c) = max (v.getD k.toNat 0) (topV v c) := rfl
    rcases Nat.le_total (v.getD k.toNat 0) (topV v c) with h | h
    · rw [e, Nat.max_eq_right h]
      rcases topV_at v c with z | ⟨j, hj, z⟩
      · exact .inl z
      · exact .inr ⟨j, by simp [hj], z⟩
    · rw [e, Nat.max_eq_left h]
      exact .inr ⟨k, by simp, rfl⟩
theorem lane_join {f : Nat → Heap1} (L : LaneF f) (v : List Nat) {c : List Int} (hc : okC v.length c) : joinL (pickC (v.map f) c) = f (topV v c) := by
  have e : pickC (v.map f) c = c.map fun j => f (v.getD j.toNat 0) := List.map_congr_left fun j hj => by
    have hlt : j.toNat < v.length := by have := hc j hj; omega
    simp [List.getD_eq_getElem?_getD, hlt]
  symm
  refine joinL_eq (L.down _) fun x => ?_
  rw [e]
  refine Nat.le_antisymm ?_ (mxC_le fun w hw => ?_)
  · rcases topV_at v c with h | ⟨j, hj, h⟩
    · rw [h, L.nil]; simp
    · rw [h]
      exact mxC_ge (r := c.map fun j => f (v.getD j.toNat 0)) (List.mem_map.mpr ⟨j, hj, rfl⟩) x
  · obtain ⟨j, hj, rfl⟩ := List.mem_map.mp hw
    exact L.mono _ _ _ (topV_ge hj)
theorem lane_sum {f g : Nat → Heap1} (F : LaneF f) (G : LaneF g) {v : List Nat} {n : Nat} (hv : ∀ x ∈ v, x ≤ n) (h : ∀ a, a ≤ n → (f a).sum = (g a).sum) {c : List Int} (hc : okC v.length c) : jS (v.map f) c = jS (v.map g) c := by
  unfold jS
  rw [lane_join F v hc, lane_join G v hc]
  refine h _ ?_
  rcases topV_at v c with z | ⟨j, hj, z⟩
  · omega
  · rw [z]
    have hlt : j.toNat < v.length := by have := hc j hj; omega
    rw [List.getD_eq_getElem?_getD, List.getElem?_eq_getElem hlt]
    exact hv _ (List.getElem_mem hlt)
theorem sum_rep (n : Nat) (x : Int) : (List.replicate n x).sum = n * x := by
  induction n with
  | zero => simp
  | succ n ih => rw [List.replicate_succ, List.sum_cons, ih]; push_cast; rw [Int.add_mul]; omega
/-- so often by the level -/
def timesF (k : Nat) (x : Int) (v : Nat) : Heap1 := List.replicate (v * k) x
theorem timesF_lane (k : Nat) (x : Int) : LaneF (timesF k x) := by
  refine ⟨by simp [timesF], fun a b y h => ?_, fun a => ?_⟩
  · unfold timesF
    rw [List.count_replicate, List.count_replicate]
    have := Nat.mul_le_mul_right k h
    split <;> omega
  · unfold timesF
    rw [List.pairwise_replicate]
    exact .inr (Int.le_refl x)
/-- the other side of a lane that is split: the part itself once, then so many of the other's -/
def splitF (l r : Int) (k : Nat) (v : Nat) : Heap1 := (l :: List.replicate k r).take (if v = 0 then 0 else if v = 1 then 1 else 1 + k)
theorem splitF_lane {l r : Int} (k : Nat) (h : r ≤ l) : LaneF (splitF l r k) := by
  have full : (l :: List.replicate k r).take (1 + k) = l :: List.replicate k r := List.take_of_length_le (by simp; omega)
  refine ⟨by simp [splitF], fun a b y hab => ?_, fun a => ?_⟩
  · unfold splitF
    have hle : (if a = 0 then 0 else if a = 1 then 1 else 1 + k) ≤ (if b = 0 then 0 else if b = 1 then 1 else 1 + k) := by
      split
      · omega
      · split
        · split
          · omega
          · split <;> omega
        · split
          · omega
          · split <;> omega
    exact ((List.take_sublist_take_left hle)).count_le y
  · unfold splitF
    refine List.Pairwise.sublist (List.take_sublist _ _) ?_
    rw [List.pairwise_cons, List.pairwise_replicate]
    exact ⟨fun y hy => by rw [List.eq_of_mem_replicate hy]; exact h, .inr (Int.le_refl r)⟩
theorem splitF_sum {l r : Int} {k : Nat} (h : (k : Int) * r = l) {v : Nat} (hv : v ≤ 2) : (splitF l r k v).sum = v * l := by
  have full : (l :: List.replicate k r).take (1 + k) = l :: List.replicate k r := List.take_of_length_le (by simp; omega)
  unfold splitF
  rcases Nat.lt_or_ge v 1 with z | z
  · have : v = 0 := by omega
    subst this; simp
  · rcases Nat.lt_or_ge v 2 with z2 | z2
    · have : v = 1 := by omega
      subst this; simp
    · have : v = 2 := by omega
      subst this
      rw [if_neg (by decide), if_neg (by decide), full, List.sum_cons, sum_rep, h]
      push_cast
      omega
theorem timesF_sum (k : Nat) (x : Int) (v : Nat) : (timesF k x v).sum = v * (k * x) := by
  unfold timesF
  rw [sum_rep]
  push_cast
  rw [Int.mul_assoc]
theorem timesF_mem {k : Nat} {x y : Int} {v : Nat} (h : y ∈ timesF k x v) : y = x := List.eq_of_mem_replicate h
theorem splitF_mem {l r y : Int} {k v : Nat} (h : y ∈ splitF l r k v) : y = l ∨ y = r := by
  rcases List.mem_cons.mp (List.mem_of_mem_take h) with h | h
  · exact .inl h
  · exact .inr (List.eq_of_mem_replicate h)
theorem timesF_len (k : Nat) (x : Int) (v : Nat) : (timesF k x v).length = v * k := by unfold timesF; simp
theorem splitF_len (l r : Int) (k v : Nat) : (splitF l r k v).length ≤ 1 + k := by unfold splitF; rw [List.length_take]; simp; omega
/-! what the lanes' loop keeps -/
structure LaneI (m : Nat) (b : Nat) (ones others : List Heap1) (ls rs : List Int) : Prop where
  l1 : ones.length = m
  l2 : others.length = m
  p1 : ∀ a ∈ ones, ∀ x ∈ a, x ∈ ls
  p2 : ∀ a ∈ others, ∀ x ∈ a, x ∈ rs
  b1 : ∀ a ∈ ones, a.length ≤ b
  b2 : ∀ a ∈ others, a.length ≤ b
  v1 : ∀ x ∈ ls, 1 ≤ x ∧ x ≤ 8
  v2 : ∀ x ∈ rs, 1 ≤ x ∧ x ≤ 8
  same : ∀ c, okC m c → jS ones c = jS others c
theorem LaneI.start (m : Nat) : LaneI m 0 (List.replicate m []) (List.replicate m []) [] [] :=
  ⟨by simp, by simp, fun a ha x hx => (by rw [List.eq_of_mem_replicate ha] at hx; cases hx), fun a ha x hx => (by rw [List.eq_of_mem_replicate ha] at hx; cases hx),
    fun a ha => by rw [List.eq_of_mem_replicate ha]; exact Nat.le_refl _, fun a ha => by rw [List.eq_of_mem_replicate ha]; exact Nat.le_refl _, by simp, by simp, fun _ _ => rfl⟩
theorem LaneI.step {m b : Nat} {ones others : List Heap1} {ls rs : List Int} (I : LaneI m b ones others ls rs) {f g : Nat → Heap1} (F : LaneF f) (G : LaneF g) {v : List Nat} (hvl : v.length = m) (hv : ∀ x ∈ v, x ≤ 2)
    (hs : ∀ a, a ≤ 2 → (f a).sum = (g a).sum) {ml mr : List Int} (hf : ∀ a, ∀ x ∈ f a, x ∈ ml) (hg : ∀ a, ∀ x ∈ g a, x ∈ mr) (nl : ∀ x ∈ ml, x ∉ ls) (nr : ∀ x ∈ mr, x ∉ rs) (vl : ∀ x ∈ ml, 1 ≤ x ∧ x ≤ 8) (vr : ∀ x ∈ mr, 1 ≤ x ∧ x ≤ 8)
    (bf : ∀ a, a ≤ 2 → (f a).length ≤ 16) (bg : ∀ a, a ≤ 2 → (g a).length ≤ 16) : LaneI m (b + 16) (zapp ones (v.map f)) (zapp others (v.map g)) (ls ++ ml) (rs ++ mr) := by
  have e1 : ones.length = (v.map f).length := by rw [I.l1]; simp [hvl]
  have e2 : others.length = (v.map g).length := by rw [I.l2]; simp [hvl]
  refine ⟨by rw [zapp_len e1, I.l1], by rw [zapp_len e2, I.l2], fun a ha x hx => ?_, fun a ha x hx => ?_, fun a ha => ?_, fun a ha => ?_, fun x hx => ?_, fun x hx => ?_, fun c hc => ?_⟩
  · obtain ⟨p, hp, q, hq, rfl⟩ := zapp_mem ha
    obtain ⟨u, _, rfl⟩ := List.mem_map.mp hq
    rcases List.mem_append.mp hx with hx | hx
    · exact List.mem_append_left _ (I.p1 p hp x hx)
    · exact List.mem_append_right _ (hf u x hx)
  · obtain ⟨p, hp, q, hq, rfl⟩ := zapp_mem ha
    obtain ⟨u, _, rfl⟩ := List.mem_map.mp hq
    rcases List.mem_append.mp hx with hx | hx
    · exact List.mem_append_left _ (I.p2 p hp x hx)
    · exact List.mem_append_right _ (hg u x hx)
  · obtain ⟨p, hp, q, hq, rfl⟩ := zapp_mem ha
    obtain ⟨u, hu, rfl⟩ := List.mem_map.mp hq
    have := I.b1 p hp
    have := bf u (hv u hu)
    rw [List.length_append]; omega
  · obtain ⟨p, hp, q, hq, rfl⟩ := zapp_mem ha
    obtain ⟨u, hu, rfl⟩ := List.mem_map.mp hq
    have := I.b2 p hp
    have := bg u (hv u hu)
    rw [List.length_append]; omega
  · rcases List.mem_append.mp hx with hx | hx
    · exact I.v1 x hx
    · exact vl x hx
  · rcases List.mem_append.mp hx with hx | hx
    · exact I.v2 x hx
    · exact vr x hx
  · have d1 : ∀ x, (∀ a ∈ ones, x ∉ a) ∨ (∀ b ∈ v.map f, x ∉ b) := fun x => by
      by_cases h : x ∈ ml
      · exact .inl fun a ha hx => nl x h (I.p1 a ha x hx)
      · exact .inr fun b hb hx => by
          obtain ⟨u, _, rfl⟩ := List.mem_map.mp hb
          exact h (hf u x hx)
    have d2 : ∀ x, (∀ a ∈ others, x ∉ a) ∨ (∀ b ∈ v.map g, x ∉ b) := fun x => by
      by_cases h : x ∈ mr
      · exact .inl fun a ha hx => nr x h (I.p2 a ha x hx)
      · exact .inr fun b hb hx => by
          obtain ⟨u, _, rfl⟩ := List.mem_map.mp hb
          exact h (hg u x hx)
    rw [jS_zapp e1 d1 (by rw [I.l1]; exact hc), jS_zapp e2 d2 (by rw [I.l2]; exact hc), I.same c hc, lane_sum F G hv hs (by rw [hvl]; exact hc)]
/-- rows put in order join alike -/
def ordR (r : List Heap1) : List Heap1 := r.map fun a => (srt a).reverse
theorem jS_ord {r : List Heap1} {c : List Int} (hc : okC r.length c) : jS (ordR r) c = jS r c := by
  unfold jS
  have e : joinL (pickC (ordR r) c) = joinL (pickC r c) := joinL_eq (joinL_down _) fun x => by
    rw [joinL_count]
    have key : ∀ j ∈ c, ((ordR r).getD j.toNat []).count x = (r.getD j.toNat []).count x := fun j hj => by
      have hlt : j.toNat < r.length := by have := hc j hj; omega
      unfold ordR
      simp only [List.getD_eq_getElem?_getD, List.getElem?_map, List.getElem?_eq_getElem hlt, Option.map_some, Option.getD_some]
      exact (perm_srtR _).count_eq x
    unfold mxC pickC
    rw [List.map_map, List.map_map]
    congr 1
    exact List.map_congr_left key
  rw [e]
structure Mates (n : Nat) (r s : List Heap1) : Prop where
  len : r.length = s.length
  most : r.length ≤ n
  h1 : ∀ a ∈ r, isHeap a ∧ a.length ≤ 64 ∧ ∀ x ∈ a, x ≤ 8
  h2 : ∀ a ∈ s, isHeap a ∧ a.length ≤ 64 ∧ ∀ x ∈ a, x ≤ 8
  same : ∀ c, okC r.length c → jS r c = jS s c
theorem Mates.symm {n : Nat} {r s : List Heap1} (h : Mates n r s) : Mates n s r :=
  ⟨h.len.symm, by rw [← h.len]; exact h.most, h.h2, h.h1, fun c hc => (h.same c (by rw [h.len]; exact hc)).symm⟩
theorem LaneI.done {m b n : Nat} {ones others : List Heap1} {ls rs : List Int} (I : LaneI m b ones others ls rs) (hb : b ≤ 64) (hm : m ≤ n) : Mates n (ordR ones) (ordR others) := by
  have side : ∀ {r : List Heap1} {ps : List Int}, (∀ a ∈ r, ∀ x ∈ a, x ∈ ps) → (∀ a ∈ r, a.length ≤ b) → (∀ x ∈ ps, 1 ≤ x ∧ x ≤ 8) → ∀ a ∈ ordR r, isHeap a ∧ a.length ≤ 64 ∧ ∀ x ∈ a, x ≤ 8 := by
    intro r ps h1 h2 h3 a ha
    obtain ⟨u, hu, rfl⟩ := List.mem_map.mp ha
    have hx : ∀ x ∈ (srt u).reverse, 1 ≤ x ∧ x ≤ 8 := fun x hx => h3 x (h1 u hu x (mem_srtR.mp hx))
    exact ⟨⟨down_srtR u, fun x h => (hx x h).1⟩, by rw [len_srtR]; have := h2 u hu; omega, fun x h => (hx x h).2⟩
  refine ⟨by unfold ordR; rw [List.length_map, List.length_map, I.l1, I.l2], by unfold ordR; rw [List.length_map, I.l1]; exact hm, side I.p1 I.b1 I.v1, side I.p2 I.b2 I.v2, fun c hc => ?_⟩
  have hc : okC m c := by unfold ordR at hc; rw [List.length_map, I.l1] at hc; exact hc
  rw [jS_ord (by rw [I.l1]; exact hc), jS_ord (by rw [I.l2]; exact hc), I.same c hc]
/-! lists of lists of ints, as data -/
abbrev lD (r : List Int) : D := .list (r.map PyData.int)
def llK (d : D) (k : List Heap1 → Prop) : Prop := (cL (cL cInt)).K d k
theorem llK_of {d : D} {k : List Heap1 → Prop} (h : llK d k) : ∃ a : List Heap1, d = .list (a.map lD) ∧ k a := Cod.K_of h
theorem llK_in {r : List Heap1} {k : List Heap1 → Prop} (q : k r) : llK (.list (r.map lD)) k := by
  have e : llK (.list (r.map lD)) k = k r := (cL (cL cInt)).K_enc r k
  rw [e]; exact q
theorem fdOk {j : Int} (h0 : 0 < j) (h1 : j ≤ 1000000) : 0 < j ∧ j.natAbs < 2 ^ 8000 := by
  refine ⟨h0, Nat.lt_of_lt_of_le (m := 2 ^ 20) (by omega) (Nat.pow_le_pow_right (by decide) (by decide))⟩
structure LaneP (l r : Int) (s : Bool) (f g : Nat → Heap1) : Prop where
  F : LaneF f
  G : LaneF g
  sum : ∀ a, a ≤ 2 → (f a).sum = (g a).sum
  mf : ∀ a, ∀ x ∈ f a, x = l
  mg : ∀ a, ∀ x ∈ g a, x = r ∨ (s = true ∧ x = l)
  bf : ∀ a, a ≤ 2 → (f a).length ≤ 16
  bg : ∀ a, a ≤ 2 → (g a).length ≤ 16
theorem LaneP.plain {l r a b g : Int} (hl : 1 ≤ l ∧ l ≤ 8) (hr : 1 ≤ r ∧ r ≤ 8) (ha : 1 ≤ a) (hb : 1 ≤ b) (hg : 1 ≤ g) (el : a * g = l) (er : b * g = r) : LaneP l r false (timesF b.toNat l) (timesF a.toNat r) := by
  have a8 : a ≤ 8 := by
    have := Int.mul_le_mul_of_nonneg_left hg (show 0 ≤ a by omega)
    omega
  have b8 : b ≤ 8 := by
    have := Int.mul_le_mul_of_nonneg_left hg (show 0 ≤ b by omega)
    omega
  refine ⟨timesF_lane _ _, timesF_lane _ _, fun v _ => ?_, fun _ _ h => timesF_mem h, fun _ _ h => .inl (timesF_mem h), fun v hv => ?_, fun v hv => ?_⟩
  · rw [timesF_sum, timesF_sum, Int.toNat_of_nonneg (by omega), Int.toNat_of_nonneg (by omega), ← el, ← er]
    congr 1
    rw [← Int.mul_assoc, ← Int.mul_assoc, Int.mul_comm b a]
  · rw [timesF_len]
    have : v * b.toNat ≤ 2 * 8 := Nat.mul_le_mul hv (by omega)
    omega
  · rw [timesF_len]
    have : v * a.toNat ≤ 2 * 8 := Nat.mul_le_mul hv (by omega)
    omega
theorem LaneP.split {l r : Int} (hl : 1 ≤ l ∧ l ≤ 8) (hr : 1 ≤ r ∧ r ≤ 8) (hd : l % r = 0) (hlt : r < l) : LaneP l r true (timesF 1 l) (splitF l r (l / r).toNat) := by
  have e : (l / r) * r = l := Int.ediv_mul_cancel (Int.dvd_of_emod_eq_zero hd)
  have q0 : 0 ≤ l / r := Int.ediv_nonneg (by omega) (by omega)
  have q8 : l / r ≤ 8 := by
    have := Int.ediv_le_self r (show 0 ≤ l by omega)
    omega
  refine ⟨timesF_lane _ _, splitF_lane _ (by omega), fun v hv => ?_, fun _ _ h => timesF_mem h, fun _ _ h => (splitF_mem h).elim (fun z => .inr ⟨rfl, z⟩) .inl, fun v hv => ?_, fun v hv => ?_⟩
  · rw [timesF_sum, splitF_sum (by rw [Int.toNat_of_nonneg q0, e]) hv]
    simp
  · rw [timesF_len]; omega
  · have := splitF_len l r (l / r).toNat v
    omega
theorem LaneI.weak {m b : Nat} {ones others : List Heap1} {ls rs : List Int} (I : LaneI m b ones others ls rs) {b' : Nat} (h : b ≤ b') : LaneI m b' ones others ls rs :=
  ⟨I.l1, I.l2, I.p1, I.p2, fun a ha => Nat.le_trans (I.b1 a ha) h, fun a ha => Nat.le_trans (I.b2 a ha) h, I.v1, I.v2, I.same⟩
theorem start_rows (n : Nat) : ((List.range n).map fun _ => lD []) = (List.replicate n []).map lD := by
  rw [List.map_replicate, List.map_const', List.length_range]
/-- one lane more, or none -/
theorem LaneI.lane {m b : Nat} {ones others : List Heap1} {ls rs : List Int} (I : LaneI m b ones others ls rs) {l r : Int} {s : Bool} {f g : Nat → Heap1} (L : LaneP l r s f g) {v : List Int} (hvl : v.length = m) (hv : ∀ x ∈ v, 0 ≤ x ∧ x < 3)
    (hl : 1 ≤ l ∧ l ≤ 8) (hr : 1 ≤ r ∧ r ≤ 8) (nl : l ∉ ls) (nr : r ∉ rs) (ns : s = true → l ∉ rs) : LaneI m (b + 16) (zapp ones (v.map fun x => f x.toNat)) (zapp others (v.map fun x => g x.toNat)) (ls ++ [l]) (rs ++ (r :: if s then [l] else [])) := by
  have e : ∀ u : Nat → Heap1, (v.map fun x => u x.toNat) = (v.map Int.toNat).map u := fun u => by rw [List.map_map]; rfl
  rw [e f, e g]
  refine I.step L.F L.G (by rw [List.length_map, hvl]) (fun x hx => ?_) L.sum (fun a x hx => by rw [L.mf a x hx]; simp) (fun a x hx => ?_) (fun x hx => ?_) (fun x hx => ?_) (fun x hx => ?_) (fun x hx => ?_) L.bf L.bg
  · obtain ⟨y, hy, rfl⟩ := List.mem_map.mp hx
    have := hv y hy
    omega
  · rcases L.mg a x hx with z | ⟨z1, z2⟩
    · rw [z]; simp
    · rw [z1, z2]; simp
  · rw [List.mem_singleton.mp hx]; exact nl
  · rcases List.mem_cons.mp hx with rfl | hx
    · exact nr
    · cases s with
      | false => cases hx
      | true => rw [List.mem_singleton.mp hx]; exact ns rfl
  · rw [List.mem_singleton.mp hx]; exact hl
  · rcases List.mem_cons.mp hx with rfl | hx
    · exact hr
    · cases s with
      | false => cases hx
      | true => rw [List.mem_singleton.mp hx]; exact hl
theorem zip_lD (r s : List Heap1) : zipD (r.map lD) (s.map lD) = (r.zip s).map fun p => PyData.tuple [lD p.1, lD p.2] := zipD_map lD lD r s
theorem zapp_map (r s : List Heap1) : ((r.zip s).map fun p => lD (p.1 ++ p.2)) = (zapp r s).map lD := by unfold zapp; rw [List.map_map]; rfl
theorem Mates.pos {n : Nat} {r s : List Heap1} (h : Mates n r s) : posR r := fun g hg x hx => (h.h1 g hg).1.2 x hx
theorem Mates.okJ {n : Nat} {r s : List Heap1} (h : Mates n r s) (hn : n ≤ 6) : okJ r := ⟨by have := h.most; omega, fun g hg => by have := (h.h1 g hg).2.1; omega⟩
theorem Mates.keep {n : Nat} {r s : List Heap1} (h : Mates n r s) (m : Nat) : keepN r m = keepN s m := by
  rw [keepN_choices, keepN_choices, ← h.len]
  congr 1
  refine List.map_congr_left fun c hc => ?_
  have : jS r c = jS s c := h.same c (choicesL_mem hc)
  unfold jS at this
  rw [this]
end Dt

/-! # Dt: xs[i], ys[j] = a, b; sorted(set(x)) -/
namespace Dt
open PySem PySem.Spec PyProof.Rows L2
def dSwapIx (f a1 b1 a2 b2 : DE) : DS := fun E ρ => f ρ (fun o ρ1 => onlyd1 o fun d => match d with
  | .tuple [d1, d2] => a1 ρ1 (fun o2 ρ2 => locK o2 fun j => b1 ρ2 (fun o3 ρ3 => intK o3 fun i => setIxK ρ3 j i d1 fun ρ4 => a2 ρ4 (fun o5 ρ5 => locK o5 fun j2 => b2 ρ5 (fun o6 ρ6 => intK o6 fun i2 => setIxK ρ6 j2 i2 d2 E.nx) E.ex) E.ex) E.ex) E.ex
  | _ => False) E.ex
section
variable {X : Cx} {G : V → Nat → Option Addr → Prop} {W : WX} {pos tpos1 tpos2 pt : Pos} {kt : Nat} {x1 y1 x2 y2 e : Expr} {f a1 b1 a2 b2 : DE}
theorem z_swapIx (hc : X.calm = true) (he : PEd X G W e f) (ha1 : PEd X G W x1 a1) (hb1 : PEd X G W y1 b1) (ha2 : PEd X G W x2 a2) (hb2 : PEd X G W y2 b2)
    (h1 : ∀ v, assign (.Subscript x1 y1 tpos1) X.env v = (do
      let ov ← holding [v] (eval x1 X.env)
      let iv ← holding [v, ov] (eval y1 X.env)
      standAt tpos1
      holding [v, ov, iv] (setItem ov iv v)
      release [v, ov, iv] []) := by intro _; rfl)
    (h2 : ∀ v, assign (.Subscript x2 y2 tpos2) X.env v = (do
      let ov ← holding [v] (eval x2 X.env)
      let iv ← holding [v, ov] (eval y2 X.env)
      standAt tpos2
      holding [v, ov, iv] (setItem ov iv v)
      release [v, ov, iv] []) := by intro _; rfl)
    (s2 : (assignEach [.Subscript x1 y1 tpos1, .Subscript x2 y2 tpos2] X.env).map (·.2) = assign (.Subscript x1 y1 tpos1) X.env :: (assignEach [.Subscript x2 y2 tpos2] X.env).map (·.2) := by rfl)
    (s1 : (assignEach [.Subscript x2 y2 tpos2] X.env).map (·.2) = assign (.Subscript x2 y2 tpos2) X.env :: (assignEach [] X.env).map (·.2) := by rfl)
    (hn : (assignEach [.Subscript x1 y1 tpos1, .Subscript x2 y2 tpos2] X.env).length = 2 := by rfl) (hst : (assignEach [.Subscript x1 y1 tpos1, .Subscript x2 y2 tpos2] X.env).findIdx? (·.1) = none := by rfl)
    (hs : swapsWithSole [.Tuple [.Subscript x1 y1 tpos1, .Subscript x2 y2 tpos2] kt pt] e pos.line X.env = pure false := by rfl) (hw : swappedStores [.Tuple [.Subscript x1 y1 tpos1, .Subscript x2 y2 tpos2] kt pt] e X.env = pure none := by rfl)
    (h3 : (assignEach [.Tuple [.Subscript x1 y1 tpos1, .Subscript x2 y2 tpos2] kt pt] X.env).map (·.2) = [assign (.Tuple [.Subscript x1 y1 tpos1, .Subscript x2 y2 tpos2] kt pt) X.env] := by rfl) :
    PSd X G W (.Assign [.Tuple [.Subscript x1 y1 tpos1, .Subscript x2 y2 tpos2] kt pt] e pos) (dSwapIx f a1 b1 a2 b2) :=
  PS.weak (ps_asg he (pg_tup hc (pgs_cons (pg_sub ha1 hb1 set_list h1) (pgs_cons (pg_sub ha2 hb2 set_list h2) pgs_nil s1) s2) hn hst) hs hw h3) fun D σ H q => by
    obtain ⟨F, I, ρ, E, R, f1, k⟩ := q
    refine ⟨F, I, ρ, _, E.ex, R, f1, fun o ρ1 v F1 I1 H1 f2 s1 R1 r1 => ?_, k.xend⟩
    obtain ⟨d, rfl, g0⟩ := onlyd1_of f2
    split at g0
    · rename_i d1 d2
      have f2 := g0
      have r1 : Dd (pm X G) I1 v (.tuple [d1, d2]) := r1
      cases r1 with
      | tup h z hs =>
        cases hs with
        | cons g1 hs =>
          cases hs with
          | cons g2 hs =>
            cases hs
            refine ⟨_, _, rfl, sqF (R1.sub _ _ h), rfl, _, _, rfl, ?_⟩
            refine ⟨F1, I1, ρ1, _, E.ex, R1, f2, fun o2 ρ2 w F2 I2 H2 f3 s2 R2 r2 => ?_, (k.later s1).xend⟩
            obtain ⟨j, rfl, g3⟩ := locK_of f3
            have s12 := s1.trans s2
            refine ⟨F2, I2, ρ2, _, E.ex, R2, g3, fun o3 ρ3 u F3 I3 H3 f4 s3 R3 r3 => ?_, (k.later s12).xend⟩
            obtain ⟨i, rfl, g4⟩ := intK_of f4
            cases r3
            have s13 := s12.trans s3
            refine set_run (p := pm X G) (s2.trans s3) R3 r2 (Dd.mono (s2.trans s3).inc g1) g4 fun ρ4 F4 I4 H4 f5 t4 R4 => ?_
            have s14 := s1.trans t4
            refine ⟨_, _, rfl, ?_⟩
            refine ⟨F4, I4, ρ4, _, E.ex, R4, f5, fun o5 ρ5 w F5 I5 H5 f6 s5 R5 r5 => ?_, (k.later s14).xend⟩
            obtain ⟨j2, rfl, g6⟩ := locK_of f6
            have s15 := s14.trans s5
            refine ⟨F5, I5, ρ5, _, E.ex, R5, g6, fun o6 ρ6 u F6 I6 H6 f7 s6 R6 r6 => ?_, (k.later s15).xend⟩
            obtain ⟨i2, rfl, g7⟩ := intK_of f7
            cases r6
            have s16 := s15.trans s6
            have g2' : Dd (pm X G) I6 _ d2 := Dd.mono ((t4.trans s5).trans s6).inc g2
            exact set_run (p := pm X G) s16 R6 r5 g2' g7 fun ρ' F' I' H' h s' R' => ⟨rfl, k.nx ρ' σ F' I' H' h s' R'⟩
    · exact g0.elim
end
/-! ### sorted(set(x)) of a tuple of ints -/
section
variable {X : Cx}
theorem srt_seen {ns ms : List Int} (h1 : ms.Pairwise (· < ·)) (h2 : ∀ k, k ∈ ms ↔ k ∈ ns) : ms = srt (seenL ns) := by
  refine srt_eq ((List.perm_ext_iff_of_nodup (h1.imp fun h e => by omega) (seenL_nodup ns)).mpr fun k => by rw [h2, seenL_mem]) (h1.imp fun h => by omega)
def tSortSetD (K : PySem.W.Frag) (ta : TE) : TE := fun σ H Q => ta σ H fun x H1 => ∃ (l : Addr) (ns : List Int), x = V.ref l ∧ SqT K H1 l (ns.map V.int) ∧ ns.length < 63 ∧ ∀ p, H1 p = none → Q (.ref p) (upd H1 p (.lst ((srt (seenL ns)).map V.int)))
theorem pe_sortSetD {a : Expr} {ta : TE} {p p2 q pos : Pos} (hc : X.calm = true) (hg : Gl X "sorted") (hm : X.mg "sorted" = none) (hg2 : Gl X "set") (hm2 : X.mg "set" = none) (ha : PE X a ta)
    (na : starEach [a] X.env = (false, eval a X.env) :: starEach [] X.env := by rfl) (nb : starEach [.Call (.Name "set" p2) [a] [] q] X.env = (false, eval (.Call (.Name "set" p2) [a] [] q) X.env) :: starEach [] X.env := by rfl) :
    PE X (.Call (.Name "sorted" p) [.Call (.Name "set" p2) [a] [] q] [] pos) (tSortSetD X.K ta) := by
  refine ⟨fun pins s σ H Q I h => ?_⟩
  refine Call_ (ld_blt I hg hm PyProof.Rows.boot_sorted ?_)
  refine PyProof.Rows.callWith_builtin1 (PyProof.Rows.args_cons ?_ nb) nb rfl
  refine Call_ (ld_blt I hg2 hm2 PyProof.Rows.boot_set ?_)
  refine PyProof.Rows.callWith_type1 (PyProof.Rows.args_cons (thn (ha.run pins s σ H _ I h) fun v s1 ⟨x, H1, I1, r1, q1⟩ => PyProof.Rows.args_nil ?_) na) na rfl
  obtain ⟨l, ns, rfl, hq, h1, q1⟩ := q1
  cases r1
  obtain ⟨its, r, pl, hz⟩ := I1.tuple hq
  refine call_set_tupI ns (I1.ok.hd hc) pl (by simpa using r.ints) (by unfold scanBound; omega) fun h' tk c hS hcl hk => ?_
  refine PyProof.Rows.args_nil ?_
  have I2 : Inv X pins σ H1 { s1 with heap := h', toks := tk } := I1.kept hk
  have hS : SetR X.w ({ s1 with heap := h', toks := tk } : Shared).heap s1.heap.objs.size (fun j => decide (j ∈ ns)) c := hS
  generalize ({ s1 with heap := h', toks := tk } : Shared) = s2 at I2 hS
  refine sorted_set hS (I2.ok.hd hc) (by omega) fun s' p out c ns2 k g o hp hg hi hs hm hl => ?_
  have e1 : ns2 = srt (seenL ns) := srt_seen hs fun k => by rw [hm]; simp
  subst e1
  have hlen : ((srt (seenL ns)).map V.int).length ≤ sizeLine := by rw [List.length_map, len_srt, sizeLine_eq]; have := seenL_len ns; omega
  have hn : H1 p = none := I2.hok.fresh hp
  have J : Inv X pins σ (upd H1 p (.lst ((srt (seenL ns)).map V.int))) { s2 with heap := s'.heap, gens := s'.gens, drawn := s'.drawn, toks := s'.toks } :=
    I2.call (ch := []) (Un.laid k hp hn) (I2.hok.laid k hp ⟨hlen, out.toList, c, vals_of_ints hi, hg⟩) (by rw [g]; exact I2.bare) (fun _ z => nomatch z)
  have e : s' = { s2 with heap := s'.heap, gens := s'.gens, drawn := s'.drawn, toks := s'.toks } := by
    cases s'
    cases s2
    cases o
    rfl
  rw [e]
  exact ⟨.ref p, _, J, rfl, q1 p hn⟩
def dSortSet (f : DE) : DE := fun ρ P PX => f ρ (fun o ρ1 => vw1 ρ1 o fun d => match d with
  | .tuple ds => intsK ds fun ns => ns.length < 63 ∧ P (.tmp (.lst ((srt (seenL ns)).map PyData.int))) ρ1
  | _ => False) PX
variable {G : V → Nat → Option Addr → Prop} {W : WX} {a : Expr} {fa : DE} {px q pos pos' : Pos}
theorem e_sortset (hc : X.calm = true) (hg : Gl X "sorted") (hm : X.mg "sorted" = none) (hg2 : Gl X "set") (hm2 : X.mg "set" = none) (ha : PEd X G W a fa)
    (na : starEach [a] X.env = (false, eval a X.env) :: starEach [] X.env := by rfl) (nb : starEach [.Call (.Name "set" px) [a] [] q] X.env = (false, eval (.Call (.Name "set" px) [a] [] q) X.env) :: starEach [] X.env := by rfl) :
    PEd X G W (.Call (.Name "sorted" pos') [.Call (.Name "set" px) [a] [] q] [] pos) (dSortSet fa) := PE.weak (pe_sortSetD hc hg hm hg2 hm2 ha na nb) fun σ H Q qq => by
  obtain ⟨F, I, ρ, P, PX, R, f1, k, x⟩ := qq
  refine ⟨F, I, ρ, _, PX, R, f1, fun o ρ1 v F1 I1 H1 f2 s1 R1 r1 => ?_, x⟩
  obtain ⟨d, e, f2⟩ := vw1_of f2
  have hd0 := vw_ok R1 r1 e
  split at f2
  · obtain ⟨ns, rfl, hl, f3⟩ := intsK_of f2
    obtain ⟨l, rfl, e1⟩ := tupInts R1.sub hd0
    refine ⟨l, ns, rfl, e1, hl, fun p hp => ?_⟩
    exact Kont.lst (P := fun o => P o ρ1) (F := F1) (I := I1) (H := H1) (σ := σ) (ρ := ρ1) (Q := Q) (fun o v' I' H' h s' R' r' => k o ρ1 v' F1 I' H' h (s1.trans s') R' (r'.older fun b e => s1.old e)) R1 f3 (DdAll.ints _) hp
  · exact f2.elim
end
end Dt

/-! # Dt: signed pairs -/
namespace Dt
open PySem PySem.Spec PyProof.Rows L2
def pairG (r : List Heap1) (h : Heap1) : Int → List Int → Bool
  | _, [] => true
  | last, n :: c => decide (last < n) && (decide (n < (r.length : Int)) && (liesIn (r.getD n.toNat []) h && pairG r h n c))
def isPairB (r : List Heap1) (p : Heap1 × Heap1) : Bool := pairG r p.1 (-1) p.2
theorem pairG_iff {r : List Heap1} {h : Heap1} : ∀ {c : List Int} {last : Int}, pairG r h last c = true ↔ (last :: c).Pairwise (· < ·) ∧ ∀ n ∈ c, n < (r.length : Int) ∧ liesIn (r.getD n.toNat []) h = true
  | [], last => by simp [pairG]
  | n :: c, last => by
    rw [pairG, Bool.and_eq_true, Bool.and_eq_true, Bool.and_eq_true, decide_eq_true_iff, decide_eq_true_iff, pairG_iff, List.forall_mem_cons]
    constructor
    · rintro ⟨h1, h2, h3, h4, h5⟩
      refine ⟨List.pairwise_cons.mpr ⟨fun x hx => ?_, h4⟩, ⟨h2, h3⟩, h5⟩
      rcases List.mem_cons.mp hx with rfl | hx
      · exact h1
      · have := (List.pairwise_cons.mp h4).1 x hx; omega
    · rintro ⟨h14, ⟨h2, h3⟩, h5⟩
      obtain ⟨h1, h4⟩ := List.pairwise_cons.mp h14
      exact ⟨h1 n (by simp), h2, h3, h4, h5⟩
structure PairP (r : List Heap1) (p : Heap1 × Heap1) : Prop where
  up : p.2.Pairwise (· < ·)
  at' : ∀ n ∈ p.2, 0 ≤ n ∧ n < (r.length : Int)
  lies : ∀ n ∈ p.2, liesIn (r.getD n.toNat []) p.1 = true
theorem isPair_iff {r : List Heap1} {p : Heap1 × Heap1} : isPairB r p = true ↔ PairP r p := by
  unfold isPairB
  rw [pairG_iff, List.pairwise_cons]
  constructor
  · rintro ⟨⟨h1, h2⟩, h3⟩
    exact ⟨h2, fun n hn => ⟨by have := h1 n hn; omega, (h3 n hn).1⟩, fun n hn => (h3 n hn).2⟩
  · intro h
    exact ⟨⟨fun n hn => by have := (h.at' n hn).1; omega, h.up⟩, fun n hn => ⟨(h.at' n hn).2, h.lies n hn⟩⟩
def flip1 (j : Int) (c : List Int) : List Int := if j ∈ c then c.filter (fun x => decide (x ≠ j)) else srt (c ++ [j])
def partL (r : List Heap1) (p : Heap1 × Heap1) : Option (Heap1 × Heap1) := (firstN r p.1).map fun j : Nat => (p.1, flip1 (j : Int) p.2)
def opD : Option (Heap1 × Heap1) → D
  | none => .none
  | some p => hpD p
theorem first_lies {r : List Heap1} {h : Heap1} {j : Nat} (e : firstN r h = some j) : j < r.length ∧ liesIn (r.getD j []) h = true := by
  obtain ⟨hj, h1, _⟩ := List.findIdx?_eq_some_iff_getElem.mp e
  refine ⟨hj, ?_⟩
  rw [List.getD_eq_getElem?_getD, List.getElem?_eq_getElem hj]
  exact h1
theorem lt_nodup {c : List Int} (h : c.Pairwise (· < ·)) : c.Nodup := h.imp fun h e => by omega
theorem lt_of_le {c : List Int} (h : c.Pairwise (· ≤ ·)) (d : c.Nodup) : c.Pairwise (· < ·) := lt_of_le_nodup c h d
theorem mem_srt {c : List Int} {x : Int} : x ∈ srt c ↔ x ∈ c := (srt_perm c).mem_iff
theorem flip1_mem {j x : Int} {c : List Int} : x ∈ flip1 j c ↔ (x = j ∧ j ∉ c) ∨ (x ≠ j ∧ x ∈ c) := by
  unfold flip1
  split
  · rename_i h
    rw [List.mem_filter, decide_eq_true_iff]
    constructor
    · rintro ⟨a, b⟩; exact .inr ⟨b, a⟩
    · rintro (⟨_, b⟩ | ⟨a, b⟩)
      · exact absurd h b
      · exact ⟨b, a⟩
  · rename_i h
    rw [mem_srt, List.mem_append, List.mem_singleton]
    constructor
    · rintro (a | a)
      · exact .inr ⟨fun e => h (e ▸ a), a⟩
      · exact .inl ⟨a, h⟩
    · rintro (⟨a, _⟩ | ⟨_, b⟩)
      · exact .inr a
      · exact .inl b
theorem flip1_up {j : Int} {c : List Int} (h : c.Pairwise (· < ·)) : (flip1 j c).Pairwise (· < ·) := by
  unfold flip1
  split
  · exact h.sublist List.filter_sublist
  · rename_i hj
    refine lt_of_le (srt_up _) ((srt_perm _).nodup_iff.mpr ?_)
    rw [List.nodup_append]
    exact ⟨lt_nodup h, by simp, fun a ha b hb => by rw [List.mem_singleton.mp hb]; intro e; subst e; exact hj ha⟩
theorem up_eq {a b : List Int} (ha : a.Pairwise (· < ·)) (hb : b.Pairwise (· < ·)) (h : ∀ x, x ∈ a ↔ x ∈ b) : a = b :=
  up_unique ((List.perm_ext_iff_of_nodup (lt_nodup ha) (lt_nodup hb)).mpr h) (ha.imp fun h => by omega) (hb.imp fun h => by omega)
theorem flip1_twice {j : Int} {c : List Int} (h : c.Pairwise (· < ·)) : flip1 j (flip1 j c) = c := by
  refine up_eq (flip1_up (flip1_up h)) h fun x => ?_
  rw [flip1_mem, flip1_mem, flip1_mem]
  by_cases hx : x = j
  · subst hx
    by_cases hc : x ∈ c <;> simp [hc]
  · simp [hx]
theorem flip1_len {j : Int} {c : List Int} (h : c.Pairwise (· < ·)) : (flip1 j c).length = c.length + 1 ∨ (flip1 j c).length + 1 = c.length := by
  unfold flip1
  split
  · rename_i hj
    refine .inr ?_
    have e : c.filter (fun x => decide (x ≠ j)) = c.erase j := by
      rw [(lt_nodup h).erase_eq_filter]
      refine List.filter_congr fun x _ => ?_
      simp [bne]
      rfl
    rw [e, List.length_erase_of_mem hj]
    have := List.length_pos_of_mem hj
    omega
  · refine .inl ?_
    rw [len_srt, List.length_append, List.length_singleton]
theorem partL_some {r : List Heap1} {p q : Heap1 × Heap1} (hp : PairP r p) (e : partL r p = some q) : PairP r q ∧ partL r q = some p ∧ q.1 = p.1 ∧ (q.2.length = p.2.length + 1 ∨ q.2.length + 1 = p.2.length) := by
  unfold partL at e
  cases hf : firstN r p.1 with
  | none => rw [hf] at e; cases e
  | some j =>
    rw [hf] at e
    cases e
    obtain ⟨hj, hl⟩ := first_lies hf
    refine ⟨⟨flip1_up hp.up, fun n hn => ?_, fun n hn => ?_⟩, ?_, rfl, flip1_len hp.up⟩
    · rcases flip1_mem.mp hn with ⟨rfl, _⟩ | ⟨_, hn⟩
      · omega
      · exact hp.at' n hn
    · rcases flip1_mem.mp hn with ⟨rfl, _⟩ | ⟨_, hn⟩
      · exact hl
      · exact hp.lies n hn
    · unfold partL
      show (firstN r p.1).map _ = _
      rw [hf]
      show some (p.1, flip1 (j : Int) (flip1 (j : Int) p.2)) = some p
      rw [flip1_twice hp.up]
theorem choices_up {m : Nat} {c : List Int} (h : c ∈ choicesL m) : c.Pairwise (· < ·) := by
  rw [choicesL_range] at h
  refine List.Pairwise.sublist (chosenL_sub h) ?_
  rw [List.pairwise_map]
  exact List.pairwise_lt_range.imp fun h => by omega
theorem lies_trans {a b c : Heap1} (h1 : liesIn a b = true) (h2 : liesIn b c = true) : liesIn a c = true :=
  liesIn_iff.mpr fun x => Nat.le_trans (liesIn_iff.mp h1 x) (liesIn_iff.mp h2 x)
theorem lies_join {r : List Heap1} {g : Heap1} (h : g ∈ r) : liesIn g (joinL r) = true := liesIn_iff.mpr fun x => by rw [joinL_count]; exact mxC_ge h x
/-- a choice with its joined heap and more -/
theorem pair_of_choice {r : List Heap1} {c : List Int} {h : Heap1} (hc : c ∈ choicesL r.length) (hl : liesIn (joinL (pickC r c)) h = true) : PairP r (h, c) :=
  ⟨choices_up hc, choicesL_mem hc, fun n hn => lies_trans (lies_join (List.mem_map.mpr ⟨n, hn, rfl⟩)) hl⟩
theorem srtR_lies (a : List Int) (b : Heap1) : liesIn b (srt a).reverse = liesIn b a := liesIn_perm (perm_srtR a)
theorem ix_any {n : Nat} {i : Int} {k : Nat → Prop} (h0 : -(n : Int) ≤ i) (h1 : i < n) (q : ∀ j, j < n → k j) : getK (ixN n i) k := by
  by_cases h : 0 ≤ i
  · exact ix_at h h1 (q _ (by omega))
  · refine getK_in (d := (i + n).toNat) ?_ (q _ (by omega))
    unfold ixN
    rw [if_neg h, if_pos (by omega)]
theorem seq_any {n : Nat} {i : Int} {k : Nat → Prop} (h0 : -(n : Int) ≤ i) (h1 : i < n) (q : ∀ j, j < n → k j) : getK (seqIndex? i n) k := by
  by_cases h : 0 ≤ i
  · exact seq_at h h1 (q _ (by omega))
  · refine getK_in (d := (i + n).toNat) ?_ (q _ (by omega))
    unfold seqIndex?
    have e1 : i < 0 := by omega
    have e2 : (0 ≤ i + (n : Int)) := by omega
    have e3 : i + (n : Int) < n := by omega
    simp [e1, e2, e3]
theorem at_any {xs : List Int} {i : Int} {k : D → Prop} (h0 : -(xs.length : Int) ≤ i) (h1 : i < xs.length) (q : ∀ x, k (.int x)) : getK (atI (xs.map PyData.int) i) k := by
  by_cases h : 0 ≤ i
  · exact pickI xs rfl h h1 fun a _ => q a
  · have hlt : (i + xs.length).toNat < xs.length := by omega
    refine getK_in (d := .int xs[(i + xs.length).toNat]) ?_ (q _)
    have e : ixN xs.length i = some (i + xs.length).toNat := by unfold ixN; rw [if_neg h, if_pos h0]
    unfold atI
    rw [List.length_map, e, Option.bind_some, List.getElem?_map, List.getElem?_eq_getElem hlt]
    rfl
end Dt

/-! # Dt: comprehensions whose element may raise -/
namespace Dt
open PySem PySem.Spec PyProof.Rows L2
abbrev cxB (X : Cx) (s : Shared) (H : Hp) (scope : Scope) (ce : Env) (fp : List Addr) (xe : Value → Shared → Prop) : Cx := { X.blk s H scope ce fp with xe := xe }
theorem invXe {Y : Cx} {e : Value → Shared → Prop} {pins : List (Addr × Obj)} {σ : L2.St} {H : Hp} {s : Shared} (I : L2.Inv { Y with xe := e } pins σ H s) : L2.Inv Y pins σ H s :=
  ⟨⟨I.ok.mod, I.ok.kind, I.ok.glob, I.ok.blt, I.ok.above, I.ok.inj, I.ok.has, I.ok.cab, I.ok.hd, I.ok.frames, I.ok.stk, I.ok.exf, I.ok.bs, I.ok.bsz, I.ok.noex, I.ok.exfs, I.ok.funs, I.ok.frf⟩, I.os, I.bare, I.base, I.loc, I.cell, I.free, I.freeC, I.pin, I.hok, I.len⟩
theorem invXe' {Y : Cx} {e : Value → Shared → Prop} {pins : List (Addr × Obj)} {σ : L2.St} {H : Hp} {s : Shared} (I : L2.Inv Y pins σ H s) : L2.Inv { Y with xe := e } pins σ H s :=
  ⟨⟨I.ok.mod, I.ok.kind, I.ok.glob, I.ok.blt, I.ok.above, I.ok.inj, I.ok.has, I.ok.cab, I.ok.hd, I.ok.frames, I.ok.stk, I.ok.exf, I.ok.bs, I.ok.bsz, I.ok.noex, I.ok.exfs, I.ok.funs, I.ok.frf⟩, I.os, I.bare, I.base, I.loc, I.cell, I.free, I.freeC, I.pin, I.hok, I.len⟩
/-- an exception noted elsewhere is noted here -/
theorem look_fl {M : Model} {A : Around} {E : Value → Shared → Prop} {s : Shared} {Z : Obj → Prop} {base : Heap} {env : Env} {outer : List Env} {L e : Addr} {fl : Value} {Q : Unit → Shared → Prop} (hZ : HandSPX.Steady Z)
    (hfr : A.frames = some (env :: outer)) (hf : env.frame = some L) (k1 : base.StaysIn s.heap) (k2 : base.get? e = none) (k3 : s.heap.FunFrames base (env :: outer)) (k4 : HandSPX.TracedZ s.heap base e Z fl) (hne : (fl == rawInt L) = false)
    (hQ : ∀ h', HandSPX.HeldZ base (env :: outer) e Z L h' → s.heap.UpToSlots h' → Q () { s with heap := h' }) : wpAny M A (noteFrame (.ref e) env) Q E s := by
  obtain ⟨oe, vs, T, oT, ts, a1, a2, a3, a4, a5, a6, a7, a8, a9⟩ := k4
  unfold noteFrame
  simp only [hf]
  refine wpAny_bind (wpAny_field a1 a3 a4 ?_)
  rw [if_pos (by simp : (Value.ref T != Value.none) = true)]
  refine wpAny_bind (wpAny_field a7 a8 a9 ?_)
  rw [if_neg (by rw [hne]; decide)]
  refine wpAny_bind (wpAny_setField a7 a8 (Array.getElem?_eq_some_iff.mp a9).1 ?_)
  generalize hg : s.heap.update T (Obj.mapFields (·.setIfInBounds 3 Value.none)) = g
  have oth : ∀ b, b ≠ T → g.get? b = s.heap.get? b := fun b hb => by rw [← hg]; exact Heap.get?_update_other _ _ (Ne.symm hb)
  have nr : ∀ b o, s.heap.get? b = some o → (∀ us, o.data ≠ .fields us) → b ≠ T := fun b o hb hnf q => by
    rw [q, a7] at hb
    cases hb
    exact hnf ts a8
  have b1 : g.FunFrames base (env :: outer) := k3.of_keeps fun b o hb hnf => ⟨o, (oth b (nr b o hb hnf)).trans hb, rfl⟩
  have b2 : base.StaysIn g := fun b o hb => (oth b fun q => by rw [q, a5] at hb; cases hb).trans (k1 b o hb)
  refine HandSPX.wpAny_entryZ (s := { s with heap := g }) hZ hfr b1 hf ((oth e (Ne.symm a6)).trans a1) b2 k2 a3 (Array.getElem?_eq_some_iff.mp a4).1 a2 fun h' hN => ?_
  obtain ⟨x1, x2, x3, x4⟩ := hN
  exact hQ h' ⟨x1, k2, x2, x3⟩ fun b o hb hnf => x4 b o ((oth b (nr b o hb hnf)).trans hb) hnf
theorem sky_note {M : Model} {A : Around} {E : Value → Shared → Prop} {s : Shared} {Z : Obj → Prop} {B : Heap} {env : Env} {outer : List Env} {L C a : Addr} {Q : Unit → Shared → Prop} (hZ : HandSPX.Steady Z)
    (hfr : A.frames = some (env :: outer)) (hf : env.frame = some L) (hne : C ≠ L) (x : L2.Sky B (env :: outer) a Z C s.heap)
    (hQ : ∀ h', HandSPX.HeldZ B (env :: outer) a Z L h' → s.heap.UpToSlots h' → Q () { s with heap := h' }) : wpAny M A (noteFrame (.ref a) env) Q E s := by
  rcases x with ⟨hB, hn, hl, oe, vs, he, hz, hd, h1⟩ | fl | ⟨f1, f2, f3, f4⟩
  · exact HandSPX.look_newZ hZ hfr hl hf he hB hn hd h1 hz hQ
  · exact HandSPX.looks_onZ hZ hfr hf fl hQ
  · refine look_fl hZ hfr hf f1 f2 f3 f4 ?_ hQ
    cases q : (rawInt C == rawInt L) with
    | false => rfl
    | true =>
      have z : (C : Int) = (L : Int) := by simpa [rawInt] using q
      exact absurd (Int.ofNat.inj z) hne
theorem heldZ_part {B h1 h2 : Heap} {l : List Env} {a L C : Addr} {Z : Obj → Prop} {m m2 : Str → Option Value} (x : HandSPX.HeldZ B l a Z L h1) (n1 : h1.Ns C m) (n2 : h2.Ns C m2) (sb : Heap.SameBut C h1 h2) :
    HandSPX.HeldZ (PySem.W.hideAll B [C]) l a Z L h2 := by
  obtain ⟨f1, f2, f3, oe, vs, T, oT, ts, a1, a2, a3, a4, a5, a6, a7, a8, a9⟩ := x
  obtain ⟨oC, es, ep, c1, c2, _⟩ := n1
  have noC : ∀ b o us, h1.get? b = some o → o.data = .fields us → b ≠ C := fun b o us hb hd q => by
    rw [q, c1] at hb
    cases hb
    rw [c2] at hd
    cases hd
  have hid : ∀ b, B.get? b = none → (PySem.W.hideAll B [C]).get? b = none := fun b hb => by
    cases q : (PySem.W.hideAll B [C]).get? b with
    | none => rfl
    | some o => rw [PySem.W.of_hideAll _ q] at hb; cases hb
  have neC : ∀ b o, (PySem.W.hideAll B [C]).get? b = some o → b ≠ C := fun b o e q => by
    rw [q, PySem.W.hideAll_none [C] (by simp)] at e
    cases e
  refine ⟨fun b o hb => (sb.2 b (neC b o hb)).trans (f1 b o (PySem.W.of_hideAll _ hb)), hid a f2, ?_, oe, vs, T, oT, ts, (sb.2 a (noC a oe vs a1 a3)).trans a1, a2, a3, a4, hid T a5, a6, (sb.2 T (noC T oT ts a7 a8)).trans a7, a8, a9⟩
  have g := Heap.FunFrames.sameBut sb n2 f3
  exact L2.funFrames_none g fun b hb => hid b (g.mem hb).1
/-- out of the comprehension's block, into the def -/
theorem out_of_block {X : Cx} {W : L2.WX} {W' : L2.WX} {pins : List (Addr × Obj)} {σ : L2.St} {H3 : Hp} {s3 s' : Shared} {scope : Scope} {ce : Env} {fp : List Addr} {u : Value}
    (hs : X.stack = X.env :: X.outer) (hf : X.env.frame = some X.env.locals) (tk : L2.Takes X W) (I3 : L2.Inv X pins σ H3 s3) (hC : ce.locals = s3.heap.objs.size) (hcf : ce.frame = X.env.frame)
    (hfp : ∀ b ∈ fp, L2.FpOk X pins H3 b) (x : L2.XE (X.blk s3 H3 scope ce fp) W' u s') (hW : ∀ c d σ' H', W' c d σ' H' → W c d σ H') :
    notedBy (model X.prog X.w) X.A ce (CompFails (model X.prog X.w) X.A X.xe ce) u s' := by
  obtain ⟨a, B, sI, pins', σ', H', cls, d, rfl, I', nb, up, sky, na, os, ag, w⟩ := x
  have sky : L2.Sky B X.stack a (L2.Zc cls d) ce.locals s'.heap := sky
  have nb : ∀ b o, sI.heap.get? b = some o → b ∉ L2.frs X.stack → B.get? b = some o := nb
  have nC : H' ce.locals = none := I'.free
  have hfr : X.A.frames = some (X.env :: X.outer) := by rw [I3.ok.frames, hs]
  have fC := I3.fpOk (b := ce.locals) (H' := H') (Nat.le_of_eq hC.symm) nC
  obtain ⟨_, q1, q2, q3, q4, q5⟩ := fC
  show wpAny _ _ (noteFrame (.ref a) ce) _ _ s'
  rw [noteFrame_env _ hcf]
  rw [hs] at sky
  refine sky_note L2.Zc.steady hfr hf q1 sky fun h1 held up1 => ?_
  obtain ⟨m, hn, _⟩ := I'.loc
  have hn : sI.heap.Ns ce.locals m := hn
  have hn1 : h1.Ns ce.locals m := Heap.UpToSlots.ns up1 (Heap.UpToSlots.ns up hn)
  refine ⟨m, hn1, fun h2 m2 hn2 sb => ?_⟩
  have held2 := heldZ_part held hn1 hn2 sb
  have held2' := held2
  obtain ⟨_, _, _, oe, vs, T, _, _, a1, _, a3, a4, _⟩ := held2'
  unfold PySem.passOn
  refine wpAny_bind (wpAny_field (s := { s' with heap := h2 }) a1 a3 a4 ?_)
  rw [if_neg (by simp : ¬ (Value.ref T == Value.none) = true), hcf, hf]
  refine wpAny_bind (HandSPX.setFlight_onZ (s := { s' with heap := h2 }) held2 fun h3 held3 up3 => ?_)
  refine wpAny_throw ?_
  have I7 : L2.Inv X pins σ H' sI := I3.call' (ch := fp) I'.os I'.base I'.hok I'.bare fun b hb => ⟨(hfp b hb).2.2.2.1, (hfp b hb).2.1, (hfp b hb).2.2.2.2.1, (hfp b hb).2.2.2.2.2⟩
  have neC : ∀ b o, (PySem.W.hideAll sI.heap [ce.locals]).get? b = some o → b ≠ ce.locals := fun b o e q => by
    rw [q, PySem.W.hideAll_none [ce.locals] (by simp)] at e
    cases e
  have I8 : L2.Inv X pins σ H' { sI with heap := PySem.W.hideAll sI.heap [ce.locals], toks := sI.toks } := I7.turned (fun b o hb e => PySem.W.hideAll_get _ e (by simpa using hb)) nC q1 q3 q4 q5
  refine tk _ _ ⟨a, PySem.W.hideAll B [ce.locals], _, pins, σ, H', cls, d, rfl, I8, fun b o e hb => ?_, fun b o e hnf => ?_, ?_, na, os, ag, hW _ _ _ _ w⟩
  · exact PySem.W.hideAll_get _ (nb b o (PySem.W.of_hideAll _ e) hb) (by simpa using neC b o e)
  · have hb := neC b o e
    obtain ⟨l1, e1⟩ := up b o (PySem.W.of_hideAll _ e) hnf
    obtain ⟨l2, e2⟩ := up1 b _ e1 hnf
    obtain ⟨l3, e3⟩ := up3 b _ ((sb.2 b hb).trans e2) hnf
    exact ⟨l3, e3⟩
  · rw [hs]
    exact .inr (.inr held3)
section
variable {X : Cx} {W : L2.WX} {elt tg iter : Expr} {ifs : List Expr} {scope : Scope} {own : List (Str × Nat)} {pos : Pos} {wi : TI} {g : TG} {tt : TT} {te : L2.WX → TE}
/-- what the block's parts show, whatever is wished of an exception -/
structure BlkX (X : Cx) (tg : Expr) (ifs : List Expr) (elt : Expr) (scope : Scope) (g : TG) (tt : TT) (te : L2.WX → TE) : Prop where
  G : ∀ (s : Shared) (H : Hp) (C : Addr) (cl : List (Str × Addr)) (fp : List Addr) (xe : Value → Shared → Prop), PG (cxB X s H scope (compEnvC scope cl C X.env) fp xe) tg g
  T : ∀ (s : Shared) (H : Hp) (C : Addr) (cl : List (Str × Addr)) (fp : List Addr) (xe : Value → Shared → Prop), PTs (cxB X s H scope (compEnvC scope cl C X.env) fp xe) ifs tt
  E : ∀ (s : Shared) (H : Hp) (C : Addr) (cl : List (Str × Addr)) (fp : List Addr) (xe : Value → Shared → Prop) (W' : L2.WX), L2.Takes (cxB X s H scope (compEnvC scope cl C X.env) fp xe) W' → PE (cxB X s H scope (compEnvC scope cl C X.env) fp xe) elt (te W')
theorem compX_core {pins : List (Addr × Obj)} {s : Shared} {σ : L2.St} {H : Hp} {Q : VK} {pos' : Pos} {use : Option (Value → Sem Unit)} {Qf : Value → Shared → Prop}
    (hst : X.stack = X.env :: X.outer) (hfr : X.env.frame = some X.env.locals) (tk : L2.Takes X W) (calm : X.calm = true) (nd : X.N.Nodup) (I0 : L2.Inv X pins σ H s) (hi : PI X tg iter wi) (ok : BlkOk X.N X.env.scope scope own)
    (hb : BlkX X tg ifs elt scope g tt te) (hfold : ∀ x, foldedSetIterable iter X.env x = pure x)
    (h : tLc wi g tt (te fun c d _ H' => W c d σ H') (own.map (·.2)) σ H Q)
    (fin : ∀ D C s' m H' ce, L2.Inv X pins σ H' s' → Q (.ref D) H' → s'.heap.Ns C m → L2.FpOk X pins H' C → ce.locals = C → compEnds (model X.prog X.w) X.A X.xe use Qf (.ref D) ce (.ok .next) s') :
    wpAny (model X.prog X.w) X.A (comprehension (.ListComp elt [⟨tg, iter, ifs, 0⟩] scope pos) scope X.env pos' (newList []) false (eval iter X.env) use) Qf X.xe s := by
  have hfree : ∀ y ∈ scope.names, y.2 = .free → ∃ c, X.env.cells.lookup y.1 = some c := fun y hy e => (ok.free y hy e).elim (fun k => I0.ok.has _ (.inl k)) fun k => I0.ok.has _ (.inr k)
  refine comprehension_at (use := use) rfl hfold (closure_ok hfree) ok.kind (fun y hy e => by rw [ok.uniq y hy, e]) (thn (hi.run pins s σ H _ I0 h) fun xv sa ha => thn ha fun itv sb hb2 => ?_)
  obtain ⟨it, fp, tn, J, Hb, rfl, Ib, T, stb, fb, q⟩ := hb2
  refine wpAny_newObj_type (newEnv_comp ?_) (by show 0 ≤ sizeLine; decide)
  generalize hD : sb.heap.objs.size = D
  have hDn : Hb D = none := Ib.hok.fresh (Nat.le_of_eq hD)
  obtain ⟨Wm, ⟨m0, w0⟩, turn⟩ := q D hDn
  generalize hsc : ({ sb with heap := sb.heap.push { cls := .type "list", data := .seq ([] : List Value).toArray } } : Shared) = sc
  have hc : sc.heap = sb.heap.push { cls := .type "list", data := .seq ([] : List Value).toArray } := by rw [← hsc]
  have Ic : L2.Inv X pins σ (upd Hb D (.lst [])) sc := by
    rw [← hsc]
    refine Ib.laid (t' := sb.toks) (fun b o e => Heap.get?_push_of_some _ e) (Nat.le_of_eq hD) ⟨Nat.zero_le _, [], 0, .nil, ?_⟩
    rw [← hD]; exact Heap.get?_push_size _ rfl
  have lt : ∀ b ∈ fp, b < sb.heap.objs.size := fun b hb => (T.obj _ _ stb b hb).elim fun o e => Heap.lt_size e.1
  have fc : ∀ b ∈ fp, L2.FpOk X pins (upd Hb D (.lst [])) b ∧ b < sc.heap.objs.size := fun b hb => by
    have hlt := lt b hb
    refine ⟨⟨?_, (fb b hb).2⟩, by rw [hc, Heap.size_push]; exact Nat.lt_succ_of_lt hlt⟩
    rw [upd_ne (by rw [← hD]; exact Nat.ne_of_lt hlt)]; exact (fb b hb).1
  have stc : tn 0 sc.heap := T.keep _ _ _ stb fun b _ o e => by rw [hc]; exact Heap.get?_push_of_some _ e
  have Id := block_start Ic ok nd fc
  obtain ⟨xe, hxe⟩ : ∃ xe : Value → Shared → Prop, xe = fun u s' => L2.XE (X.blk sc (upd Hb D (.lst [])) scope (compEnvC scope (cellsFrom (sc.heap.objs.size + 1) scope.names (cloFrom X.env.cells scope.names [])) sc.heap.objs.size X.env) fp) (fun c d _ H' => W c d σ H') u s' := ⟨_, rfl⟩
  have Id := invXe' (e := xe) Id
  have pg := hb.G sc (upd Hb D (.lst [])) sc.heap.objs.size (cellsFrom (sc.heap.objs.size + 1) scope.names (cloFrom X.env.cells scope.names [])) fp xe
  have pt := hb.T sc (upd Hb D (.lst [])) sc.heap.objs.size (cellsFrom (sc.heap.objs.size + 1) scope.names (cloFrom X.env.cells scope.names [])) fp xe
  have pe := hb.E sc (upd Hb D (.lst [])) sc.heap.objs.size (cellsFrom (sc.heap.objs.size + 1) scope.names (cloFrom X.env.cells scope.names [])) fp xe (fun c d _ H' => W c d σ H') (fun u s' ⟨a, B, sI, pins', σ', H', cls, d, e, I', r⟩ => by rw [hxe]; exact ⟨a, B, sI, pins', σ', H', cls, d, e, invXe I', r⟩)
  show codeAny _ _ (.compStart (.ListComp elt [⟨tg, iter, ifs, 0⟩] scope pos) 0 (.ref it) (.ref D) (compEnvC scope (cellsFrom (sc.heap.objs.size + 1) scope.names (cloFrom X.env.cells scope.names [])) sc.heap.objs.size X.env)) (compEnds (model X.prog X.w) X.A X.xe use Qf (.ref D) (compEnvC scope (cellsFrom (sc.heap.objs.size + 1) scope.names (cloFrom X.env.cells scope.names [])) sc.heap.objs.size X.env)) { sc with heap := pushCells (sc.heap.push { cls := .type "dict", data := .dict #[] }) scope.names }
  have nfp : ∀ b ∈ fp, (upd Hb D (.lst [])) b = none := fun b hb => (fc b hb).1.1
  generalize hce : compEnvC scope (cellsFrom (sc.heap.objs.size + 1) scope.names (cloFrom X.env.cells scope.names [])) sc.heap.objs.size X.env = ce at Id pg pt pe hxe ⊢
  have cL : ce.locals = sc.heap.objs.size := by subst hce; rfl
  have cF : ce.frame = X.env.frame := by subst hce; rfl
  generalize hHc : upd Hb D (.lst []) = Hc at Ic Id pg pt pe hxe w0 nfp fc
  generalize hsd : ({ sc with heap := pushCells (sc.heap.push { cls := .type "dict", data := .dict #[] }) scope.names } : Shared) = sd at Id ⊢
  have std : tn 0 sd.heap := T.keep _ _ _ stc fun b _ o e => by rw [← hsd]; exact pushCells_keeps _ _ _ _ (Heap.get?_push_of_some _ e)
  -- an exception on its way out
  have out : ∀ u s', xe u s' → notedBy (model X.prog X.w) X.A ce (fun e s' => compEnds (model X.prog X.w) X.A X.xe use Qf (.ref D) ce (.error e) s') u s' := fun u s' hx => by
    rw [hxe] at hx
    have := out_of_block hst hfr tk Ic cL cF (fun b hb => (fc b hb).1) hx (fun _ _ _ _ z => z)
    cases use <;> exact this
  have lift : ∀ {α : Type} {t : Sem α} {Q1 Q2 : α → Shared → Prop} {s : Shared}, wpAny (model X.prog X.w) X.A t Q1 xe s → (∀ a s, Q1 a s → Q2 a s) →
      wpAny (model X.prog X.w) X.A t Q2 (notedBy (model X.prog X.w) X.A ce fun e s' => compEnds (model X.prog X.w) X.A X.xe use Qf (.ref D) ce (.error e) s') s := fun h1 h2 => wpAny_mono h1 h2 out
  have still : ∀ {σ' : L2.St} {H' : Hp} {s' : Shared}, L2.Inv (cxB X sc Hc scope ce fp xe) [] σ' H' s' → (∀ b ∈ fp, H' b = none) → ∀ b ∈ fp, L2.FpOk (cxB X sc Hc scope ce fp xe) [] H' b := fun I' hn b hb =>
    ⟨hn b hb, (I'.ok.exf b hb).1, I'.ok.exfs b hb, .inl hb, fun x c e => (I'.ok.exf b hb).2 x c e, fun p hp => absurd (show p ∈ ([] : List (Addr × Obj)) ++ [] from hp) (by simp)⟩
  have loop : codeAny (model X.prog X.w) X.A (.compLoop (.ListComp elt [⟨tg, iter, ifs, 0⟩] scope pos) 0 (.ref it) (.ref D) ce) (compEnds (model X.prog X.w) X.A X.xe use Qf (.ref D) ce) sd := by
    refine compLoop_any (fun n s' => ∃ i H', L2.Inv (cxB X sc Hc scope ce fp xe) [] (wipe σ (own.map (·.2))) H' s' ∧ tn i s'.heap ∧ (∀ b ∈ fp, H' b = none) ∧ Wm i n H') ?_ m0 ⟨0, Hc, Id, std, nfp, w0⟩
    rintro n se ⟨i, He, Ie, ste, ne, we⟩
    rcases turn i n He we with ⟨stop, qq⟩ | ⟨go, Nx, hNx, step⟩
    · refine thnF (T.done (cxB X sc Hc scope ce fp xe) rfl rfl rfl calm i [] se _ He (fun _ _ => False) Ie (still Ie ne) ste stop) fun r sf ⟨hr, If⟩ => ?_
      subst hr
      have Ig : L2.Inv X pins σ He sf := Ic.call' (ch := fp) If.os If.base If.hok If.bare fun b hb => ⟨(fc b hb).1.2.2.2.1, (fc b hb).1.2.1, (fc b hb).1.2.2.2.2.1, (fc b hb).1.2.2.2.2.2⟩
      have nC : He ce.locals = none := If.free
      rw [cL] at nC
      obtain ⟨m, hn, _⟩ := If.loc
      have hn : sf.heap.Ns ce.locals m := hn
      rw [cL] at hn
      exact fin D sc.heap.objs.size sf m He ce Ig qq hn (Ic.fpOk (Nat.le_refl _) nC) cL
    · refine thnF (T.item (cxB X sc Hc scope ce fp xe) rfl rfl rfl calm i [] se _ He (fun _ _ => False) Ie (still Ie ne) ste go) fun r sf ⟨u, hr, h6⟩ => ?_
      subst hr
      refine thnF h6 fun _ sg ⟨x, Hg, Ig, rg, yg, stg, ng⟩ => ?_
      have Ig' := Ig.pinned (still Ig ng) (T.obj _ _ stg)
      refine lift (pg.run _ sg _ Hg x u _ Ig' rg (step x Hg yg)) fun _ sh ⟨σh, Hh, Ih, wh, qh⟩ => ?_
      refine lift (pt.run _ sh σh Hh _ Ih qh) fun b sj ⟨Hj, Ij, qj⟩ => ?_
      have turnEnd : ∀ {s' : Shared} {H' : Hp}, L2.Inv (cxB X sc Hc scope ce fp xe) ([] ++ pinsAt fp sg.heap) σh H' s' → Nx H' → ∃ m, m < n ∧ ∃ i H', L2.Inv (cxB X sc Hc scope ce fp xe) [] (wipe σ (own.map (·.2))) H' s' ∧ tn i s'.heap ∧ (∀ b ∈ fp, H' b = none) ∧ Wm i m H' := fun {s' H'} I' nx => by
        obtain ⟨m', hm, w'⟩ := hNx H' nx
        have pinned : ∀ b ∈ fp, ∀ o, sg.heap.get? b = some o → s'.heap.get? b = some o ∧ H' b = none := fun b hb o e =>
          have z := I'.pin (b, o) (List.mem_append_right _ (List.mem_append_right _ (mem_pinsAt hb e)))
          ⟨z.1, z.2.1⟩
        refine ⟨m', hm, i + 1, H', (I'.unpinned (pins := [])).weak (by rw [← wh, wipe_length]) (fun j v e => ?_), T.keep _ _ _ stg fun b hb o e => (pinned b hb o e).1, fun b hb => ?_, w'⟩
        · rw [← wh] at e; exact (wipe_some e).1
        · obtain ⟨o, e, _⟩ := T.obj _ _ stg b hb
          exact (pinned b hb o e).2
      cases b with
      | false =>
        simp only [Bool.false_eq_true, if_false] at qj ⊢
        exact turnEnd Ij qj
      | true =>
        simp only [if_true] at qj ⊢
        refine lift (pe.run _ sj σh Hj _ Ij qj) fun z sk ⟨yv, Hk, Ik, rk, acc, hDk, hzk, nx⟩ => ?_
        exact app_ok (X := cxB X sc Hc scope ce fp xe) Ik hDk hzk rk fun sl Il => turnEnd Il nx
  exact codeAny_compStart_list loop (T.self X.A 0 _ _ _ std loop)
/-- [elt for ..] whose element may raise -/
theorem pe_lcX (hst : X.stack = X.env :: X.outer) (hfr : X.env.frame = some X.env.locals) (tk : L2.Takes X W) (calm : X.calm = true) (nd : X.N.Nodup) (hi : PI X tg iter wi) (ok : BlkOk X.N X.env.scope scope own)
    (hb : BlkX X tg ifs elt scope g tt te) (hfold : ∀ x, foldedSetIterable iter X.env x = pure x := by intro _; rfl) :
    PE X (.ListComp elt [⟨tg, iter, ifs, 0⟩] scope pos) (fun σ H Q => tLc wi g tt (te fun c d _ H' => W c d σ H') (own.map (·.2)) σ H Q) := by
  refine ⟨fun pins s σ H Q I h => ?_⟩
  rw [eval_ListComp]
  refine compX_core hst hfr tk calm nd I hi ok hb hfold h fun D C s' m H' ce J q hn f hl => ?_
  subst hl
  refine ⟨m, hn, fun h2 sb => ?_⟩
  obtain ⟨f0, f1, f2, f3, f4, f5⟩ := f
  exact ⟨.ref D, H', J.turned (t' := s'.toks) (fun b o hb e => (sb.2 b hb).trans e) f0 f1 f3 f4 f5, rfl, q⟩
end
section
variable {X : Cx} {W : L2.WX} {elt tg iter : Expr} {ifs : List Expr} {scope : Scope} {own : List (Str × Nat)} {pos : Pos} {wi : TI} {g : TG} {tt : TT} {te : L2.WX → TE}
/-- name = [elt for ..] on one line, the element may raise -/
theorem ps_setLcX {i : Nat} {y : Str} {py spos : Pos} (hst : X.stack = X.env :: X.outer) (hfr : X.env.frame = some X.env.locals) (tk : L2.Takes X W) (calm : X.calm = true) (nd : X.N.Nodup) (hy : X.N[i]? = some y) (hyl : X.env.scope.names.lookup y = some .local)
    (hsw : swapsWith (.ListComp elt [⟨tg, iter, ifs, 0⟩] scope pos) (some (.Name y py)) spos.line X.env = pure true) (hi : PI X tg iter wi) (ok : BlkOk X.N X.env.scope scope own)
    (hb : BlkX X tg ifs elt scope g tt te) (hfold : ∀ x, foldedSetIterable iter X.env x = pure x := by intro _; rfl) :
    PS X (.Assign [.Name y py] (.ListComp elt [⟨tg, iter, ifs, 0⟩] scope pos) spos) (fun D σ H => tLc wi g tt (te fun c d _ H' => W c d σ H') (own.map (·.2)) σ H fun x H1 => L2.gName i x σ H1 D.nx) := by
  refine ⟨fun pins s σ H D I h => ?_⟩
  rw [exec_Assign_Name_used _ _ _ _ hsw]
  refine wpAny_bind (wpAny_standAt (wpAny_bind ?_))
  show wpAny _ X.A (do let _ ← comprehension (.ListComp elt [⟨tg, iter, ifs, 0⟩] scope pos) scope X.env (firstIterPos [⟨tg, iter, ifs, 0⟩] pos) (newList []) false (eval iter X.env) (some (assign (.Name y py) X.env))) _ _ s
  refine wpAny_bind (thn (compX_core (Qf := fun _ s' => SP X pins D .next s') hst hfr tk calm nd I hi ok hb hfold h fun L C s' m H' ce J q hn f hl => ?_) fun _ s' hq => wpAny_pure (wpAny_pure hq))
  subst hl
  show wpAny _ _ (assign (.Name y py) X.env (.ref L)) _ _ _
  refine wpAny_assign_Name (store_ok2 (v := V.ref L) J nd hy (.inl hyl) rfl (fun s2 J2 ⟨a, sb, ha⟩ => ?_) (.inr hyl))
  obtain ⟨f0, f1, f2, f3, f4, f5⟩ := f
  have ne : ce.locals ≠ a := ha.elim (fun z => by rw [z]; exact f1) fun z e => f4 y a z e.symm
  exact ⟨m, hn.sameBut sb ne, fun h3 sb3 => ⟨_, H', J2.turned (t' := s2.toks) (fun b o hb e => (sb3.2 b hb).trans e) f0 f1 f3 f4 f5, q⟩⟩
end
/-! ### by data -/
def compGoX0 (g : DG) (t : DT) (e : DE) (vs : List Nat) (P : List D → Rho → Prop) (PX : Exn → Rho → Prop) : List D → List D → Rho → Prop
  | [], acc, ρ => P acc ρ
  | d :: ds, acc, ρ => g d ρ fun ρ1 => t ρ1 (fun b ρ2 => (b = true → e ρ2 (fun o ρ3 => onlyd o fun d' => compGoX0 g t e vs P PX ds (acc ++ [d']) (wipeR ρ3 vs)) (fun x ρ3 => PX x (wipeR ρ3 vs))) ∧ (b = false → compGoX0 g t e vs P PX ds acc (wipeR ρ2 vs))) noX
@[irreducible] def compGoX (g : DG) (t : DT) (e : DE) (vs : List Nat) (P : List D → Rho → Prop) (PX : Exn → Rho → Prop) (ds acc : List D) (ρ : Rho) : Prop := compGoX0 g t e vs P PX ds acc ρ
theorem compGoX_nilE (g : DG) (t : DT) (e : DE) (vs : List Nat) (P : List D → Rho → Prop) (PX : Exn → Rho → Prop) (acc : List D) (ρ : Rho) : compGoX g t e vs P PX [] acc ρ = P acc ρ := by unfold compGoX; rfl
theorem compGoX_consE (g : DG) (t : DT) (e : DE) (vs : List Nat) (P : List D → Rho → Prop) (PX : Exn → Rho → Prop) (d : D) (ds acc : List D) (ρ : Rho) : compGoX g t e vs P PX (d :: ds) acc ρ = g d ρ fun ρ1 => t ρ1 (fun b ρ2 => (b = true → e ρ2 (fun o ρ3 => onlyd o fun d' => compGoX g t e vs P PX ds (acc ++ [d']) (wipeR ρ3 vs)) (fun x ρ3 => PX x (wipeR ρ3 vs))) ∧ (b = false → compGoX g t e vs P PX ds acc (wipeR ρ2 vs))) noX := by
  have q : ∀ acc ρ, compGoX g t e vs P PX ds acc ρ = compGoX0 g t e vs P PX ds acc ρ := by intro acc ρ; unfold compGoX; rfl
  simp only [q]; unfold compGoX; rfl
def dCompX (i : DI) (g : DG) (t : DT) (e : DE) (vs : List Nat) : DE := fun ρ P PX => i ρ (fun ds ρ1 => compGoX g t e vs (fun acc ρ2 => P (.tmp (.lst acc)) (backR ρ1 ρ2 vs)) (fun x ρ2 => PX x (backR ρ1 ρ2 vs)) ds [] (wipeR ρ1 vs)) PX
theorem compGoX_pre {α : Type} {g : DG} {t : DT} {e : DE} {vs : List Nat} {P : List D → Rho → Prop} {PX : Exn → Rho → Prop} (enc : α → D) (Inv : List α → List D → Rho → Prop) {xs : List α}
    (step : ∀ p x s acc ρ (K : List D → Rho → Prop), xs = p ++ x :: s → (∀ acc' ρ', Inv (p ++ [x]) acc' ρ' → K acc' ρ') → Inv p acc ρ → g (enc x) ρ fun ρ1 => t ρ1 (fun b ρ2 => (b = true → e ρ2 (fun o ρ3 => onlyd o fun d' => K (acc ++ [d']) (wipeR ρ3 vs)) (fun x ρ3 => PX x (wipeR ρ3 vs))) ∧ (b = false → K acc (wipeR ρ2 vs))) noX)
    (done : ∀ acc ρ, Inv xs acc ρ → P acc ρ) {acc : List D} {ρ : Rho} (h : Inv [] acc ρ) : compGoX g t e vs P PX (xs.map enc) acc ρ := by
  have go : ∀ (r p : List α) (acc : List D) (ρ : Rho), xs = p ++ r → Inv p acc ρ → compGoX g t e vs P PX (r.map enc) acc ρ := by
    intro r
    induction r with
    | nil =>
      intro p acc ρ e h
      rw [List.map_nil, compGoX_nilE]
      exact done acc ρ (by rw [e, List.append_nil]; exact h)
    | cons x r ih =>
      intro p acc ρ e h
      rw [List.map_cons, compGoX_consE]
      exact step p x r acc ρ _ e (fun acc' ρ' h' => ih (p ++ [x]) acc' ρ' (by rw [e]; simp) h') h
  exact go xs [] acc ρ rfl h
section
variable {p : Pm} {W : L2.WX}
theorem w_compX {strong : Bool} {vs : List Nat} {i : DI} {g : DG} {t : DT} {e : DE} (σ : L2.St) (H : Hp) (Q : VK) (q : tE p W (dCompX i g t e vs) σ H Q) :
    tLc (tI p W strong i) (tG p strong vs g) (tT p W0 t) (tE p (fun c d _ H' => W c d σ H') e) vs σ H Q := by
  obtain ⟨F, I, ρ, P, PX, R, f, k, x⟩ := q
  refine ⟨F, I, ρ, _, PX, R, f, fun ds ρ1 F1 I1 H1 J h s1 R1 w D nD => ?_, x⟩
  obtain ⟨Gg, Y, hw, hG, hY⟩ := w.ex
  have R1' := (R1.newT (x := .lst []) nD).1
  refine lc_it hw (fun n H' => ∃ F' I' ρ' acc av, Step F1 I1 H1 F' I' H' ∧ Rel p F' I' H' (wipe σ vs) ρ' ∧ F' D = none ∧ I' D = none ∧ H' D = some (.lst av) ∧ DdAll p I' av acc ∧ av.length ≤ n ∧
      compGoX g t e vs (fun acc ρ2 => P (.tmp (.lst acc)) (backR ρ1 ρ2 vs)) (fun x ρ2 => PX x (backR ρ1 ρ2 vs)) (ds.drop n) acc ρ') ⟨F1, I1, _, [], [], (Step.refl ..).touch nD, R1'.wp vs, R1.lab0 nD, R1.fresh nD, upd_same, .nil, Nat.le_refl _, h⟩
    (fun n H' _ ⟨F', I', ρ', _, _, s', R', _⟩ => hG F' I' H' s' R'.sub) (fun n y H2 H3 hn ⟨F', I', ρ', acc, av, s', R', fD, iD, eD, r', hl, q⟩ hy => ?_) fun H' ⟨F', I', ρ', acc, av, s', R', fD, iD, eD, r', hl, q⟩ => ?_
  · obtain ⟨I3, d, hd, a1, a2, a3, a4, it⟩ := hY n H2 y H3 hn hy F' I' s' R'.sub R'.lab
    have R3 := R'.more a1 a2 a3 a4
    have sm := Step.more R' a1 a2 a4
    have s3 := s'.trans sm
    have nD2 : H2 D ≠ none := by rw [eD]; simp
    obtain ⟨_, iD3⟩ := sm.nobody fD iD nD2
    have eD3 : H3 D = some (.lst av) := a1 _ _ eD
    have nD3 : H3 D ≠ none := by rw [eD3]; simp
    have e1 : ds.drop n = d :: ds.drop (n + 1) := by
      obtain ⟨hl, hd⟩ := List.getElem?_eq_some_iff.mp hd
      rw [← hd]; exact List.drop_eq_getElem_cons hl
    rw [e1, compGoX_consE] at q
    have hbig : av.length < sizeLine := by have := w.big; omega
    refine ⟨F', I3, ρ', d, _, R3, it, q, fun ρ4 σ4 q4 R4 w4 => ⟨w4.trans wipe_wipe, ?_⟩⟩
    have ww : wipe σ4 vs = wipe σ vs := by rw [w4, wipe_wipe]
    refine ⟨F', I3, ρ4, _, _, R4, q4, fun b ρ5 F5 I5 H5 q5 s5 R5 => ?_, fun _ _ _ _ _ _ _ z => z.elim⟩
    cases b with
    | false =>
      obtain ⟨f5, i5⟩ := s5.nobody fD iD3 nD3
      exact iteF ⟨F5, I5, _, acc, av, s3.trans s5, R5.wiped ww, f5, i5, s5.keep _ _ eD3 fD, DdAll.mono s5.inc (DdAll.mono a2 r'), by omega, q5.2 rfl⟩
    | true =>
      refine iteT ⟨F5, I5, ρ5, _, _, R5, q5.1 rfl, fun o ρ6 v F6 I6 H6 q6 s6 R6 r6 => ?_, fun xx ρ7 cls dd F7 I7 H7 q7 s7 R7 x7 => ?_⟩
      · unfold onlyd at q6
        split at q6
        · rename_i d'
          have s56 := s5.trans s6
          obtain ⟨f6, i6⟩ := s56.nobody fD iD3 nD3
          have eD6 : H6 D = some (.lst av) := s56.keep _ _ eD3 fD
          refine ⟨av, eD6, hbig, F6, I6, _, acc ++ [d'], av ++ [v], (s3.trans s56).touch nD, (R6.wiped ww).touch f6 i6, f6, i6, upd_same, DdAll.append (DdAll.mono s56.inc (DdAll.mono a2 r')) (.cons r6 .nil), by rw [List.length_append]; simp; omega, q6⟩
        · exact q6.elim
      · have sAll := s3.trans (s5.trans s7)
        exact x _ _ _ _ _ _ _ q7 (s1.trans sAll) (R1.back sAll.inc (R7.wiped ww)) x7
  · rw [List.drop_length, compGoX_nilE] at q
    refine k _ _ _ F' I' H' q (s1.trans s') (R1.back s'.inc R') ⟨D, rfl, [D], ⟨rfl, av, eD, r'⟩, fun b hb => ?_⟩
    have e : b = D := by simpa using hb
    subst e
    exact ⟨fD, iD, s1.old nD, by rw [eD]; simp⟩
end
section
variable {X : Cx} {G : V → Nat → Option Addr → Prop} {W : L2.WX} {pos : Pos} {tg iter elt : Expr} {ifs : List Expr} {i : DI} {g : DG} {t : DT} {e : DE} {strong : Bool} {scope : Scope} {own : List (Str × Nat)}
abbrev BX (X : Cx) (G : V → Nat → Option Addr → Prop) (strong : Bool) (vs : List Nat) (tg : Expr) (ifs : List Expr) (elt : Expr) (scope : Scope) (g : DG) (t : DT) (e : DE) : Prop := BlkX X tg ifs elt scope (tG (pm X G) strong vs g) (tT (pm X G) W0 t) (fun W' => tE (pm X G) W' e)
theorem e_compX (hst : X.stack = X.env :: X.outer) (hfr : X.env.frame = some X.env.locals) (tk : L2.Takes X W) (hc : X.calm = true) (hN : X.N.Nodup) (hi : PId X G W strong tg iter i) (ok : BlkOk X.N X.env.scope scope own)
    (hb : BX X G strong (own.map (·.2)) tg ifs elt scope g t e) (hs : ∀ x, foldedSetIterable iter X.env x = pure x := by intro _; rfl) :
    PEd X G W (.ListComp elt [⟨tg, iter, ifs, 0⟩] scope pos) (dCompX i g t e (own.map (·.2))) := PE.weak (pe_lcX hst hfr tk hc hN hi ok hb hs) w_compX
theorem z_setCompX {j : Nat} {y : Str} {py spos : Pos} (hst : X.stack = X.env :: X.outer) (hfr : X.env.frame = some X.env.locals) (tk : L2.Takes X W) (hc : X.calm = true) (hN : X.N.Nodup) (hy : X.N[j]? = some y) (hyl : X.env.scope.names.lookup y = some .local)
    (hsw : swapsWith (.ListComp elt [⟨tg, iter, ifs, 0⟩] scope pos) (some (.Name y py)) spos.line X.env = pure true) (hi : PId X G W strong tg iter i) (ok : BlkOk X.N X.env.scope scope own)
    (hb : BX X G strong (own.map (·.2)) tg ifs elt scope g t e) (hs : ∀ x, foldedSetIterable iter X.env x = pure x := by intro _; rfl) :
    PSd X G W (.Assign [.Name y py] (.ListComp elt [⟨tg, iter, ifs, 0⟩] scope pos) spos) (dSet j (dCompX i g t e (own.map (·.2)))) := PS.weak (ps_setLcX hst hfr tk hc hN hy hyl hsw hi ok hb hs) fun D σ H q => by
  obtain ⟨F, I, ρ, E, R, f1, k⟩ := q
  refine w_compX σ H _ ⟨F, I, ρ, _, E.ex, R, f1, fun o ρ' v F' I' H' h s' R' r' => ?_, k.xend⟩
  obtain ⟨F2, I2, ρ2, s2, R2, h2⟩ := setK_ok s' R' r' h
  exact k.nx ρ2 _ F2 I2 H' h2 s2 R2
end
theorem sh_LL (r : List Heap1) : SeqAt.shaped (.list (r.map lD)) = true := good_int.L.L.sh (by decide) r
theorem sh_L1 (r : List Int) : SeqAt.shaped (lD r) = true := good_int.L.sh (by decide) r
theorem eqv_LL (a b : List Heap1) : PyData.eqv (.list (a.map lD)) (.list (b.map lD)) = decide (a = b) := good_int.L.L.eqv a b
theorem eqvT_LL {a b : List Heap1} (h : a = b) : PyData.eqv (.list (a.map lD)) (.list (b.map lD)) = true := by rw [eqv_LL, decide_eq_true h]
/-- the numbers below 1 of some rows -/
def bads (r : List Heap1) : List Int := r.flatMap fun h => h.filter fun x => decide (x < 1)
theorem bads_snoc (r : List Heap1) (h : Heap1) : bads (r ++ [h]) = bads r ++ h.filter fun x => decide (x < 1) := by unfold bads; rw [List.flatMap_append]; simp
theorem bads_none {r : List Heap1} (h : ∀ g ∈ r, g.find? (fun y => decide (y < 1)) = none) : bads r = [] := by
  unfold bads
  rw [List.flatMap_eq_nil_iff]
  intro g hg
  rw [List.filter_eq_nil_iff]
  intro x hx
  simpa using List.find?_eq_none.mp (h g hg) x hx
theorem bads_at {p s : List Heap1} {h : Heap1} {x : Int} (hp : ∀ g ∈ p, g.find? (fun y => decide (y < 1)) = none) (hx : h.find? (fun y => decide (y < 1)) = some x) : (bads (p ++ h :: s)).head? = some x := by
  have e : bads (p ++ h :: s) = bads p ++ ((h.filter fun y => decide (y < 1)) ++ bads s) := by unfold bads; rw [List.flatMap_append, List.flatMap_cons]
  rw [e, bads_none hp, List.nil_append, List.head?_append, List.head?_filter, hx]
  rfl
theorem bads_all {r : List Heap1} (h : bads r = []) : ∀ g ∈ r, ∀ x ∈ g, 1 ≤ x := by
  intro g hg x hx
  refine Classical.byContradiction fun z => ?_
  have : x ∈ bads r := List.mem_flatMap.mpr ⟨g, hg, List.mem_filter.mpr ⟨hx, by simpa using z⟩⟩
  rw [h] at this
  cases this
def optIK (o : Option Int) (k : Int → Prop) (z : Prop) : Prop := match o with
  | some j => k j
  | none => z
end Dt

/-! # Dt: the rules of lanes and levels -/
namespace Dt
open PySem PySem.Spec PyProof.Rows L2
abbrev prI (p : Int × Int) : D := .tuple [.int p.1, .int p.2]
/-- lanes, in a list or a tuple -/
@[irreducible] def lanK (d : D) (k : List (Int × Int) → Prop) : Prop := ∃ ls : List (Int × Int), (d = .list (ls.map prI) ∨ d = .tuple (ls.map prI)) ∧ k ls
theorem lanK_of {d : D} {k : List (Int × Int) → Prop} (h : lanK d k) : ∃ ls : List (Int × Int), (d = .list (ls.map prI) ∨ d = .tuple (ls.map prI)) ∧ k ls := by unfold lanK at h; exact h
theorem lanK_in {ls : List (Int × Int)} {k : List (Int × Int) → Prop} (q : k ls) : lanK (.list (ls.map prI)) k := by unfold lanK; exact ⟨ls, .inl rfl, q⟩
theorem lanK_inT {ls : List (Int × Int)} {k : List (Int × Int) → Prop} (q : k ls) : lanK (.tuple (ls.map prI)) k := by unfold lanK; exact ⟨ls, .inr rfl, q⟩
/-- rows of levels, in a list or a tuple -/
@[irreducible] def rwK (d : D) (k : List Heap1 → Prop) : Prop := ∃ rs : List Heap1, (d = .list (rs.map hD) ∨ d = .tuple (rs.map hD)) ∧ k rs
theorem rwK_of {d : D} {k : List Heap1 → Prop} (h : rwK d k) : ∃ rs : List Heap1, (d = .list (rs.map hD) ∨ d = .tuple (rs.map hD)) ∧ k rs := by unfold rwK at h; exact h
theorem rwK_in {rs : List Heap1} {k : List Heap1 → Prop} (q : k rs) : rwK (.list (rs.map hD)) k := by unfold rwK; exact ⟨rs, .inl rfl, q⟩
theorem rwK_inT {rs : List Heap1} {k : List Heap1 → Prop} (q : k rs) : rwK (.tuple (rs.map hD)) k := by unfold rwK; exact ⟨rs, .inr rfl, q⟩
def gcdI (a b : Int) : Int := (Nat.gcd a.toNat b.toNat : Nat)
theorem gcdI_step {a b : Int} (ha : 0 ≤ a) (hb : 0 < b) : gcdI b (a % b) = gcdI a b := by
  unfold gcdI
  rw [Int.toNat_emod ha (by omega), Nat.gcd_comm b.toNat, ← Nat.gcd_rec, Nat.gcd_comm]
theorem gcdI_zero {a : Int} (ha : 0 ≤ a) : gcdI a 0 = a := by unfold gcdI; simp; omega
theorem gcdI_pos {a b : Int} (ha : 1 ≤ a) : 1 ≤ gcdI a b := by
  unfold gcdI
  have := Nat.gcd_pos_of_pos_left b.toNat (show 0 < a.toNat by omega)
  omega
theorem gcdI_le {a b : Int} (ha : 1 ≤ a) : gcdI a b ≤ a := by
  unfold gcdI
  have := Nat.gcd_le_left b.toNat (show 0 < a.toNat by omega)
  omega
theorem gcdI_dvdL {a b : Int} (ha : 0 ≤ a) : gcdI a b ∣ a := by
  unfold gcdI
  have := Nat.gcd_dvd_left a.toNat b.toNat
  have h2 := Int.ofNat_dvd.mpr this
  rwa [Int.toNat_of_nonneg ha] at h2
theorem gcdI_dvdR {a b : Int} (hb : 0 ≤ b) : gcdI a b ∣ b := by
  unfold gcdI
  have := Nat.gcd_dvd_right a.toNat b.toNat
  have h2 := Int.ofNat_dvd.mpr this
  rwa [Int.toNat_of_nonneg hb] at h2
/-- so often this side's part -/
def laneO (s : Int) (p : Int × Int) (v : Int) : Int := v * ((if s = 0 then p.2 else p.1) / gcdI p.1 p.2)
def laneX (s : Int) (p : Int × Int) : Int := if s = 0 then p.1 else p.2
def lnParts (s : Int) (l : List ((Int × Int) × Int)) : List Int := l.flatMap fun q => List.replicate (laneO s q.1 q.2).toNat (laneX s q.1)
def laneH (s : Int) (ls : List (Int × Int)) (row : Heap1) : Heap1 := (srt (lnParts s (ls.zip row))).reverse
theorem lnParts_snoc (s : Int) (l : List ((Int × Int) × Int)) (q : (Int × Int) × Int) : lnParts s (l ++ [q]) = lnParts s l ++ List.replicate (laneO s q.1 q.2).toNat (laneX s q.1) := by unfold lnParts; rw [List.flatMap_append]; simp
def okLn (ls : List (Int × Int)) : Prop := ls.length ≤ 7 ∧ ∀ p ∈ ls, (1 ≤ p.1 ∧ p.1 ≤ 24) ∧ (1 ≤ p.2 ∧ p.2 ≤ 24)
def okLv (rs : List Heap1) : Prop := rs.length ≤ 6 ∧ ∀ h ∈ rs, h.length ≤ 7 ∧ ∀ x ∈ h, 0 ≤ x ∧ x ≤ 4
theorem laneO_le {s : Int} {p : Int × Int} {v : Int} (hp : (1 ≤ p.1 ∧ p.1 ≤ 24) ∧ (1 ≤ p.2 ∧ p.2 ≤ 24)) (hv : 0 ≤ v ∧ v ≤ 4) : 0 ≤ laneO s p v ∧ laneO s p v ≤ 96 := by
  have g1 := gcdI_pos (b := p.2) hp.1.1
  have key : ∀ y : Int, 1 ≤ y → y ≤ 24 → 0 ≤ v * (y / gcdI p.1 p.2) ∧ v * (y / gcdI p.1 p.2) ≤ 96 := by
    intro y y0 y1
    have h0 : 0 ≤ y / gcdI p.1 p.2 := Int.ediv_nonneg (by omega) (by omega)
    have h1 : y / gcdI p.1 p.2 ≤ 24 := Int.le_trans (Int.ediv_le_self _ (by omega)) y1
    have := Int.mul_le_mul hv.2 h1 h0 (by omega)
    exact ⟨Int.mul_nonneg hv.1 h0, by omega⟩
  unfold laneO
  split
  · exact key _ hp.2.1 hp.2.2
  · exact key _ hp.1.1 hp.1.2
theorem laneO_other {s : Int} {p : Int × Int} {v : Int} (hp : (1 ≤ p.1 ∧ p.1 ≤ 24) ∧ (1 ≤ p.2 ∧ p.2 ≤ 24)) : (v * (if s = 0 then p.2 else p.1)) / gcdI p.1 p.2 = laneO s p v := by
  unfold laneO
  split
  · exact Int.mul_ediv_assoc _ (gcdI_dvdR (by omega))
  · exact Int.mul_ediv_assoc _ (gcdI_dvdL (by omega))
theorem lnParts_len {s : Int} : ∀ {l : List ((Int × Int) × Int)}, (∀ q ∈ l, ((1 ≤ q.1.1 ∧ q.1.1 ≤ 24) ∧ (1 ≤ q.1.2 ∧ q.1.2 ≤ 24)) ∧ (0 ≤ q.2 ∧ q.2 ≤ 4)) → (lnParts s l).length ≤ 96 * l.length
  | [], _ => by simp [lnParts]
  | q :: l, h => by
    have ih := lnParts_len (s := s) (l := l) fun z hz => h z (by simp [hz])
    have hq := h q (by simp)
    have := laneO_le (s := s) hq.1 hq.2
    have e : lnParts s (q :: l) = List.replicate (laneO s q.1 q.2).toNat (laneX s q.1) ++ lnParts s l := by unfold lnParts; rw [List.flatMap_cons]
    rw [e, List.length_append, List.length_replicate, List.length_cons]
    omega
theorem lnParts_pos {s : Int} {l : List ((Int × Int) × Int)} (h : ∀ q ∈ l, (1 ≤ q.1.1 ∧ q.1.1 ≤ 24) ∧ (1 ≤ q.1.2 ∧ q.1.2 ≤ 24)) : ∀ x ∈ lnParts s l, 1 ≤ x := by
  intro x hx
  obtain ⟨q, hq, hx⟩ := List.mem_flatMap.mp hx
  have := h q hq
  rw [List.eq_of_mem_replicate hx]
  unfold laneX
  split <;> omega
theorem zip_ok {ls : List (Int × Int)} {row : Heap1} (h1 : okLn ls) (h2 : ∀ x ∈ row, 0 ≤ x ∧ x ≤ 4) : ∀ q ∈ ls.zip row, ((1 ≤ q.1.1 ∧ q.1.1 ≤ 24) ∧ (1 ≤ q.1.2 ∧ q.1.2 ≤ 24)) ∧ (0 ≤ q.2 ∧ q.2 ≤ 4) := fun q hq =>
  ⟨h1.2 q.1 (List.of_mem_zip hq).1, h2 q.2 (List.of_mem_zip hq).2⟩
theorem find_none' {ns : List Int} (h : ∀ x ∈ ns, 1 ≤ x) : ns.find? (fun y => decide (y < 1)) = none := List.find?_eq_none.mpr fun x hx => by have := h x hx; simp; omega
/-- is one of them too great -/
def greatB (s : Int) (ls : List (Int × Int)) (rs : List Heap1) : Bool := rs.any fun row => decide (60 < (laneH s ls row).length)
def lanesR (s : Int) (ls : List (Int × Int)) (rs : List Heap1) : List Heap1 := rs.map (laneH s ls)
theorem great_at {s : Int} {ls : List (Int × Int)} {p t : List Heap1} {row : Heap1} (h : 60 < (laneH s ls row).length) : greatB s ls (p ++ row :: t) = true := by
  unfold greatB
  rw [List.any_append, List.any_cons, decide_eq_true h]
  simp
theorem great_no {s : Int} {ls : List (Int × Int)} {rs : List Heap1} (h : ∀ row ∈ rs, ¬ 60 < (laneH s ls row).length) : greatB s ls rs = false := by
  unfold greatB
  rw [List.any_eq_false]
  intro row hr
  simpa using h row hr
theorem great_not {s : Int} {ls : List (Int × Int)} {rs : List Heap1} (h : greatB s ls rs = false) : ∀ row ∈ rs, (laneH s ls row).length ≤ 60 := by
  intro row hr
  have := List.any_eq_false.mp h row hr
  simpa using this
theorem okI_tup (k : Nat) (r : List Heap1) : okI (k + 3) (.tuple (r.map hD)) := okI_rule k r
theorem good_ii : Good (cP cInt cInt) 1 := good_int.P good_int
theorem sh_lpI (r : List (Int × Int)) : SeqAt.shaped (.list (r.map prI)) = true := good_ii.L.sh (by decide) r
theorem sh_pI (p : Int × Int) : SeqAt.shaped (prI p) = true := good_ii.sh (by decide) p
theorem eqvT_LPI {a b : List (Int × Int)} (h : a = b) : PyData.eqv (.list (a.map prI)) (.list (b.map prI)) = true := by
  have : PyData.eqv (.list (a.map prI)) (.list (b.map prI)) = decide (a = b) := good_ii.L.eqv a b
  rw [this, decide_eq_true h]
theorem noL_pI (p : Int × Int) : noL (prI p) = true := rfl
theorem noLs_pI (r : List (Int × Int)) : noLs (r.map prI) = true := noLs_map noL_pI r
theorem great_max (ls : List (Int × Int)) (rs : List Heap1) : decide (60 < mxL (0 :: (lanesR 0 ls rs ++ lanesR 1 ls rs).map fun h => (h.length : Int))) = (greatB 0 ls rs || greatB 1 ls rs) := by
  rw [Bool.eq_iff_iff, decide_eq_true_iff, Bool.or_eq_true]
  obtain ⟨h1, h2⟩ := mxL_mem (xs := 0 :: (lanesR 0 ls rs ++ lanesR 1 ls rs).map fun h => (h.length : Int)) (by simp)
  have key : ∀ s, greatB s ls rs = true ↔ ∃ h ∈ lanesR s ls rs, 60 < h.length := fun s => by
    unfold greatB lanesR
    rw [List.any_eq_true]
    constructor
    · rintro ⟨row, hr, e⟩
      exact ⟨_, List.mem_map_of_mem hr, by simpa using e⟩
    · rintro ⟨h, hh, e⟩
      obtain ⟨row, hr, rfl⟩ := List.mem_map.mp hh
      exact ⟨row, hr, by simpa using e⟩
  rw [key, key]
  constructor
  · intro h
    rcases List.mem_cons.mp h1 with e | e
    · omega
    · obtain ⟨g, hg, e⟩ := List.mem_map.mp e
      have hlt : 60 < g.length := by omega
      rcases List.mem_append.mp hg with hg | hg
      · exact .inl ⟨g, hg, hlt⟩
      · exact .inr ⟨g, hg, hlt⟩
  · have up : ∀ g ∈ lanesR 0 ls rs ++ lanesR 1 ls rs, 60 < g.length → 60 < mxL (0 :: (lanesR 0 ls rs ++ lanesR 1 ls rs).map fun h => (h.length : Int)) := fun g hg hlt => by
      have := h2 (g.length : Int) (List.mem_cons_of_mem _ (List.mem_map.mpr ⟨g, hg, rfl⟩))
      omega
    rintro (⟨g, hg, hlt⟩ | ⟨g, hg, hlt⟩)
    · exact up g (List.mem_append_left _ hg) hlt
    · exact up g (List.mem_append_right _ hg) hlt
def unlB (ls : List (Int × Int)) : Bool := decide ((seenL (ls.map (·.1))).length = (ls.map (·.1)).length) && decide ((seenL (ls.map (·.2))).length = (ls.map (·.2)).length)
end Dt

/-! # Dt: two rules side by side (class Beside): fields, methods, making -/
namespace Dt
open PySem PySem.Spec PyProof.Rows L2

/-! ### the rules of the kit, with exceptions told at the caller's slots -/
section
variable {X : Cx} {k : Nat} {f C : Addr} {fd : FuncData} {ps : List Str} {sp : Sp} {E : L2.St → XK} {x m : Str} {p pos apos : Pos} {e o : Expr} {es : List Expr} {ta : TE} {t : TA}
/-- an instance's method without arguments -/
def tMethS0 (C : Addr) (m : Str) (sp : Sp) (E : L2.St → XK) (ta : TE) : TE := fun σ H Q => ta σ H fun x H1 => ∃ a dx fs, x = .ref a ∧ H1 a = some (.ins C dx fs) ∧ fs.lookup m = none ∧ sp [x] H1 Q (E σ)
theorem pe_methS0 {pl : Sem Bool} (he : PE X o ta) (c : Cls X.K C) (hm : Meth X.K C m f) (F : FnOk X.prog X.w X.K X.mg X.base (L2.CX X.prog X.w) k f fd ps sp) (hr : Room k X.A) (hb : Binds X.K fd ps []) (hx : ∀ σ, PassesAt (L2.CX X.prog X.w) X σ (E σ))
    (ht : eval (.Call (.Attribute o m apos) [] [] pos) X.env = (do
      let ov ← eval o X.env
      standAt apos.atName
      let (f, first) ← holding [ov] (getMethod ov m pl)
      callWith pos f first (backTo pos (starEach [] X.env)) (backToKw pos (keywordEach [] X.env))) := by rfl) :
    PE X (.Call (.Attribute o m apos) [] [] pos) (tMethS0 C m sp E ta) where
  run pins s σ H Q I h := by
    refine PySem.W.methodCall_KW (pl := pl) (thn (he.run pins s σ H _ I h) ?_) ht
    rintro u s1 ⟨v, H1, I1, rv, a, dx, fs, rfl, e2, e3, q⟩
    obtain rfl : u = Value.ref a := rv
    exact getmeth_ok I1 e2 c hm e3 (PySem.W.callWith_K0 (first := [.ref a]) I1.kIn hm.kp (run_fnS (vs := [.ref a]) (us := [.ref a]) F hr hb (hx σ) I1 (.cons rfl .nil) q))
/-- a new instance, then its __init__ -/
def tMakeS (C : Addr) (sp : Sp) (E : L2.St → XK) (t : TA) : TE := fun σ H Q => t σ H fun vs H1 => ∀ x dx, H1 x = none → H1 dx = none → dx ≠ x →
  sp (.ref x :: vs) (upd (upd H1 dx (.own x)) x (.ins C dx [])) (fun v H2 => v = .non ∧ Q (.ref x) H2) (E σ)
theorem pe_makeS (M : Mk X.K C f) (F : FnOk X.prog X.w X.K X.mg X.base (L2.CX X.prog X.w) k f fd ps sp) (hr : Room (k + 1) X.A) (hg : Gl X x) (hm : X.mg x = some (.ref C)) (hb : Binds X.K fd ps []) (hx : ∀ σ, PassesAt (L2.CX X.prog X.w) X σ (E σ))
    (ha : PA X (e :: es) t) (hdb : (x == ("__debug__" : Str)) = false := by decide) (he : starEach (e :: es) X.env = (false, eval e X.env) :: starEach es X.env := by rfl) (hpl : (backTo pos (starEach es X.env)).any (·.1) = false := by rfl) :
    PE X (.Call (.Name x p) (e :: es) [] pos) (tMakeS C sp E t) where
  run pins s σ H Q I h := by
    refine wpAny_Call_Name_kw (ld_glob I hg hm ?_ hdb)
    refine PySem.W.callWith_K (h₀ := X.base) I.ok.mod.kin M.kp (thn (ha.run pos pins s σ H _ I h) ?_) he hpl
    rintro us s1 ⟨vs, H1, I1, r, q⟩
    refine ⟨I1.kIn, ?_⟩
    have q1 := q (s1.heap.objs.size + 1) s1.heap.objs.size (I1.hok.fresh (Nat.le_succ _)) (I1.hok.fresh (Nat.le_refl _)) (Nat.ne_of_lt (Nat.lt_succ_self _))
    have I2 := Inv.made (C := C) I1
    have r2 : Vals (V.ref (s1.heap.objs.size + 1) :: vs) (Value.ref (s1.heap.objs.size + 1) :: us) := .cons rfl r
    have hl : (Value.ref (s1.heap.objs.size + 1) :: us).length = ps.length := by rw [← r2.length]; exact F.len _ _ _ _ q1
    have bt := hb _ (Value.ref (s1.heap.objs.size + 1) :: us) I2.kIn (by rw [List.append_nil]; exact hl)
    rw [List.append_nil] at bt
    have run := F.run _ X.stack _ _ ⟨Value.ref (s1.heap.objs.size + 1) :: us, []⟩ _ _ _ (E σ) (hr.make C us []) (I2.env0.make C us []) bt r2 q1
    refine wpAny_call (make_map (f := f) I1.kIn M.makes M.init (beq_iff_eq.mp M.fn) (codeAny_mono run ?_))
    intro res s' hq
    cases res with
    | error e => exact hx σ pins _ _ e s' I2 hq
    | ok fl =>
      cases fl with
      | ret u =>
        obtain ⟨v, H', I3, rv, ev, q3⟩ := I2.after hq
        subst ev
        exact ⟨rv, V.ref _, H', I3, rfl, q3⟩
      | next => exact hq.elim
      | brk => exact hq.elim
      | cont => exact hq.elim
end

/-! ### the data -/
def besD (l r : D) : D := .dict [(.str "Beside", .none), (.str "left", l), (.str "right", r)]
@[irreducible] def besK (d : D) (k : D → D → Prop) : Prop := ∃ l r, d = besD l r ∧ k l r
theorem besK_in {l r : D} {k : D → D → Prop} (h : k l r) : besK (besD l r) k := by unfold besK; exact ⟨l, r, rfl, h⟩
theorem besK_of {d : D} {k : D → D → Prop} (h : besK d k) : ∃ l r, d = besD l r ∧ k l r := by unfold besK at h; exact h
theorem dd_bes {p : Pm} {I : Hp} {v : V} {l r : D} (h : Dd p I v (besD l r)) : ∃ a C dx v1 v2, v = .ref a ∧ p.mg "Beside" = some (.ref C) ∧ I a = some (.ins C dx [("left", v1), ("right", v2)]) ∧ Dd p I v1 l ∧ Dd p I v2 r := by
  unfold besD at h
  cases h with
  | ins h1 h2 h3 =>
    cases h3 with
    | cons r1 r2 =>
      cases r2 with
      | cons r3 r4 =>
        cases r4
        exact ⟨_, _, _, _, _, rfl, h1, h2, r1, r3⟩
theorem bes_dd {p : Pm} {I : Hp} {a C dx : Addr} {v1 v2 : V} {l r : D} (h1 : p.mg "Beside" = some (.ref C)) (h2 : I a = some (.ins C dx [("left", v1), ("right", v2)])) (r1 : Dd p I v1 l) (r2 : Dd p I v2 r) : Dd p I (.ref a) (besD l r) :=
  .ins h1 h2 (.cons r1 (.cons r2 .nil))

/-! ### readings -/
def dFldL (e : DE) : DE := fun ρ P PX => e ρ (fun o ρ1 => onlyd o fun d => besK d fun l _ => P (.d l) ρ1) PX
def dFldR (e : DE) : DE := fun ρ P PX => e ρ (fun o ρ1 => onlyd o fun d => besK d fun _ r => P (.d r) ρ1) PX
def dMeth (sp : DSp) (e : DE) : DE := fun ρ P PX => e ρ (fun o ρ1 => onlyd o fun d => besK d fun _ _ => sp [.d d] (fun o _ => P o ρ1) (fun x _ => PX x ρ1)) PX
def dMake (sp : DSp) (g : DA) : DE := dCall sp g
/-- what the class must have -/
structure BesT (K : PySem.W.Frag) (mg : Str → Option Value) (C : Addr) : Prop where
  at_ : mg "Beside" = some (.ref C)
  cls : Cls K C
  left : NoAttr K C "left"
  right : NoAttr K C "right"
section
variable {X : Cx} {G : V → Nat → Option Addr → Prop} {W : WX} {pos pos' apos : Pos} {a e : Expr} {es : List Expr} {g : DA} {k : Nat} {x m : Str} {f C : Addr} {fd : FuncData} {ps : List Str} {sp : DSp} {fe : DE}
theorem e_fldL (B : BesT X.K X.mg C) (he : PEd X G W e fe) (hb : attributeBase e "left" X.env (eval e X.env) = eval e X.env := by rfl) : PEd X G W (.Attribute e "left" pos) (dFldL fe) := PE.weak (pe_fld he hb) fun σ H Q q => by
  obtain ⟨F, I, ρ, P, PX, R, f1, kk, xx⟩ := q
  refine ⟨F, I, ρ, _, PX, R, f1, fun o ρ1 v F1 I1 H1 f2 s1 R1 r1 => ?_, xx⟩
  cases o with
  | d d =>
    obtain ⟨l, r, rfl, h⟩ := besK_of f2
    obtain ⟨a, C', dx, v1, v2, rfl, h1, h2, d1, d2⟩ := dd_bes r1
    have e1 : some (Value.ref C') = some (.ref C) := h1.symm.trans B.at_
    cases e1
    exact ⟨a, C, dx, _, v1, rfl, R1.sub _ _ h2, B.cls, B.left, rfl, kk (.d l) ρ1 v1 F1 I1 H1 h s1 R1 d1⟩
  | _ => exact f2.elim
theorem e_fldR (B : BesT X.K X.mg C) (he : PEd X G W e fe) (hb : attributeBase e "right" X.env (eval e X.env) = eval e X.env := by rfl) : PEd X G W (.Attribute e "right" pos) (dFldR fe) := PE.weak (pe_fld he hb) fun σ H Q q => by
  obtain ⟨F, I, ρ, P, PX, R, f1, kk, xx⟩ := q
  refine ⟨F, I, ρ, _, PX, R, f1, fun o ρ1 v F1 I1 H1 f2 s1 R1 r1 => ?_, xx⟩
  cases o with
  | d d =>
    obtain ⟨l, r, rfl, h⟩ := besK_of f2
    obtain ⟨a, C', dx, v1, v2, rfl, h1, h2, d1, d2⟩ := dd_bes r1
    have e1 : some (Value.ref C') = some (.ref C) := h1.symm.trans B.at_
    cases e1
    exact ⟨a, C, dx, _, v2, rfl, R1.sub _ _ h2, B.cls, B.right, rfl, kk (.d r) ρ1 v2 F1 I1 H1 h s1 R1 d2⟩
  | _ => exact f2.elim
theorem e_meth0 {pl : Sem Bool} (B : BesT X.K X.mg C) (hm : Meth X.K C m f) (hn1 : (m == ("left" : Str)) = false) (hn2 : (m == ("right" : Str)) = false) (F : FnOk X.prog X.w X.K X.mg X.base (L2.CX X.prog X.w) k f fd ps (spOf (pm X G) sp)) (tk : Takes X W) (hr : Room k X.A) (hb : Binds X.K fd ps []) (he : PEd X G W e fe)
    (ht : eval (.Call (.Attribute e m apos) [] [] pos) X.env = (do
      let ov ← eval e X.env
      standAt apos.atName
      let (f, first) ← holding [ov] (getMethod ov m pl)
      callWith pos f first (backTo pos (starEach [] X.env)) (backToKw pos (keywordEach [] X.env))) := by rfl) :
    PEd X G W (.Call (.Attribute e m apos) [] [] pos) (dMeth sp fe) := PE.weak (pe_methS0 (pl := pl) (E := WE W) he B.cls hm F hr hb (fun σ => passAt tk σ) ht) fun σ H Q q => by
  obtain ⟨F, I, ρ, P, PX, R, f1, kk, xx⟩ := q
  refine ⟨F, I, ρ, _, PX, R, f1, fun o ρ1 v F1 I1 H1 f2 s1 R1 r1 => ?_, xx⟩
  cases o with
  | d d =>
    obtain ⟨l, r, rfl, h⟩ := besK_of f2
    obtain ⟨a, C', dx, v1, v2, rfl, h1, h2, d1, d2⟩ := dd_bes r1
    have e1 : some (Value.ref C') = some (.ref C) := h1.symm.trans B.at_
    cases e1
    refine ⟨a, dx, _, rfl, R1.sub _ _ h2, ?_, fun _ => none, I1, [.d (besD l r)], _, _, ⟨R1.sub, (fun a j z => nomatch z), rfl, fun i s z => ?_⟩, (fun a j z => nomatch z), h, fun o os' v F' I' H' h s' R' r' => ?_, fun x' os' cls d F' I' H' h s' R' ex => ?_⟩
    · show List.lookup m [("left", v1), ("right", v2)] = none
      rw [List.lookup_cons, List.lookup_cons]
      rw [hn1, hn2]; rfl
    · match i, z with
      | 0, z => cases z; exact ⟨_, rfl, r1⟩
      | i + 1, z => simp at z
    · obtain ⟨R2, s2⟩ := after_call R1 s' R'.sub
      exact kk o ρ1 v F1 I' H' h (s1.trans s2) R2 ((ret_ok R1 r').older fun b => s1.old)
    · obtain ⟨R2, s2⟩ := after_call R1 s' R'.sub
      exact xx x' ρ1 cls d F1 I' H' h (s1.trans s2) R2 ex
  | _ => exact f2.elim
end

/-! ### making -/
def spMk (p : Pm) (C : Addr) (sp : DSp) : Sp := fun vs H Q E => ∃ I a dx v1 v2 l r PP PX, vs = [.ref a, v1, v2] ∧ H a = some (.ins C dx []) ∧ I a = none ∧ Same I H ∧ Dd p I v1 l ∧ Dd p I v2 r ∧ sp [.d l, .d r] PP PX ∧
  (∀ I' H' d, PP (.d d) [.d l, .d r] → (∀ b o, b ≠ a → H b = some o → H' b = some o) → Same I I' → (∀ b, I' b ≠ none → I b ≠ none ∨ H b = none ∨ b = a) → Same I' H' → Dd p I' (.ref a) d → Q .non H') ∧
  (∀ x cls d I' H', PX x [.d l, .d r] → (∀ b o, H b = some o → H' b = some o) → Same I I' → (∀ b, I' b ≠ none → I b ≠ none ∨ H b = none) → Same I' H' → ExOk p I' x cls d → E cls d H')
theorem w_make {p : Pm} {W : WX} {C : Addr} {sp : DSp} {g : DA} (h2 : ∀ os PP PX, sp os PP PX → ∃ l r, os = [.d l, .d r]) (σ : L2.St) (H : Hp) (Q : VK) (q : tE p W (dMake sp g) σ H Q) : tMakeS C (spMk p C sp) (WE W) (tA p W g) σ H Q := by
  obtain ⟨F, I, ρ, P, PX, R, f, k, x⟩ := q
  refine ⟨F, I, ρ, _, PX, R, f, fun os ρ1 vs F1 I1 H1 h s1 R1 r1 => ?_, x⟩
  obtain ⟨ds, e, h⟩ := onlyK_of h
  have r := onlyD_ok r1 e
  obtain ⟨l, rr, e2⟩ := h2 _ _ _ h
  intro a dx ha hdx hne
  match ds, e2, r with
  | [l', r'], e2, r =>
  rw [List.map_cons, List.map_cons, List.map_nil] at e2
  cases e2
  cases r with
  | cons q1 q2 =>
  cases q2 with
  | cons q3 q4 =>
  cases q4
  rename_i v1 v2
  have fi : I1 a = none := R1.fresh ha
  have hs : ∀ b o, H1 b = some o → upd (upd H1 dx (.own a)) a (.ins C dx []) b = some o := fun b o z => by
    rw [upd_ne (by rintro rfl; rw [ha] at z; cases z), upd_ne (by rintro rfl; rw [hdx] at z; cases z)]; exact z
  have hn : ∀ b, upd (upd H1 dx (.own a)) a (.ins C dx []) b = none → H1 b = none := fun b z => by
    cases y : H1 b with
    | none => rfl
    | some o => rw [hs b o y] at z; cases z
  refine ⟨I1, a, dx, v1, v2, l, rr, _, _, rfl, upd_same, fi, fun b o z => hs b o (R1.sub b o z), q1, q3, h, fun I' H' d hp hk hi hw hS hd => ⟨rfl, ?_⟩, fun x' cls d I' H' hp hk hi hw hS ex => ?_⟩
  · have hh : Same H1 H' := fun b o z => hk b o (by rintro rfl; rw [ha] at z; cases z) (hs b o z)
    have nn : ∀ b, I' b ≠ none → I1 b ≠ none ∨ H1 b = none := fun b z => by
      rcases hw b z with y | y | y
      · exact .inl y
      · exact .inr (hn b y)
      · exact .inr (by rw [y]; exact ha)
    exact k (.d d) ρ1 _ F1 I' H' hp (s1.trans (Step.more R1 hh hi nn)) (R1.more hh hi hS nn) hd
  · have hh : Same H1 H' := fun b o z => hk b o (hs b o z)
    have nn : ∀ b, I' b ≠ none → I1 b ≠ none ∨ H1 b = none := fun b z => by
      rcases hw b z with y | y
      · exact .inl y
      · exact .inr (hn b y)
    exact x x' ρ1 cls d F1 I' H' hp (s1.trans (Step.more R1 hh hi nn)) (R1.more hh hi hS nn) ex
theorem e_make {X : Cx} {W : WX} {pos pos' : Pos} {a : Expr} {es : List Expr} {g : DA} {k : Nat} {C f : Addr} {fd : FuncData} {ps : List Str} {sp : DSp} (B : BesT X.K X.mg C) (M : Mk X.K C f) (F : FnOk X.prog X.w X.K X.mg X.base (L2.CX X.prog X.w) k f fd ps (spMk (pm X noG) C sp)) (tk : Takes X W) (hr : Room (k + 1) X.A) (hg : Gl X "Beside") (hb : Binds X.K fd ps [])
    (h2 : ∀ os PP PX, sp os PP PX → ∃ l r, os = [.d l, .d r])
    (ha : PAd X noG W (a :: es) g) (he : starEach (a :: es) X.env = (false, eval a X.env) :: starEach es X.env := by rfl) (hpl : (backTo pos (starEach es X.env)).any (·.1) = false := by rfl) :
    PEd X noG W (.Call (.Name "Beside" pos') (a :: es) [] pos) (dMake sp g) := PE.weak (pe_makeS (E := WE W) M F hr hg B.at_ hb (fun σ => passAt tk σ) ha (by decide) he hpl) (w_make h2)

/-! ### __init__ -/
def iniEnds (l r : D) (PX : Exn → List S → Prop) : DEnds := ⟨fun _ => False, fun _ _ => False, fun _ => False, fun _ => False, fun x _ => PX x [.d l, .d r]⟩
def iniP (f : DE) (t : DT) (b : DS) (l r : D) (PP : O → List S → Prop) (PX : Exn → List S → Prop) : Prop :=
  f [none, some (.d l), some (.d r), none] (fun o _ => onlyd o fun d => t [none, some (.d l), some (.d r), some (.d d)] (fun c _ => (c = true → b (iniEnds l r PX) [none, some (.d l), some (.d r), some (.d d)]) ∧ (c = false → PP (.d (besD l r)) [.d l, .d r])) (fun x _ => PX x [.d l, .d r])) (fun x _ => PX x [.d l, .d r])
theorem w_ini {p : Pm} {K : PySem.W.Frag} {W : WX} {C : Addr} {E : XK} {f : DE} {t : DT} {b : DS} {l r : D} {PP : O → List S → Prop} {PX : Exn → List S → Prop} (B : BesT K p.mg C) (hW : ∀ cls d σ H, E cls d H → W cls d σ H) {H : Hp} {Q : VK} {I : Hp} {a dx : Addr} {v1 v2 : V} {D : Ends}
    (hD : ∀ σ H, Q .non H → D.nx σ H)
    (e1 : H a = some (.ins C dx [])) (e2 : I a = none) (e3 : Same I H) (d1 : Dd p I v1 l) (d2 : Dd p I v2 r) (hb : iniP f t b l r PP PX)
    (k : ∀ I' H' d, PP (.d d) [.d l, .d r] → (∀ b o, b ≠ a → H b = some o → H' b = some o) → Same I I' → (∀ b, I' b ≠ none → I b ≠ none ∨ H b = none ∨ b = a) → Same I' H' → Dd p I' (.ref a) d → Q .non H')
    (kx : ∀ x cls d I' H', PX x [.d l, .d r] → (∀ b o, H b = some o → H' b = some o) → Same I I' → (∀ b, I' b ≠ none → I b ≠ none ∨ H b = none) → Same I' H' → ExOk p I' x cls d → E cls d H') :
    tSeq (tAsg (tE p W f) (gName 3)) (tSeq (tIfS (tT p W t) (tS p W b) tNext) (tSeq (sFld K (tVar 0) (tVar 1) "left") (sFld K (tVar 0) (tVar 2) "right"))) D [some (.ref a), some v1, some v2, none] H := by
  let F0 : Lab := fun _ => none
  have st : ∀ {I' H' : Hp}, Step F0 I H F0 I' H' → (∀ b o, H b = some o → H' b = some o) ∧ ∀ b, I' b ≠ none → I b ≠ none ∨ H b = none := fun s => ⟨fun b o z => s.keep b o z rfl, fun b z => (s.newI b z).elim .inl fun y => y.elim .inr fun y => absurd rfl y⟩
  have nol : ∀ {F' : Lab} {I' H' : Hp}, Step F0 I H F' I' H' → Step F0 I H F0 I' H' := fun s => ⟨s.keep, s.inc, s.newI, (fun a j z => nomatch z), s.there⟩
  have nol2 : ∀ {I1 H1 : Hp} {F' : Lab} {I' H' : Hp}, Step F0 I1 H1 F' I' H' → Step F0 I1 H1 F0 I' H' := fun s => ⟨s.keep, s.inc, s.newI, (fun a j z => nomatch z), s.there⟩
  refine ⟨F0, I, [none, some (.d l), some (.d r), none], _, _, ⟨e3, (fun a j z => nomatch z), rfl, fun i s z => ?_⟩, hb, fun o ρ' v F' I' H' h s' R' r' => ?_, fun x ρ' cls d F' I' H' h s' R' ex => ?_⟩
  · match i, z with
    | 0, z => cases z
    | 1, z => cases z; exact ⟨_, rfl, d1⟩
    | 2, z => cases z; exact ⟨_, rfl, d2⟩
    | 3, z => cases z
    | i + 4, z => simp at z
  · cases o with
    | d d =>
      have s1 := nol s'
      refine ⟨F0, I', [none, some (.d l), some (.d r), some (.d d)], _, _, ⟨R'.sub, (fun a j z => nomatch z), rfl, fun i s z => ?_⟩, h, fun c ρ2 F2 I2 H2 h2 s2 R2 => ?_, fun x ρ2 cls d F2 I2 H2 h2 s2 R2 ex => ?_⟩
      · match i, z with
        | 0, z => cases z
        | 1, z => cases z; exact ⟨_, rfl, Dd.mono s1.inc d1⟩
        | 2, z => cases z; exact ⟨_, rfl, Dd.mono s1.inc d2⟩
        | 3, z => cases z; exact ⟨_, rfl, r'⟩
        | i + 4, z => simp at z
      · have s3 := s1.trans (nol2 s2)
        cases c with
        | true =>
          refine iteT ⟨F0, I2, [none, some (.d l), some (.d r), some (.d d)], _, ⟨R2.sub, (fun a j z => nomatch z), rfl, fun i s z => ?_⟩, h2.1 rfl, ⟨fun _ _ _ _ _ h => h.elim, fun _ _ _ _ _ h => h.elim, fun _ _ _ _ _ h => h.elim, fun _ _ _ _ _ _ _ h => h.elim, fun x ρ3 cls d σ3 F3 I3 H3 h3 s3' R3 ex => ?_⟩⟩
          · match i, z with
            | 0, z => cases z
            | 1, z => cases z; exact ⟨_, rfl, Dd.mono s3.inc d1⟩
            | 2, z => cases z; exact ⟨_, rfl, Dd.mono s3.inc d2⟩
            | 3, z => cases z; exact ⟨_, rfl, Dd.mono s2.inc r'⟩
            | i + 4, z => simp at z
          · have s4 := s3.trans (nol2 s3')
            exact hW _ _ _ _ (kx x cls d I3 H3 h3 (st s4).1 s4.inc (st s4).2 R3.sub ex)
        | false =>
          have q := h2.2 rfl
          have ea : H2 a = some (.ins C dx []) := (st s3).1 _ _ e1
          have ia : I2 a = none := by
            cases y : I2 a with
            | none => rfl
            | some o =>
              rcases (st s3).2 a (by rw [y]; simp) with z | z
              · exact absurd e2 z
              · rw [e1] at z; cases z
          refine iteF ⟨v1, rfl, .ref a, rfl, a, C, dx, [], rfl, ea, B.cls, B.left, by decide, v2, rfl, .ref a, rfl, a, C, dx, [("left", v1)], rfl, upd_same, B.cls, B.right, by simp, hD _ _ ?_⟩
          have dm : ∀ {v d}, Dd p I2 v d → Dd p (upd I2 a (.ins C dx [("left", v1), ("right", v2)])) v d := fun z => Dd.mono (fun b o y => by rw [upd_ne (by rintro rfl; rw [ia] at y; cases y)]; exact y) z
          refine k (upd I2 a (.ins C dx [("left", v1), ("right", v2)])) _ (besD l r) q (fun b o hb z => ?_) (fun b o z => ?_) (fun b z => ?_) (fun b o z => ?_) (bes_dd B.at_ upd_same (dm (Dd.mono s3.inc d1)) (dm (Dd.mono s3.inc d2)))
          · rw [upd_ne hb, upd_ne hb]; exact (st s3).1 b o z
          · rw [upd_ne (by rintro rfl; rw [e2] at z; cases z)]; exact s3.inc b o z
          · by_cases y : b = a
            · exact .inr (.inr y)
            · rw [upd_ne y] at z
              rcases (st s3).2 b z with w | w
              · exact .inl w
              · exact .inr (.inl w)
          · by_cases y : b = a
            · subst y
              rw [upd_same] at z
              cases z
              exact upd_same
            · rw [upd_ne y] at z
              rw [upd_ne y, upd_ne y]; exact R2.sub b o z
      · have s3 := s1.trans (nol2 s2)
        exact hW _ _ _ _ (kx x cls d I2 H2 h2 (st s3).1 s3.inc (st s3).2 R2.sub ex)
    | _ => exact h.elim
  · have s1 := nol s'
    exact hW _ _ _ _ (kx x cls d I' H' h (st s1).1 s1.inc (st s1).2 R'.sub ex)
theorem fn_ini {P : Program} {w : World} {K : PySem.W.Frag} {mg : Str → Option Value} {base : Heap} {qual : Str} {st : Stmt} {fa C : Addr} {fd : FuncData} {N ps : List Str} {k : Nat} {sp : DSp} {f : DE} {t : DT} {b : DS} (F : Fun K "__init__" qual st fa fd) (hS : FnScope N ps (defScope st)) (hN : N.length = 4) (hp : ps.length = 3) (B : BesT K mg C)
    (hd : ∀ (cdv : Value) (A : Around) (outer : List Env) (s : Shared) (H : Hp) (E : XK), Room k (A.deeper (envOfC qual (defScope st) s.heap.objs.size fa cdv)) →
      PSs (cxOf (L2.CX P w) P w K mg base N qual (defScope st) fa cdv A outer s H E) (defBody st) (tSeq (tAsg (tE ⟨K, mg, noG⟩ (fun cls d _ H => E cls d H) f) (gName 3)) (tSeq (tIfS (tT ⟨K, mg, noG⟩ (fun cls d _ H => E cls d H) t) (tS ⟨K, mg, noG⟩ (fun cls d _ H => E cls d H) b) tNext) (tSeq (sFld K (tVar 0) (tVar 1) "left") (sFld K (tVar 0) (tVar 2) "right")))))
    (hb : ∀ l r PP PX, sp [.d l, .d r] PP PX → iniP f t b l r PP PX) : FnOk P w K mg base (L2.CX P w) (k + 1) fa fd ps (spMk ⟨K, mg, noG⟩ C sp) := by
  refine F.okX hS (fun vs H Q E h => ?_) (fun cdv A outer s H vs Q E hr h => ⟨_, hd cdv A outer s H E hr, ?_⟩)
  · obtain ⟨I, a, dx, v1, v2, l, r, PP, PX, rfl, _⟩ := h
    exact hp.symm
  · obtain ⟨I, a, dx, v1, v2, l, r, PP, PX, rfl, e1, e2, e3, d1, d2, hsp, kk, kx⟩ := h
    have es : L2.start N [.ref a, v1, v2] = [some (.ref a), some v1, some v2, none] := by
      unfold L2.start
      simp [hN]
    rw [es]
    exact w_ini (p := ⟨K, mg, noG⟩) B (fun _ _ _ _ h => h) (fun _ _ h => h) e1 e2 e3 d1 d2 (hb l r PP PX hsp) kk kx
end Dt

/-! # Dt: places of two rules side by side, crossing -/
namespace Dt
open PySem PySem.Spec PyProof.Rows L2
def putH (a b : Heap1) : Heap1 := (srt (a ++ b)).reverse
/-- side, heap, choice -/
abbrev Pl := Int × Heap1 × List Int
def plD (p : Pl) : D := .tuple [.int p.1, hD p.2.1, hD p.2.2]
@[irreducible] def plK (d : D) (k : Pl → Prop) : Prop := ∃ p, d = plD p ∧ k p
theorem plK_in {p : Pl} {k : Pl → Prop} (h : k p) : plK (plD p) k := by unfold plK; exact ⟨p, rfl, h⟩
theorem plK_in2 {i : Int} {h c : Heap1} {k : Pl → Prop} (q : k (i, h, c)) : plK (.tuple [.int i, hD h, hD c]) k := plK_in (p := (i, h, c)) q
theorem plK_of {d : D} {k : Pl → Prop} (h : plK d k) : ∃ p, d = plD p ∧ k p := by unfold plK at h; exact h
def ownR (r s : List Heap1) (i : Int) : List Heap1 := if i = 1 then r else s
def othR (r s : List Heap1) (i : Int) : List Heap1 := if i = 1 then s else r
def isPlB (r s : List Heap1) (p : Pl) : Bool := (decide (p.1 = 1) || decide (p.1 = 2)) && isPairB (ownR r s p.1) (p.2.1, p.2.2)
def crossP (r s : List Heap1) (p : Pl) : Pl := (3 - p.1, putH (joinL (pickC (othR r s p.1) p.2.2)) (takeOff (joinL (pickC (ownR r s p.1) p.2.2)) p.2.1), p.2.2)
structure PlP (r s : List Heap1) (p : Pl) : Prop where
  side : p.1 = 1 ∨ p.1 = 2
  pair : PairP (ownR r s p.1) (p.2.1, p.2.2)
theorem isPl_iff {r s : List Heap1} {p : Pl} : isPlB r s p = true ↔ PlP r s p := by
  unfold isPlB
  rw [Bool.and_eq_true, Bool.or_eq_true, decide_eq_true_iff, decide_eq_true_iff, isPair_iff]
  exact ⟨fun h => ⟨h.1, h.2⟩, fun h => ⟨h.side, h.pair⟩⟩
theorem putH_perm (a b : Heap1) : (putH a b).Perm (a ++ b) := (List.reverse_perm _).trans (srt_perm _)
theorem putH_down (a b : Heap1) : (putH a b).Pairwise (· ≥ ·) := down_srtR _
theorem putH_comm (a b : Heap1) : putH a b = putH b a := by
  have e : srt (a ++ b) = srt (b ++ a) := srt_eq ((srt_perm _).trans List.perm_append_comm) (srt_up _)
  unfold putH
  rw [e]
theorem putH_eq {a b h : Heap1} (p : h.Perm (a ++ b)) (d : h.Pairwise (· ≥ ·)) : putH a b = h := by
  have e : h.reverse = srt (a ++ b) := srt_eq ((List.reverse_perm _).trans p) (List.pairwise_reverse.mpr (d.imp fun z => z))
  unfold putH
  rw [← e, List.reverse_reverse]
theorem putH_heap {a b : Heap1} (ha : ∀ x ∈ a, 1 ≤ x) (hb : ∀ x ∈ b, 1 ≤ x) : isHeap (putH a b) := ⟨putH_down a b, fun x hx => by
  rcases List.mem_append.mp ((putH_perm a b).mem_iff.mp hx) with h | h
  · exact ha x h
  · exact hb x h⟩
theorem putH_len (a b : Heap1) : (putH a b).length = a.length + b.length := by rw [(putH_perm a b).length_eq, List.length_append]
theorem sum_perm {a b : Heap1} (p : a.Perm b) : a.sum = b.sum := perm_sum p
section
variable {r s : List Heap1} {p : Pl} {h : Heap1} {c : List Int}
theorem pair_join (P : PairP r (h, c)) : ∀ x, (joinL (pickC r c)).count x ≤ h.count x := fun x => by
  rw [joinL_count]
  refine mxC_le fun g hg => ?_
  obtain ⟨j, hj, rfl⟩ := List.mem_map.mp hg
  exact liesIn_iff.mp (P.lies j hj) x
theorem join_pair (up : c.Pairwise (· < ·)) (hc : okC r.length c) (hl : ∀ x, (joinL (pickC r c)).count x ≤ h.count x) : PairP r (h, c) :=
  ⟨up, hc, fun j hj => liesIn_iff.mpr fun x => Nat.le_trans (by
    rw [joinL_count]
    exact mxC_ge (r := pickC r c) (List.mem_map.mpr ⟨j, hj, rfl⟩ : r.getD j.toNat [] ∈ pickC r c) x) (hl x)⟩
theorem crossP_side (P : PlP r s p) : (crossP r s p).1 = 1 ∨ (crossP r s p).1 = 2 := by
  show 3 - p.1 = 1 ∨ 3 - p.1 = 2
  rcases P.side with h | h <;> rw [h] <;> decide
theorem own_cross (P : PlP r s p) : ownR r s (3 - p.1) = othR r s p.1 ∧ othR r s (3 - p.1) = ownR r s p.1 := by
  unfold ownR othR
  rcases P.side with h | h <;> rw [h] <;> exact ⟨rfl, rfl⟩
theorem oth_len {n : Nat} (M : Mates n r s) : (othR r s p.1).length = (ownR r s p.1).length := by
  unfold ownR othR
  have := M.len
  split <;> omega
theorem own_any {n : Nat} (M : Mates n r s) (i : Int) : Mates n (ownR r s i) (othR r s i) := by
  unfold ownR othR
  split
  · exact M
  · exact M.symm
theorem cross_place {n : Nat} (M : Mates n r s) (P : PlP r s p) : PlP r s (crossP r s p) := by
  refine ⟨crossP_side P, ?_⟩
  show PairP (ownR r s (3 - p.1)) (putH (joinL (pickC (othR r s p.1) p.2.2)) (takeOff (joinL (pickC (ownR r s p.1) p.2.2)) p.2.1), p.2.2)
  rw [(own_cross P).1]
  refine join_pair P.pair.up (fun j hj => ?_) fun x => ?_
  · rw [oth_len M]; exact P.pair.at' j hj
  · rw [(putH_perm _ _).count_eq, List.count_append]; omega
theorem take_back (a b : Heap1) : (takeOff a (putH a b)).Perm b := by
  have h1 := takeOff_perm a (putH a b) fun x => by rw [(putH_perm _ _).count_eq, List.count_append]; omega
  exact (List.perm_append_left_iff a).mp (h1.symm.trans (putH_perm a b))
theorem cross_twice {n : Nat} (M : Mates n r s) (P : PlP r s p) (hh : isHeap p.2.1) : crossP r s (crossP r s p) = p := by
  obtain ⟨i, h, c⟩ := p
  have e1 := (own_cross P).1
  have e2 := (own_cross P).2
  have e3 : takeOff (joinL (pickC (othR r s i) c)) (putH (joinL (pickC (othR r s i) c)) (takeOff (joinL (pickC (ownR r s i) c)) h)) |>.Perm (takeOff (joinL (pickC (ownR r s i) c)) h) := take_back _ _
  have hj := pair_join P.pair
  have hp := takeOff_perm _ _ hj
  have e4 : putH (joinL (pickC (ownR r s i) c)) (takeOff (joinL (pickC (othR r s i) c)) (putH (joinL (pickC (othR r s i) c)) (takeOff (joinL (pickC (ownR r s i) c)) h))) = h :=
    putH_eq (hp.trans (e3.symm.append_left _)) hh.1
  show ((3 - (3 - i), putH (joinL (pickC (othR r s (3 - i)) c)) (takeOff (joinL (pickC (ownR r s (3 - i)) c)) (putH (joinL (pickC (othR r s i) c)) (takeOff (joinL (pickC (ownR r s i) c)) h))), c) : Pl) = (i, h, c)
  rw [show ownR r s (3 - i) = othR r s i from e1, show othR r s (3 - i) = ownR r s i from e2, e4, show 3 - (3 - i) = i by omega]
theorem cross_sum {n : Nat} (M : Mates n r s) (P : PlP r s p) : (crossP r s p).2.1.sum = p.2.1.sum := by
  obtain ⟨i, h, c⟩ := p
  show (putH (joinL (pickC (othR r s i) c)) (takeOff (joinL (pickC (ownR r s i) c)) h)).sum = h.sum
  have hp := sum_perm (takeOff_perm _ _ (pair_join P.pair))
  have e := (own_any M i).same c (fun j hj => P.pair.at' j hj)
  unfold jS at e
  rw [sum_perm (putH_perm _ _), List.sum_append]
  rw [List.sum_append] at hp
  have hp : h.sum = (joinL (pickC (ownR r s i) c)).sum + (takeOff (joinL (pickC (ownR r s i) c)) h).sum := hp
  omega
theorem pick_pos {n : Nat} (M : Mates n r s) (hc : okC r.length c) : ∀ x ∈ joinL (pickC r c), 1 ≤ x := joinL_pos fun g hg x hx => (M.h1 g (pickC_mem hc g hg)).1.2 x hx
theorem cross_heap {n : Nat} (M : Mates n r s) (P : PlP r s p) (hh : isHeap p.2.1) : isHeap (crossP r s p).2.1 :=
  putH_heap (pick_pos (own_any M p.1).symm fun j hj => by
    have := P.pair.at' j hj
    have := oth_len (p := p) M
    omega) fun x hx => hh.2 x ((takeOff_sub _ _).subset hx)
theorem up_len : ∀ {c : List Int} {lo m : Int}, c.Pairwise (· < ·) → (∀ j ∈ c, lo ≤ j ∧ j < m) → (c.length : Int) ≤ max 0 (m - lo)
  | [], _, _, _, _ => by simp; omega
  | x :: c, lo, m, h, b => by
    obtain ⟨h1, h2⟩ := List.pairwise_cons.mp h
    have := up_len (c := c) (lo := x + 1) (m := m) h2 fun j hj => ⟨by have := h1 j hj; omega, (b j (by simp [hj])).2⟩
    have := b x (by simp)
    simp only [List.length_cons]
    omega
theorem pair_short (P : PairP r (h, c)) : c.length ≤ r.length := by
  have : (c.length : Int) ≤ max 0 ((r.length : Int) - 0) := up_len (lo := 0) (m := r.length) P.up fun j hj => P.at' j hj
  omega
theorem join_short {n : Nat} (M : Mates n r s) (hc : okC r.length c) : (joinL (pickC r c)).length ≤ 64 * c.length := by
  have h1 := joinL_len (pickC r c)
  have h2 := flat_le (c := 64) (r := pickC r c) fun g hg => (M.h1 g (pickC_mem hc g hg)).2.1
  have h3 : (pickC r c).length = c.length := List.length_map ..
  rw [h3] at h2
  omega
end
@[irreducible] def besR (d : D) (k : List Heap1 → List Heap1 → Prop) : Prop := ∃ a b, d = besD (rD a) (rD b) ∧ k a b
theorem besR_in {a b : List Heap1} {k : List Heap1 → List Heap1 → Prop} (h : k a b) : besR (besD (rD a) (rD b)) k := by unfold besR; exact ⟨a, b, rfl, h⟩
theorem besR_of {d : D} {k : List Heap1 → List Heap1 → Prop} (h : besR d k) : ∃ a b, d = besD (rD a) (rD b) ∧ k a b := by unfold besR at h; exact h
@[irreducible] def rrK (d : D) (k : List Heap1 → List Heap1 → Prop) : Prop := ∃ a b, d = .tuple [rD a, rD b] ∧ k a b
theorem rrK_in {a b : List Heap1} {k : List Heap1 → List Heap1 → Prop} (h : k a b) : rrK (.tuple [rD a, rD b]) k := by unfold rrK; exact ⟨a, b, rfl, h⟩
theorem rrK_of {d : D} {k : List Heap1 → List Heap1 → Prop} (h : rrK d k) : ∃ a b, d = .tuple [rD a, rD b] ∧ k a b := by unfold rrK at h; exact h
theorem forGo_enum {g : DG} {b : DS} {E : DEnds} {c : List Int} (Inv : List Int → Rho → Prop)
    (step : ∀ p n s ρ (K : Rho → Prop), c = p ++ n :: s → (∀ ρ', Inv (p ++ [n]) ρ' → K ρ') → Inv p ρ → g (.tuple [.int (p.length : Int), .int n]) ρ fun ρ1 => b { E with nx := K, ct := K, bk := E.nx } ρ1) (done : ∀ ρ, Inv c ρ → E.nx ρ) {ρ : Rho} (h : Inv [] ρ) : forGo g b E (pairD 0 0 (c.map PyData.int)) ρ := by
  have go : ∀ (s p : List Int) (ρ : Rho), c = p ++ s → Inv p ρ → forGo g b E (pairD 0 p.length (s.map PyData.int)) ρ := by
    intro s
    induction s with
    | nil =>
      intro p ρ e hi
      rw [List.append_nil] at e
      subst e
      rw [List.map_nil]
      show forGo g b E [] ρ
      rw [forGo_nilE]
      exact done ρ hi
    | cons n s ih =>
      intro p ρ e hi
      rw [List.map_cons]
      show forGo g b E (.tuple [.int (0 + ((p.length : Nat) : Int)), .int n] :: pairD 0 (p.length + 1) (s.map PyData.int)) ρ
      rw [forGo_consE, Int.zero_add]
      refine step p n s ρ _ e (fun ρ' h' => ?_) hi
      have := ih (p ++ [n]) ρ' (by rw [e]; simp) h'
      rw [List.length_append] at this
      exact this
  exact go c [] ρ rfl h
theorem pairG_app {r : List Heap1} {h : Heap1} : ∀ {p s : List Int} {last : Int}, pairG r h last p = true → pairG r h last (p ++ s) = pairG r h (p.getLastD last) s
  | [], s, last, _ => rfl
  | n :: p, s, last, e => by
    rw [pairG, Bool.and_eq_true, Bool.and_eq_true, Bool.and_eq_true] at e
    obtain ⟨e1, e2, e3, e4⟩ := e
    rw [List.cons_append, pairG, e1, e2, e3, pairG_app e4]
    cases p <;> rfl
theorem lastD_app (p : List Int) (n last : Int) : (p ++ [n]).getLastD last = n := by simp
end Dt

/-! # Dt: t[::-1] of a tuple -/
namespace Dt
open PySem PySem.Spec PyProof.Rows L2
theorem rev_places (n : Nat) : Builtin.Slice.slicePlaces ((n : Int) - 1) (-1) (-1) = n := by
  unfold Builtin.Slice.slicePlaces
  rw [if_neg (by decide)]
  by_cases h : (n : Int) - 1 > -1
  · rw [if_pos h, show (- -1 : Int) = 1 by decide, Int.ediv_one]
    omega
  · rw [if_neg h]
    show (0 : Int).toNat = n
    simp only [Int.toNat_zero]
    omega
theorem fm_congr {α β : Type} {f g : α → Option β} : ∀ {xs : List α}, (∀ x ∈ xs, f x = g x) → xs.filterMap f = xs.filterMap g
  | [], _ => rfl
  | x :: xs, h => by
    rw [List.filterMap_cons, List.filterMap_cons, h x (by simp), fm_congr fun y hy => h y (by simp [hy])]
theorem rev_pick (xs : Array Value) : ((List.range xs.size).filterMap fun (m : Nat) => xs[(((xs.size : Int) - 1) + (m : Int) * (-1)).toNat]?).toArray = xs.toList.reverse.toArray := by
  congr 1
  have e : (List.range xs.size).filterMap (fun (m : Nat) => xs[(((xs.size : Int) - 1) + (m : Int) * (-1)).toNat]?) = ((List.range xs.size).map fun k => xs.size - 1 - k).filterMap (xs[·]?) := by
    rw [List.filterMap_map]
    refine fm_congr fun m hm => ?_
    have := List.mem_range.mp hm
    show xs[(((xs.size : Int) - 1) + (m : Int) * (-1)).toNat]? = xs[xs.size - 1 - m]?
    congr 1
    omega
  rw [e, PySem.W.krv_range, List.filterMap_reverse, PySem.W.krv_all]
section
variable {prog : Program} {w : World} {A : Around} {E : Value → Shared → Prop} {s : Shared}
theorem rev_applied {sl : Addr} {vl vu vs : Value} {n : Nat} {Q : Int × Int × Nat → Shared → Prop} (hs : s.heap.IsSliceOf sl vl vu vs) (pl : IsPart vl none) (pu : IsPart vu none) (ps : IsPart vs (some (-1)))
    (h : Q ((n : Int) - 1, -1, n) s) : wpAny (model prog w) A (Builtin.Slice.sliceApplied (.ref sl) (pure (n : Int))) Q E s := by
  obtain ⟨os, hos, hcs, hds⟩ := id hs
  unfold Builtin.Slice.sliceApplied Builtin.Slice.sliceFields
  refine wpAny_bind (wpAny_bind (wpAny_field hos hds (x := vl) rfl (wpAny_bind (wpAny_field hos hds (x := vu) rfl (wpAny_bind (wpAny_field hos hds (x := vs) rfl (wpAny_pure ?_)))))))
  refine wpAny_bind (HT.slicePart_ ps ?_)
  show wpAny _ _ (if ((-1 : Int) == 0) = true then _ else _) _ _ s
  rw [if_neg (by decide)]
  refine wpAny_bind (HT.slicePart_ pl (wpAny_bind (HT.slicePart_ pu (wpAny_bind (wpAny_pure ?_)))))
  show wpAny _ _ (pure ((n : Int) - 1, (-1 : Int), Builtin.Slice.slicePlaces ((n : Int) - 1) (-1) (-1))) _ _ s
  rw [rev_places]
  exact wpAny_pure h
theorem rev_tup {t sl : Addr} {items : Array Value} {vl vu vs : Value} {Q : Value → Shared → Prop} (ht : IsTup s.heap t items) (hs : s.heap.IsSliceOf sl vl vu vs) (pl : IsPart vl none) (pu : IsPart vu none) (ps : IsPart vs (some (-1)))
    (h : Q (.ref s.heap.objs.size) { s with heap := s.heap.push { cls := .type "tuple", data := .seq items.toList.reverse.toArray } }) (hsz : items.size ≤ sizeLine) : wpAny (model prog w) A (getItem (.ref t) (.ref sl)) Q E s := by
  have hsize : sizeOk (.seq items.toList.reverse.toArray) := by
    show items.toList.reverse.toArray.size ≤ sizeLine
    rw [List.size_toArray, List.length_reverse, Array.length_toList]
    exact hsz
  obtain ⟨os, hos, hcs, hds⟩ := id hs
  have hTs : s.TypeIs (.ref sl) "slice" := ⟨os, hos, hcs⟩
  unfold getItem
  try with_reducible refine wpAny_holding ?_
  first | refine wpAny_bind (wpAny_pure ?_) | skip
  refine wpAny_bind (wpAny_sequenceKey ht.typeIs (by decide) ?_)
  refine wpAny_bind (wpAny_callSpecial?_slot (name := Str.ofString "__getitem__") ht.typeIs PyProof.Rows.slot_tuple_getitem
    (wpAny_call_entry PyProof.Rows.slot_tuple_getitem ht.typeIs entry_tuple_getitem ?_ (args_tuple_getitem _ _)))
  show wpAny _ _ (Builtin.Tuple.tupleItemsOf (.ref t) >>= _) _ _ s
  refine wpAny_bind (tupleItemsOf_ ht ?_)
  refine wpAny_bind (wpAny_typeOf hTs ?_)
  rw [if_pos (by decide)]
  refine wpAny_bind (rev_applied hs pl pu ps ?_)
  have hno : ¬ ((((items.size : Int) - 1) == 0 && (-1 : Int) == 1 && items.size == items.size) = true) := by
    rw [show ((-1 : Int) == 1) = false from rfl, Bool.and_false, Bool.false_and]
    exact Bool.false_ne_true
  show wpAny _ _ (if (((items.size : Int) - 1) == 0 && (-1 : Int) == 1 && items.size == items.size) = true then _ else _) _ _ s
  rw [if_neg hno, rev_pick]
  first
    | exact wpAny_bind (m := Builtin.Tuple.tupleExact _) (wpAny_newObj_type (wpAny_pure ⟨_, rfl, wpAny_pure h⟩) hsize)
    | exact wpAny_bind (m := Builtin.Tuple.tupleExact _) (wpAny_newObj_type (wpAny_bind (wpAny_pure (wpAny_pure ⟨_, rfl, wpAny_pure h⟩))) hsize)
    | exact wpAny_bind (wpAny_bind (m := Builtin.Tuple.tupleExact _) (wpAny_newObj_type (wpAny_pure (wpAny_pure ⟨_, rfl, wpAny_pure h⟩)) hsize))
    | exact wpAny_bind (wpAny_bind (m := Builtin.Tuple.tupleExact _) (wpAny_newObj_type (wpAny_pure ⟨_, rfl, wpAny_pure h⟩) hsize))
end
section
variable {X : Cx} {G : V → Nat → Option Addr → Prop} {W : WX} {pos : Pos} {a : Expr} {fa : DE}
def tRevT (K : PySem.W.Frag) (te : TE) : TE := fun σ H Q => te σ H fun x H1 => ∃ a xs, x = .ref a ∧ SqT K H1 a xs ∧ NewT H1 Q xs.reverse
theorem pe_revT {e : Expr} {te : TE} {k : Nat} {p1 p2 p3 : Pos} (he : PE X e te) : PE X (.Subscript e (.Slice none none (some (.UnaryOp .USub (.Constant (.int 1) k p1) p2)) p3) pos) (tRevT X.K te) where
  run pins s σ H Q I h := by
    refine Subscript_ (thn (he.run pins s σ H _ I h) ?_)
    rintro v s1 ⟨x, H1, I1, r1, a, xs, rfl, hx, q⟩
    obtain rfl : v = Value.ref a := r1
    have hst : PO X (some (.UnaryOp .USub (.Constant (.int 1) k p1) p2)) (tPart (tUn (rU fun i => .int (-i)) (tC (.int 1)))) := po_some (pe_un un_neg pe_int)
    refine wpAny_Slice (thn (po_none.run pins s1 σ H1 (fun o H2 => o = none ∧ H2 = H1) I1 ⟨rfl, rfl⟩) ?_)
    rintro vl s2 ⟨l, H2, I2, pl, rfl, rfl⟩
    refine thn (po_none.run pins s2 σ H2 (fun o H3 => o = none ∧ H3 = H2) I2 ⟨rfl, rfl⟩) ?_
    rintro vu s3 ⟨u, H3, I3, pu, rfl, rfl⟩
    refine thn (hst.run pins s3 σ H3 (fun o H4 => o = some (-1) ∧ H4 = H3) I3 ⟨1, rfl, -1, rfl, rfl, rfl⟩) ?_
    rintro vs s4 ⟨o, H4, I4, ps, rfl, rfl⟩
    have I5 : Inv X pins σ H4 { s4 with heap := s4.heap.push { cls := .type "slice", data := .fields #[vl, vu, vs] } } := I4.kept (t' := s4.toks) fun b ob q => Heap.get?_push_of_some _ q
    obtain ⟨its, r, ht, hz⟩ := I5.tuple hx
    refine tail_any (ops := [.ref a, .ref s4.heap.objs.size]) ht.typeIs PyProof.Rows.slot_tuple_getitem.lookup ?_ (by with_unfolding_all rfl)
    refine rev_tup ht (Heap.IsSliceOf.new _ vl vu vs) pl pu ps ?_ (by rw [List.size_toArray, ← r.length]; exact hz)
    exact laidF I5 r.reverse (by rw [List.length_reverse]; exact hz) q
def dRevT (f : DE) : DE := dUn (fun d P => match d with
  | .tuple ds => P (.d (.tuple ds.reverse))
  | _ => False) f
theorem e_revT {k : Nat} {q1 q2 q3 : Pos} (ha : PEd X G W a fa) : PEd X G W (.Subscript a (.Slice none none (some (.UnaryOp .USub (.Constant (.int 1) k q1) q2)) q3) pos) (dRevT fa) := PE.weak (pe_revT ha) fun σ H Q q => by
  obtain ⟨F, I, ρ, P, PX, R, f1, k, x⟩ := q
  refine ⟨F, I, ρ, _, PX, R, f1, fun o ρ1 v F1 I1 H1 f2 s1 R1 r1 => ?_, x⟩
  obtain ⟨d, e, f3⟩ := vw1_of f2
  have hd := vw_ok R1 r1 e
  split at f3
  · obtain ⟨a, o, ws, rfl, e, z, r⟩ := hd.tuple
    have K : Kont (pm X G) F1 I1 H1 σ ρ1 (fun o => P o ρ1) Q := fun o v' I' H' h s' R' r' => k o ρ1 v' F1 I' H' h (s1.trans s') R' (r'.older fun b e => s1.old e)
    exact ⟨a, ws, rfl, sqF (R1.sub _ _ e), K.tup R1 f3 r.reverse⟩
  · exact f3.elim
end
end Dt

/-! # Dt: places of two rules side by side, toggling -/
namespace Dt
open PySem PySem.Spec PyProof.Rows L2
def togP (r s : List Heap1) (p : Pl) : Option Pl := (partL (ownR r s p.1) (p.2.1, p.2.2)).map fun q => (p.1, q.1, q.2)
def opPl : Option Pl → D
  | none => .none
  | some p => plD p
section
variable {r s : List Heap1} {p q : Pl}
theorem tog_some (P : PlP r s p) (e : togP r s p = some q) : PlP r s q ∧ togP r s q = some p ∧ q.2.1 = p.2.1 ∧ q.1 = p.1 ∧ (q.2.2.length = p.2.2.length + 1 ∨ q.2.2.length + 1 = p.2.2.length) := by
  obtain ⟨i, h, c⟩ := p
  unfold togP at e
  cases hf : partL (ownR r s i) (h, c) with
  | none => rw [show partL (ownR r s (i, h, c).1) ((i, h, c).2.1, (i, h, c).2.2) = none from hf] at e; cases e
  | some z =>
    rw [show partL (ownR r s (i, h, c).1) ((i, h, c).2.1, (i, h, c).2.2) = some z from hf] at e
    cases e
    obtain ⟨h1, h2, h3, h4⟩ := partL_some P.pair hf
    obtain ⟨h', c'⟩ := z
    refine ⟨⟨P.side, h1⟩, ?_, h3, rfl, h4⟩
    show (partL (ownR r s i) (h', c')).map _ = _
    rw [h2]
    rfl
theorem tog_none_iff : togP r s p = none ↔ firstN (ownR r s p.1) p.2.1 = none := by
  unfold togP partL
  cases firstN (ownR r s p.1) p.2.1 <;> simp
end
end Dt

/-! # Dt: the walk between two rules side by side ends -/
namespace Dt
open PySem PySem.Spec PyProof.Rows L2
theorem choicesL_succ (m : Nat) : choicesL (m + 1) = choicesL m ++ (choicesL m).map (· ++ [(m : Int)]) := by
  rw [choicesL_range, choicesL_range, List.range_succ, List.map_append, List.map_cons, List.map_nil, chosenL_snoc]
theorem choices_mem : ∀ {m : Nat} {c : List Int}, c.Pairwise (· < ·) → (∀ j ∈ c, 0 ≤ j ∧ j < (m : Int)) → c ∈ choicesL m
  | 0, c, _, h => by
    cases c with
    | nil => exact List.mem_singleton.mpr rfl
    | cons x t => have := h x (by simp); omega
  | m + 1, c, up, h => by
    rw [choicesL_succ]
    by_cases c0 : c = []
    · subst c0
      exact List.mem_append_left _ (choices_mem (m := m) List.Pairwise.nil (by simp))
    · obtain ⟨d, x, rfl⟩ : ∃ d x, c = d ++ [x] := ⟨c.dropLast, c.getLast c0, (List.dropLast_concat_getLast c0).symm⟩
      have hd := List.pairwise_append.mp up
      have hx := h x (by simp)
      by_cases e : x = (m : Int)
      · subst e
        refine List.mem_append_right _ (List.mem_map.mpr ⟨d, choices_mem hd.1 fun j hj => ⟨(h j (by simp [hj])).1, hd.2.2 j hj _ (by simp)⟩, rfl⟩)
      · refine List.mem_append_left _ (choices_mem up fun j hj => ⟨(h j hj).1, ?_⟩)
        rcases List.mem_append.mp hj with hj | hj
        · have := hd.2.2 j hj x (by simp); omega
        · rw [List.mem_singleton.mp hj]; omega
/-- distinct things among few -/
theorem nodup_le {α : Type} [DecidableEq α] : ∀ {xs ys : List α}, xs.Nodup → (∀ x ∈ xs, x ∈ ys) → xs.length ≤ ys.length
  | [], _, _, _ => Nat.zero_le _
  | x :: xs, ys, nd, h => by
    obtain ⟨h1, h2⟩ := List.nodup_cons.mp nd
    have hx := h x (by simp)
    have := nodup_le (xs := xs) (ys := ys.erase x) h2 fun y hy => (List.mem_erase_of_ne (by rintro rfl; exact h1 hy)).mpr (h y (by simp [hy]))
    rw [List.length_erase_of_mem hx] at this
    have := List.length_pos_of_mem hx
    rw [List.length_cons]
    omega
section
variable {r s : List Heap1} {p q : Pl}
def itF (r s : List Heap1) : Nat → Pl → Option Pl
  | 0, p => some p
  | k + 1, p => (itF r s k p).bind fun q => togP r s (crossP r s q)
/-- what holds all along the walk -/
structure Wk (r s : List Heap1) (n : Int) (p : Pl) : Prop where
  pl : PlP r s p
  heap : isHeap p.2.1
  sum : p.2.1.sum = n
  odd : (p.1 + (p.2.2.length : Int)) % 2 = 1
theorem Wk.cross {n : Int} {N : Nat} (M : Mates N r s) (w : Wk r s n p) : PlP r s (crossP r s p) ∧ isHeap (crossP r s p).2.1 ∧ (crossP r s p).2.1.sum = n ∧ ((crossP r s p).1 + ((crossP r s p).2.2.length : Int)) % 2 = 0 :=
  ⟨cross_place M w.pl, cross_heap M w.pl w.heap, (cross_sum M w.pl).trans w.sum, by
    show (3 - p.1 + (p.2.2.length : Int)) % 2 = 0
    have := w.odd
    omega⟩
theorem Wk.next {n : Int} {N : Nat} (M : Mates N r s) (w : Wk r s n p) (e : togP r s (crossP r s p) = some q) : Wk r s n q := by
  obtain ⟨h1, h2, h3, h4⟩ := w.cross M
  obtain ⟨g1, g2, g3, g4, g5⟩ := tog_some h1 e
  exact ⟨g1, by rw [g3]; exact h2, by rw [g3]; exact h3, by rw [g4]; omega⟩
theorem itF_wk {n : Int} {N : Nat} (M : Mates N r s) (w : Wk r s n p) : ∀ {k : Nat} {q : Pl}, itF r s k p = some q → Wk r s n q
  | 0, q, e => by cases e; exact w
  | k + 1, q, e => by
    rw [itF] at e
    cases h : itF r s k p with
    | none => rw [h] at e; cases e
    | some z => rw [h] at e; exact (itF_wk M w h).next M e
theorem itF_inj {n : Int} {N : Nat} (M : Mates N r s) (w : Wk r s n p) (h0 : togP r s p = none) : ∀ {i j : Nat} {q : Pl}, itF r s i p = some q → itF r s j p = some q → i = j
  | 0, 0, _, _, _ => rfl
  | 0, j + 1, q, e1, e2 => by
    cases e1
    rw [itF] at e2
    cases h : itF r s j p with
    | none => rw [h] at e2; cases e2
    | some z =>
      rw [h] at e2
      have := (tog_some ((itF_wk M w h).cross M).1 e2).2.1
      rw [h0] at this; cases this
  | i + 1, 0, q, e1, e2 => by
    cases e2
    rw [itF] at e1
    cases h : itF r s i p with
    | none => rw [h] at e1; cases e1
    | some z =>
      rw [h] at e1
      have := (tog_some ((itF_wk M w h).cross M).1 e1).2.1
      rw [h0] at this; cases this
  | i + 1, j + 1, q, e1, e2 => by
    rw [itF] at e1 e2
    cases h : itF r s i p with
    | none => rw [h] at e1; cases e1
    | some z =>
      cases h' : itF r s j p with
      | none => rw [h'] at e2; cases e2
      | some z' =>
        rw [h] at e1; rw [h'] at e2
        have w1 := itF_wk M w h
        have w2 := itF_wk M w h'
        have a := (tog_some (w1.cross M).1 e1).2.1
        have b := (tog_some (w2.cross M).1 e2).2.1
        have c : crossP r s z = crossP r s z' := Option.some.inj (a.symm.trans b)
        have d := cross_twice M w1.pl w1.heap
        rw [c, cross_twice M w2.pl w2.heap] at d
        subst d
        rw [itF_inj M w h0 h h']
/-- all places of a sum -/
def allPl (n m : Nat) : List Pl := [(1 : Int), 2].flatMap fun i => (pts (n + 1) n n).flatMap fun h => (choicesL m).map fun c => (i, h, c)
theorem sum_ge : ∀ {h : Heap1}, (∀ x ∈ h, 1 ≤ x) → 0 ≤ h.sum ∧ ∀ x ∈ h, x ≤ h.sum
  | [], _ => by simp
  | y :: h, hp => by
    obtain ⟨h1, h2⟩ := sum_ge (h := h) fun x hx => hp x (by simp [hx])
    have hy := hp y (by simp)
    rw [List.sum_cons]
    refine ⟨by omega, fun x hx => ?_⟩
    rcases List.mem_cons.mp hx with rfl | hx
    · omega
    · have := h2 x hx; omega
theorem allPl_mem {n N : Nat} (M : Mates N r s) (w : Wk r s (n : Int) p) : p ∈ allPl n r.length := by
  obtain ⟨i, h, c⟩ := p
  have ol : (ownR r s i).length = r.length := by have := M.len; unfold ownR; split <;> omega
  have up : c.Pairwise (· < ·) := w.pl.pair.up
  have ix : ∀ j ∈ c, 0 ≤ j ∧ j < ((ownR r s i).length : Int) := w.pl.pair.at'
  have hs : h.sum = (n : Int) := w.sum
  have hh : isHeap h := w.heap
  have sd : i = 1 ∨ i = 2 := w.pl.side
  refine List.mem_flatMap.mpr ⟨i, by rcases sd with rfl | rfl <;> simp, List.mem_flatMap.mpr ⟨h, pts_all (by omega) hs (fun x hx => ⟨hh.2 x hx, by have := (sum_ge hh.2).2 x hx; omega⟩) hh.1, List.mem_map.mpr ⟨c, choices_mem up (by rw [← ol]; exact ix), rfl⟩⟩⟩
def boundW (n m : Nat) : Nat := (allPl n m).length
theorem itF_short {n N : Nat} (M : Mates N r s) (w : Wk r s (n : Int) p) (h0 : togP r s p = none) {k : Nat} (e : itF r s k p = some q) : k < boundW n r.length := by
  have ex : ∀ i ≤ k, ∃ z, itF r s i p = some z := by
    have : ∀ d : Nat, ∀ i, i + d = k → ∃ z, itF r s i p = some z := by
      intro d
      induction d with
      | zero => intro i hi; exact ⟨q, by rw [show i = k by omega]; exact e⟩
      | succ d ih =>
        intro i hi
        obtain ⟨z, hz⟩ := ih (i + 1) (by omega)
        rw [itF] at hz
        cases h : itF r s i p with
        | none => rw [h] at hz; cases hz
        | some y => exact ⟨y, rfl⟩
    exact fun i hi => this (k - i) i (by omega)
  let f : Nat → Pl := fun i => (itF r s i p).getD p
  have hf : ∀ i ≤ k, itF r s i p = some (f i) := fun i hi => by
    obtain ⟨z, hz⟩ := ex i hi
    show _ = some ((itF r s i p).getD p)
    rw [hz]; rfl
  have nd : ((List.range (k + 1)).map f).Nodup := by
    unfold List.Nodup
    rw [List.pairwise_map]
    refine List.Pairwise.imp_of_mem (fun {a b} ha hb hab he => ?_) (List.nodup_range (n := k + 1))
    have ha := List.mem_range.mp ha
    have hb := List.mem_range.mp hb
    have h1 := hf a (by omega)
    have h2 := hf b (by omega)
    rw [he] at h1
    exact hab (itF_inj M w h0 h1 h2)
  have := nodup_le nd (ys := allPl n r.length) fun x hx => by
    obtain ⟨i, hi, rfl⟩ := List.mem_map.mp hx
    exact allPl_mem M (itF_wk M w (hf i (by have := List.mem_range.mp hi; omega)))
  rw [List.length_map, List.length_range] at this
  unfold boundW
  omega
/-- behind a crossing: what keeps stands on the second side -/
theorem Wk.stop {n : Int} {N : Nat} (M : Mates N r s) (w : Wk r s n p) (e : togP r s (crossP r s p) = none) : (crossP r s p).1 = 2 ∧ (crossP r s p).2.2 = [] := by
  obtain ⟨h1, h2, h3, h4⟩ := w.cross M
  have hf := tog_none_iff.mp e
  have c0 : (crossP r s p).2.2 = [] := by
    cases hc : (crossP r s p).2.2 with
    | nil => rfl
    | cons j c =>
      have hj : j ∈ (crossP r s p).2.2 := by rw [hc]; simp
      have l := h1.pair.lies j hj
      have a := h1.pair.at' j hj
      have := List.findIdx?_eq_none_iff.mp hf ((ownR r s (crossP r s p).1).getD j.toNat []) (by
        rw [List.getD_eq_getElem?_getD, List.getElem?_eq_getElem (by omega : j.toNat < (ownR r s (crossP r s p).1).length)]
        exact List.getElem_mem _)
      have l : liesIn ((ownR r s (crossP r s p).1).getD j.toNat []) (crossP r s p).2.1 = true := l
      rw [l] at this
      cases this
  rw [c0] at h4
  refine ⟨?_, c0⟩
  rcases h1.side with h | h
  · rw [h] at h4; simp at h4
  · exact h
end
def opNK (o : Option Nat) (f : Nat → Prop) (g : Prop) : Prop := match o with
  | some j => f j
  | none => g
/-- the walk's end, with fuel -/
def endW (r s : List Heap1) : Nat → Pl → Pl
  | 0, p => crossP r s p
  | k + 1, p => match togP r s (crossP r s p) with
    | none => crossP r s p
    | some q => endW r s k q
theorem endW_none {r s : List Heap1} {p : Pl} (e : togP r s (crossP r s p) = none) : ∀ k, endW r s k p = crossP r s p
  | 0 => rfl
  | k + 1 => by rw [endW, e]
theorem endW_some {r s : List Heap1} {p q : Pl} (e : togP r s (crossP r s p) = some q) (k : Nat) : endW r s (k + 1) p = endW r s k q := by rw [endW, e]
/-- where the walk from a heap that keeps the first rule ends -/
def endP (r s : List Heap1) (h : Heap1) : Pl := endW r s (boundW h.sum.toNat r.length) (1, h, [])
theorem start_wk {r s : List Heap1} {h : Heap1} (hh : isHeap h) : Wk r s (h.sum.toNat : Int) (1, h, []) :=
  ⟨⟨.inl rfl, List.Pairwise.nil, by simp, by simp⟩, hh, by have := (sum_ge hh.2).1; show h.sum = _; omega, rfl⟩
theorem start_none {r s : List Heap1} {h : Heap1} (e : firstN r h = none) : togP r s (1, h, []) = none := tog_none_iff.mpr e
theorem heap_len {h : Heap1} : (∀ x ∈ h, 1 ≤ x) → (h.length : Int) ≤ h.sum := by
  intro hp
  induction h with
  | nil => simp
  | cons x h ih =>
    have := ih fun y hy => hp y (by simp [hy])
    have := hp x (by simp)
    rw [List.sum_cons, List.length_cons]
    omega
theorem first_keep {r : List Heap1} {h : Heap1} : firstN r h = none ↔ keepB r h = true := by
  unfold firstN keepB
  rw [List.findIdx?_eq_none_iff, List.all_eq_true]
  exact ⟨fun z x hx => by rw [z x hx]; rfl, fun z x hx => by have := z x hx; simpa using this⟩
theorem kept_at {r : List Heap1} {n : Nat} {h : Heap1} (hh : h ∈ keptL r n) : isHeap h ∧ h.sum = (n : Int) ∧ firstN r h = none := by
  obtain ⟨h1, h2⟩ := List.mem_filter.mp hh
  exact ⟨pts_heap h1, (pts_mem _ _ _ _ h1).1, first_keep.mpr h2⟩
/-! ### the rows of a walk -/
def stepR (r s : List Heap1) (i : Nat) (p : Pl) : Option Pl := if i % 2 = 1 then some (crossP r s p) else togP r s p
def rowsL (r s : List Heap1) : Nat → Nat → Pl → List Pl
  | 0, _, p => [p]
  | f + 1, i, p => p :: (match stepR r s i p with
    | none => []
    | some q => rowsL r s f (i + 1) q)
theorem rowsL_ne (r s : List Heap1) : ∀ f i p, rowsL r s f i p ≠ []
  | 0, _, _ => by simp [rowsL]
  | f + 1, i, p => by simp [rowsL]
def EndsW (r s : List Heap1) : Nat → Pl → Prop
  | 0, q => togP r s (crossP r s q) = none
  | k + 1, q => togP r s (crossP r s q) = none ∨ ∃ z, togP r s (crossP r s q) = some z ∧ EndsW r s k z
theorem ends_walk {r s : List Heap1} {p : Pl} {n N : Nat} (M : Mates N r s) (w : Wk r s (n : Int) p) (h0 : togP r s p = none) : ∀ (d k : Nat) (q : Pl), itF r s k p = some q → k + d = boundW n r.length → EndsW r s d q
  | 0, k, q, e, hk => by have := itF_short M w h0 e; omega
  | d + 1, k, q, e, hk => by
    cases h : togP r s (crossP r s q) with
    | none => exact .inl h
    | some z => exact .inr ⟨z, h, ends_walk M w h0 d (k + 1) z (by rw [itF, e]; exact h) (by omega)⟩
theorem rows_last {r s : List Heap1} : ∀ (k : Nat) (q : Pl) (f i : Nat), EndsW r s k q → i % 2 = 1 → 2 * k + 2 ≤ f → (rowsL r s f i q).getLast? = some (endW r s k q)
  | k, q, 0, i, _, _, h => by omega
  | k, q, 1, i, _, _, h => by omega
  | k, q, f + 2, i, e, hi, h => by
    have s1 : stepR r s i q = some (crossP r s q) := if_pos hi
    have s2 : stepR r s (i + 1) (crossP r s q) = togP r s (crossP r s q) := if_neg (by omega)
    rw [rowsL, s1]
    show (q :: rowsL r s (f + 1) (i + 1) (crossP r s q)).getLast? = _
    rw [rowsL, s2]
    cases ht : togP r s (crossP r s q) with
    | none =>
      rw [endW_none ht]
      rfl
    | some z =>
      show (q :: crossP r s q :: rowsL r s f (i + 1 + 1) z).getLast? = _
      have ne := rowsL_ne r s f (i + 1 + 1) z
      rw [List.getLast?_cons_cons, List.getLast?_cons]
      cases k with
      | zero => exact absurd (ht.symm.trans e) (by simp)
      | succ k =>
        rcases e with e | ⟨z', e, e2⟩
        · rw [ht] at e; cases e
        · rw [ht] at e
          cases e
          rw [endW_some ht, rows_last k z f (i + 1 + 1) e2 (by omega) (by omega)]
          rfl
theorem rows_end {r s : List Heap1} {h : Heap1} {N f : Nat} (M : Mates N r s) (hh : isHeap h) (hf : firstN r h = none) (hb : 2 * boundW h.sum.toNat r.length + 2 ≤ f) : (rowsL r s f 1 (1, h, [])).getLast? = some (endP r s h) :=
  rows_last _ _ _ _ (ends_walk M (start_wk hh) (start_none hf) _ 0 _ rfl (by omega)) rfl hb
theorem flatW_len {α β : Type} {f : α → List β} {k : Nat} (h : ∀ x, (f x).length = k) : ∀ xs : List α, (xs.flatMap f).length = xs.length * k
  | [] => by simp
  | x :: xs => by rw [List.flatMap_cons, List.length_append, h, flatW_len h xs, List.length_cons, Nat.add_mul, Nat.one_mul, Nat.add_comm]
theorem boundW_eq (n m : Nat) : boundW n m = 2 * ((pts (n + 1) n n).length * 2 ^ m) := by
  unfold boundW allPl
  rw [flatW_len (k := (pts (n + 1) n n).length * 2 ^ m) fun i => by rw [flatW_len (k := 2 ^ m) fun h => by rw [List.length_map, choicesL_len]]]
  rfl
theorem pts_few : ∀ n ∈ List.range 17, (pts (n + 1) n n).length ≤ 231 := by decide +kernel
theorem pts_few9 : ∀ n ∈ List.range 10, (pts (n + 1) n n).length ≤ 30 := by decide +kernel
end Dt

/-! # Dt: the walk leads back -/
namespace Dt
open PySem PySem.Spec PyProof.Rows L2
section
variable {r s : List Heap1} {p q : Pl}
theorem itF_front (r s : List Heap1) (p : Pl) : ∀ k : Nat, itF r s (k + 1) p = (togP r s (crossP r s p)).bind (itF r s k)
  | 0 => by
    show (some p).bind (fun q => togP r s (crossP r s q)) = _
    cases h : togP r s (crossP r s p) with
    | none => simp [h]
    | some z => simp [h, itF]
  | k + 1 => by
    rw [itF, itF_front r s p k]
    cases h : togP r s (crossP r s p) with
    | none => rfl
    | some z => rfl
/-- backwards -/
theorem itF_back {n : Int} {N : Nat} (M : Mates N r s) (w : Wk r s n p) : ∀ {k : Nat} {q : Pl}, itF r s k p = some q → itF r s k (crossP r s q) = some (crossP r s p)
  | 0, q, e => by cases e; rfl
  | k + 1, q, e => by
    rw [itF] at e
    cases h : itF r s k p with
    | none => rw [h] at e; cases e
    | some z =>
      rw [h] at e
      have wz := itF_wk M w h
      have wq := wz.next M e
      have t := (tog_some (wz.cross M).1 e).2.1
      rw [itF_front, cross_twice M wq.pl wq.heap, t]
      exact itF_back M w h
theorem endW_at : ∀ (d : Nat) (p : Pl), EndsW r s d p → ∃ k q, k ≤ d ∧ itF r s k p = some q ∧ togP r s (crossP r s q) = none ∧ endW r s d p = crossP r s q
  | 0, p, e => ⟨0, p, Nat.le_refl _, rfl, e, rfl⟩
  | d + 1, p, e => by
    rcases e with e | ⟨z, e, e2⟩
    · exact ⟨0, p, Nat.zero_le _, rfl, e, endW_none e _⟩
    · obtain ⟨k, q, h1, h2, h3, h4⟩ := endW_at d z e2
      exact ⟨k + 1, q, by omega, by rw [itF_front, e]; exact h2, h3, by rw [endW_some e]; exact h4⟩
theorem endW_of : ∀ (k f : Nat) (p q : Pl), itF r s k p = some q → togP r s (crossP r s q) = none → k ≤ f → endW r s f p = crossP r s q
  | 0, f, p, q, e, h, _ => by cases e; exact endW_none h f
  | k + 1, 0, p, q, e, h, hk => by omega
  | k + 1, f + 1, p, q, e, h, hk => by
    rw [itF_front] at e
    cases h1 : togP r s (crossP r s p) with
    | none => rw [h1] at e; cases e
    | some z =>
      rw [h1] at e
      rw [endW_some h1]
      exact endW_of k f z q e h (by omega)
/-- the other way about -/
def mir (p : Pl) : Pl := (3 - p.1, p.2.1, p.2.2)
theorem own_mir (h : p.1 = 1 ∨ p.1 = 2) : ownR s r (3 - p.1) = ownR r s p.1 ∧ othR s r (3 - p.1) = othR r s p.1 := by
  unfold ownR othR
  rcases h with h | h <;> rw [h] <;> exact ⟨rfl, rfl⟩
theorem cross_mir (h : p.1 = 1 ∨ p.1 = 2) : crossP s r (mir p) = mir (crossP r s p) := by
  obtain ⟨i, g, c⟩ := p
  obtain ⟨e1, e2⟩ := own_mir (r := r) (s := s) h
  show ((3 - (3 - i), putH (joinL (pickC (othR s r (3 - i)) c)) (takeOff (joinL (pickC (ownR s r (3 - i)) c)) g), c) : Pl) = (3 - (3 - i), _, c)
  rw [show ownR s r (3 - i) = ownR r s i from e1, show othR s r (3 - i) = othR r s i from e2]
  rfl
theorem tog_mir (h : p.1 = 1 ∨ p.1 = 2) : togP s r (mir p) = (togP r s p).map mir := by
  obtain ⟨i, g, c⟩ := p
  obtain ⟨e1, e2⟩ := own_mir (r := r) (s := s) h
  show (partL (ownR s r (3 - i)) (g, c)).map _ = ((partL (ownR r s i) (g, c)).map _).map _
  rw [show ownR s r (3 - i) = ownR r s i from e1]
  cases partL (ownR r s i) (g, c) <;> rfl
theorem endW_mir {N : Nat} (M : Mates N r s) : ∀ (f : Nat) (p : Pl), PlP r s p → endW s r f (mir p) = mir (endW r s f p)
  | 0, p, P => cross_mir P.side
  | f + 1, p, P => by
    have c := cross_place M P
    rw [endW, endW, cross_mir P.side, tog_mir c.side]
    cases h : togP r s (crossP r s p) with
    | none => rfl
    | some z => exact endW_mir M f z (tog_some c h).1
/-- where the walk ends, and the walk back -/
theorem walk_back {N : Nat} {h : Heap1} (M : Mates N r s) (hh : isHeap h) (hf : firstN r h = none) :
    ∃ g, endP r s h = (2, g, []) ∧ isHeap g ∧ g.sum = h.sum ∧ firstN s g = none ∧ endP s r g = (2, h, []) := by
  have w0 := start_wk (r := r) (s := s) hh
  have t0 := start_none (s := s) hf
  have ends := ends_walk M w0 t0 (boundW h.sum.toNat r.length) 0 (1, h, []) rfl (by omega)
  obtain ⟨k, q, hk, hq, ht, he⟩ := endW_at _ _ ends
  have wq := itF_wk M w0 hq
  obtain ⟨c1, c2, c3, c4⟩ := wq.cross M
  obtain ⟨s1, s2⟩ := wq.stop M ht
  have ee : endP r s h = crossP r s q := he
  have sq : q.2.1.sum = h.sum := by have := wq.sum; have := (sum_ge hh.2).1; omega
  have eq : crossP r s q = (2, (crossP r s q).2.1, []) := by
    obtain ⟨i, g, c⟩ : Pl := q
    show ((3 - i, putH (joinL (pickC (othR r s i) c)) (takeOff (joinL (pickC (ownR r s i) c)) g), c) : Pl) = (2, _, [])
    have s1 : 3 - i = 2 := s1
    have s2 : c = [] := s2
    rw [s1, s2]
    rfl
  have sg : (crossP r s q).2.1.sum = h.sum := (cross_sum M wq.pl).trans sq
  refine ⟨(crossP r s q).2.1, ee.trans eq, c2, sg, ?_, ?_⟩
  · have := tog_none_iff.mp ht
    rw [s1] at this
    exact this
  · have back := endW_of k (boundW h.sum.toNat s.length) (crossP r s q) (crossP r s (1, h, [])) (itF_back M w0 hq) (by rw [cross_twice M w0.pl w0.heap]; exact t0) (by rw [← M.len]; exact hk)
    rw [cross_twice M w0.pl w0.heap] at back
    have m1 := endW_mir M (boundW h.sum.toNat s.length) (crossP r s q) c1
    rw [back] at m1
    have m2 : mir (crossP r s q) = (1, (crossP r s q).2.1, []) := by
      show ((3 - (crossP r s q).1, (crossP r s q).2.1, (crossP r s q).2.2) : Pl) = _
      rw [s1, s2]
      rfl
    unfold endP
    rw [sg, ← m2, m1]
    rfl
theorem rows_short : ∀ (n f i : Nat) (q : Pl), f ≤ n → i % 2 = 1 → (rowsL r s f i q).length ≤ f → ∃ k, EndsW r s k q ∧ 2 * k + 2 ≤ f
  | n, 0, i, q, _, _, h => by simp [rowsL] at h
  | n, 1, i, q, _, hi, h => by
    have s1 : stepR r s i q = some (crossP r s q) := if_pos hi
    rw [rowsL, s1] at h
    simp [rowsL] at h
  | 0, f + 2, i, q, hn, _, _ => by omega
  | n + 1, f + 2, i, q, hn, hi, h => by
    have s1 : stepR r s i q = some (crossP r s q) := if_pos hi
    have s2 : stepR r s (i + 1) (crossP r s q) = togP r s (crossP r s q) := if_neg (by omega)
    rw [rowsL, s1] at h
    have h : (q :: rowsL r s (f + 1) (i + 1) (crossP r s q)).length ≤ f + 2 := h
    rw [rowsL, s2] at h
    cases ht : togP r s (crossP r s q) with
    | none => exact ⟨0, ht, by omega⟩
    | some z =>
      rw [ht] at h
      have h : (rowsL r s f (i + 1 + 1) z).length ≤ f := by
        simp only [List.length_cons] at h
        omega
      obtain ⟨k, h1, h2⟩ := rows_short n f (i + 1 + 1) z (by omega) (by omega) h
      exact ⟨k + 1, .inr ⟨z, ht, h1⟩, by omega⟩
theorem rows_fin {N f : Nat} {h : Heap1} (M : Mates N r s) (hh : isHeap h) (hf : firstN r h = none) (hl : (rowsL r s f 1 (1, h, [])).length ≤ f) : (rowsL r s f 1 (1, h, [])).getLast? = some (endP r s h) := by
  have w0 := start_wk (r := r) (s := s) hh
  have t0 := start_none (s := s) hf
  obtain ⟨k, h1, h2⟩ := rows_short f f 1 (1, h, []) (Nat.le_refl _) rfl hl
  rw [rows_last k _ f 1 h1 rfl h2]
  obtain ⟨k1, q, g1, g2, g3, g4⟩ := endW_at k _ h1
  have := itF_short M w0 t0 g2
  rw [g4]
  exact congrArg some (endW_of k1 _ _ _ g2 g3 (by omega)).symm
end
end Dt

/-! # Dt: the rows of a whole walk -/
namespace Dt
open PySem PySem.Spec PyProof.Rows L2
section
variable {r s : List Heap1} {p q : Pl} {n : Int} {N i : Nat}
/-- at the i-th place of a walk -/
def AtW (r s : List Heap1) (n : Int) (i : Nat) (p : Pl) : Prop := (i % 2 = 1 ∧ Wk r s n p) ∨ (i % 2 = 0 ∧ ∃ q, Wk r s n q ∧ p = crossP r s q)
theorem AtW.next (M : Mates N r s) (w : AtW r s n i p) (e : stepR r s i p = some q) : AtW r s n (i + 1) q := by
  rcases w with ⟨hi, w⟩ | ⟨hi, z, w, rfl⟩
  · rw [stepR, if_pos hi] at e
    cases e
    exact .inr ⟨by omega, p, w, rfl⟩
  · rw [stepR, if_neg (by omega)] at e
    exact .inl ⟨by omega, w.next M e⟩
theorem AtW.place (M : Mates N r s) (w : AtW r s n i p) : PlP r s p ∧ isHeap p.2.1 ∧ p.2.1.sum = n := by
  rcases w with ⟨hi, w⟩ | ⟨hi, z, w, rfl⟩
  · exact ⟨w.pl, w.heap, w.sum⟩
  · obtain ⟨a, b, c, d⟩ := w.cross M
    exact ⟨a, b, c⟩
theorem AtW.odd (M : Mates N r s) (w : AtW r s n i p) : (p.1 + (p.2.2.length : Int)) % 2 = (i : Int) % 2 := by
  rcases w with ⟨hi, w⟩ | ⟨hi, z, w, rfl⟩
  · have := w.odd; omega
  · have := (w.cross M).2.2.2; omega
theorem AtW.stop (M : Mates N r s) (w : AtW r s n i p) (e : stepR r s i p = none) : i % 2 = 0 ∧ p.1 = 2 ∧ p.2.2 = [] ∧ togP r s p = none := by
  rcases w with ⟨hi, w⟩ | ⟨hi, z, w, rfl⟩
  · rw [stepR, if_pos hi] at e; cases e
  · rw [stepR, if_neg (by omega)] at e
    exact ⟨hi, (w.stop M e).1, (w.stop M e).2, e⟩
/-- places by steps, from the i-th to the end of the walk -/
def FullW (r s : List Heap1) : Nat → List Pl → Prop
  | _, [] => False
  | i, [p] => stepR r s i p = none
  | i, p :: q :: t => stepR r s i p = some q ∧ FullW r s (i + 1) (q :: t)
theorem rowsL_head (r s : List Heap1) : ∀ (f i : Nat) (p : Pl), ∃ t, rowsL r s f i p = p :: t
  | 0, i, p => ⟨[], rfl⟩
  | f + 1, i, p => ⟨_, rfl⟩
theorem rowsL_full : ∀ (t : List Pl) (f i : Nat) (p : Pl), FullW r s i (p :: t) → t.length < f → rowsL r s f i p = p :: t
  | [], f + 1, i, p, h, _ => by
    have h : stepR r s i p = none := h
    rw [rowsL, h]
  | q :: t, f + 1, i, p, h, hl => by
    obtain ⟨h1, h2⟩ : stepR r s i p = some q ∧ FullW r s (i + 1) (q :: t) := h
    rw [rowsL, h1]
    show p :: rowsL r s f (i + 1) q = _
    rw [rowsL_full t f (i + 1) q h2 (by simpa using hl)]
  | _, 0, _, _, _, hl => absurd hl (Nat.not_lt_zero _)
theorem full_of : ∀ (f i : Nat) (p : Pl), (rowsL r s f i p).length ≤ f → FullW r s i (rowsL r s f i p)
  | 0, i, p, h => by simp [rowsL] at h
  | f + 1, i, p, h => by
    rw [rowsL] at h ⊢
    cases e : stepR r s i p with
    | none => exact e
    | some q =>
      rw [e] at h
      have h : (rowsL r s f (i + 1) q).length ≤ f := by simpa using h
      have ih := full_of f (i + 1) q h
      obtain ⟨t, ht⟩ := rowsL_head r s f (i + 1) q
      show FullW r s i (p :: rowsL r s f (i + 1) q)
      rw [ht] at ih ⊢
      exact ⟨e, ih⟩
theorem rowsL_take : ∀ (f g i : Nat) (p : Pl), f ≤ g → rowsL r s f i p = (rowsL r s g i p).take (f + 1)
  | 0, 0, i, p, _ => rfl
  | 0, g + 1, i, p, _ => rfl
  | f + 1, 0, i, p, h => absurd h (by omega)
  | f + 1, g + 1, i, p, h => by
    rw [rowsL, rowsL, List.take_succ_cons]
    cases e : stepR r s i p with
    | none => rfl
    | some q =>
      show p :: rowsL r s f (i + 1) q = p :: (rowsL r s g (i + 1) q).take (f + 1)
      rw [rowsL_take f g (i + 1) q (by omega)]
theorem rowsL_len : ∀ (f i : Nat) (p : Pl), (rowsL r s f i p).length ≤ f + 1
  | 0, i, p => by simp [rowsL]
  | f + 1, i, p => by
    rw [rowsL]
    cases e : stepR r s i p with
    | none => simp
    | some q =>
      have := rowsL_len f (i + 1) q
      simp only [List.length_cons]
      omega
/-- the same by numbers -/
structure ByN (r s : List Heap1) (i : Nat) (rows : List Pl) : Prop where
  ne : rows ≠ []
  next : ∀ k p q, rows[k]? = some p → rows[k + 1]? = some q → stepR r s (i + k) p = some q
  last : ∀ k p, rows[k]? = some p → rows[k + 1]? = none → stepR r s (i + k) p = none
theorem ByN.of : ∀ {rows : List Pl} {i : Nat}, FullW r s i rows → ByN r s i rows
  | [], _, h => h.elim
  | [p], i, h => ⟨by simp, fun k a b e1 e2 => by simp at e2, fun k a e1 e2 => by
    have hk : k = 0 := by
      cases k with
      | zero => rfl
      | succ k => simp at e1
    subst hk
    simp only [List.getElem?_cons_zero, Option.some.injEq] at e1
    subst e1
    exact h⟩
  | p :: q :: t, i, h => by
    obtain ⟨h1, h2⟩ : stepR r s i p = some q ∧ FullW r s (i + 1) (q :: t) := h
    have ih := ByN.of h2
    refine ⟨by simp, fun k a b e1 e2 => ?_, fun k a e1 e2 => ?_⟩
    · cases k with
      | zero =>
        simp only [List.getElem?_cons_zero, Option.some.injEq, List.getElem?_cons_succ, Nat.zero_add] at e1 e2
        subst e1 e2
        exact h1
      | succ k =>
        have := ih.next k a b (by simpa using e1) (by simpa using e2)
        rw [show i + (k + 1) = i + 1 + k by omega]
        exact this
    · cases k with
      | zero => simp at e2
      | succ k =>
        have := ih.last k a (by simpa using e1) (by simpa using e2)
        rw [show i + (k + 1) = i + 1 + k by omega]
        exact this
theorem ByN.full : ∀ {rows : List Pl} {i : Nat}, ByN r s i rows → FullW r s i rows
  | [], _, h => h.ne rfl
  | [p], i, h => h.last 0 p rfl rfl
  | p :: q :: t, i, h => ⟨h.next 0 p q rfl rfl, ByN.full ⟨by simp, fun k a b e1 e2 => by
      have := h.next (k + 1) a b (by simpa using e1) (by simpa using e2)
      rw [show i + 1 + k = i + (k + 1) by omega]
      exact this, fun k a e1 e2 => by
      have := h.last (k + 1) a (by simpa using e1) (by simpa using e2)
      rw [show i + 1 + k = i + (k + 1) by omega]
      exact this⟩⟩
theorem ByN.at' (M : Mates N r s) {rows : List Pl} (h : ByN r s i rows) (h0 : ∀ p, rows[0]? = some p → AtW r s n i p) : ∀ (k : Nat) (p : Pl), rows[k]? = some p → AtW r s n (i + k) p
  | 0, p, e => h0 p e
  | k + 1, p, e => by
    have hk : k < rows.length := by have := (List.getElem?_eq_some_iff.mp e).1; omega
    have e1 : rows[k]? = some rows[k] := List.getElem?_eq_getElem hk
    exact (ByN.at' M h h0 k _ e1).next M (h.next k _ _ e1 e)
/-- a whole walk from a heap that keeps the first rule -/
structure WholeW (r s : List Heap1) (h : Heap1) (rows : List Pl) : Prop where
  by' : ByN r s 1 rows
  first : rows[0]? = some (1, h, [])
  heap : isHeap h
  keep : firstN r h = none
theorem WholeW.of {h : Heap1} {f : Nat} (hh : isHeap h) (hf : firstN r h = none) (hl : (rowsL r s f 1 (1, h, [])).length ≤ f) : WholeW r s h (rowsL r s f 1 (1, h, [])) := by
  refine ⟨ByN.of (full_of f 1 _ hl), ?_, hh, hf⟩
  obtain ⟨t, ht⟩ := rowsL_head r s f 1 (1, h, [])
  rw [ht]; rfl
theorem WholeW.rows {h : Heap1} {f : Nat} {rows : List Pl} (w : WholeW r s h rows) (hl : rows.length ≤ f) : rowsL r s f 1 (1, h, []) = rows := by
  cases rows with
  | nil => exact absurd rfl w.by'.ne
  | cons p t =>
    have e := w.first
    simp only [List.getElem?_cons_zero, Option.some.injEq] at e
    subst e
    exact rowsL_full t f 1 _ w.by'.full (by simp at hl; omega)
theorem WholeW.at' {h : Heap1} {rows : List Pl} (M : Mates N r s) (w : WholeW r s h rows) (k : Nat) (p : Pl) (e : rows[k]? = some p) : AtW r s h.sum (1 + k) p :=
  w.by'.at' M (fun p e => by
    rw [w.first] at e
    cases e
    have := start_wk (r := r) (s := s) w.heap
    rw [show ((h.sum.toNat : Nat) : Int) = h.sum by have := (sum_ge w.heap.2).1; omega] at this
    exact .inl ⟨rfl, this⟩) k p e
theorem WholeW.len0 {h : Heap1} {rows : List Pl} (w : WholeW r s h rows) : 0 < rows.length := List.length_pos_iff.mpr w.by'.ne
theorem WholeW.get {h : Heap1} {rows : List Pl} (w : WholeW r s h rows) {k : Nat} (hk : k < rows.length) : rows[k]? = some rows[k] := List.getElem?_eq_getElem hk
/-- the last place -/
theorem WholeW.end' {h : Heap1} {rows : List Pl} (M : Mates N r s) (w : WholeW r s h rows) : rows.length % 2 = 0 ∧ ∃ g, rows[rows.length - 1]? = some (2, g, []) ∧ isHeap g ∧ g.sum = h.sum ∧ firstN s g = none := by
  have l0 := w.len0
  have e : rows[rows.length - 1]? = some (rows[rows.length - 1]'(by omega)) := List.getElem?_eq_getElem (by omega)
  have a := w.at' M _ _ e
  have l := w.by'.last _ _ e (by rw [List.getElem?_eq_none_iff]; omega)
  obtain ⟨s1, s2, s3, s4⟩ := a.stop M l
  obtain ⟨a1, a2, a3⟩ := a.place M
  refine ⟨by omega, (rows[rows.length - 1]'(by omega)).2.1, ?_, a2, a3, ?_⟩
  · rw [e]
    exact congrArg some (Prod.ext s2 (Prod.ext rfl s3))
  · have := tog_none_iff.mp s4
    rw [s2] at this
    exact this
/-- no place stands twice -/
theorem WholeW.once {h : Heap1} {rows : List Pl} (M : Mates N r s) (w : WholeW r s h rows) : ∀ (k l : Nat) (p : Pl), k < l → rows[k]? = some p → rows[l]? = some p → False
  | k, 0, p, hl, _, _ => absurd hl (Nat.not_lt_zero _)
  | k, l + 1, p, hl, e1, e2 => by
    have o1 := (w.at' M k p e1).odd M
    have o2 := (w.at' M (l + 1) p e2).odd M
    have hl2 := (List.getElem?_eq_some_iff.mp e2).1
    have hr : l < rows.length := by omega
    have e3 := w.get hr
    have n2 := w.by'.next l _ p e3 e2
    have a3 := w.at' M l _ e3
    cases k with
    | zero =>
      -- the first place has no toggled one
      rw [stepR, if_neg (by omega)] at n2
      have t := (tog_some (a3.place M).1 n2).2.1
      rw [w.first] at e1
      cases e1
      rw [start_none w.keep] at t
      cases t
    | succ k =>
      have hk : k < rows.length := by omega
      have e4 := w.get hk
      have n1 := w.by'.next k _ p e4 e1
      have a4 := w.at' M k _ e4
      by_cases hp : (1 + k) % 2 = 1
      · rw [stepR, if_pos hp] at n1
        rw [stepR, if_pos (by omega)] at n2
        have x1 := cross_twice M (a4.place M).1 (a4.place M).2.1
        have x2 := cross_twice M (a3.place M).1 (a3.place M).2.1
        rw [Option.some.inj n1] at x1
        rw [Option.some.inj n2] at x2
        have y : rows[k] = rows[l] := x1.symm.trans x2
        exact w.once M k l _ (by omega) e4 (by rw [e3, y])
      · rw [stepR, if_neg hp] at n1
        rw [stepR, if_neg (by omega)] at n2
        have x1 := (tog_some (a4.place M).1 n1).2.1
        have x2 := (tog_some (a3.place M).1 n2).2.1
        have y : rows[k] = rows[l] := Option.some.inj (x1.symm.trans x2)
        exact w.once M k l _ (by omega) e4 (by rw [e3, y])
theorem WholeW.nodup {h : Heap1} {rows : List Pl} (M : Mates N r s) (w : WholeW r s h rows) : rows.Nodup := by
  unfold List.Nodup
  rw [List.pairwise_iff_getElem]
  intro k l hk hl hkl e
  exact w.once M k l _ hkl (w.get hk) (by rw [w.get hl, e])
/-- the sides go by twos -/
theorem WholeW.side {h : Heap1} {rows : List Pl} (M : Mates N r s) (w : WholeW r s h rows) : ∀ (k : Nat) (p : Pl), rows[k]? = some p → p.1 = if (1 + k) / 2 % 2 = 0 then 1 else 2
  | 0, p, e => by
    rw [w.first] at e
    cases e
    rfl
  | k + 1, p, e => by
    have hk : k < rows.length := by have := (List.getElem?_eq_some_iff.mp e).1; omega
    have e1 := w.get hk
    have n := w.by'.next k _ p e1 e
    have ih := w.side M k _ e1
    have a := w.at' M k _ e1
    by_cases hp : (1 + k) % 2 = 1
    · rw [stepR, if_pos hp] at n
      cases n
      show 3 - (rows[k]).1 = _
      rw [ih]
      by_cases h2 : (1 + k) / 2 % 2 = 0
      · rw [if_pos h2, if_neg (by omega)]; rfl
      · rw [if_neg h2, if_pos (by omega)]; rfl
    · rw [stepR, if_neg hp] at n
      rw [(tog_some (a.place M).1 n).2.2.2.1, ih]
      by_cases h2 : (1 + k) / 2 % 2 = 0
      · rw [if_pos h2, if_pos (by omega)]
      · rw [if_neg h2, if_neg (by omega)]
theorem WholeW.four {h : Heap1} {rows : List Pl} (M : Mates N r s) (w : WholeW r s h rows) : rows.length % 4 = 2 := by
  obtain ⟨h1, g, e, _⟩ := w.end' M
  have := w.side M _ _ e
  have l0 := w.len0
  have : (2 : Int) = if (1 + (rows.length - 1)) / 2 % 2 = 0 then 1 else 2 := this
  split at this
  · omega
  · omega
/-- the walk of the back -/
theorem WholeW.back {h : Heap1} {rows : List Pl} (M : Mates N r s) (w : WholeW r s h rows) : ∃ g, rows[rows.length - 1]? = some (2, g, []) ∧ WholeW s r g (rows.reverse.map mir) := by
  obtain ⟨h1, g, e, g1, g2, g3⟩ := w.end' M
  have l0 := w.len0
  have at' : ∀ (k : Nat) (p : Pl), (rows.reverse.map mir)[k]? = some p → k < rows.length ∧ ∃ q, rows[rows.length - 1 - k]? = some q ∧ p = mir q := fun k p ek => by
    rw [List.getElem?_map, Option.map_eq_some_iff] at ek
    obtain ⟨q, e1, rfl⟩ := ek
    have hk : k < rows.length := by have := (List.getElem?_eq_some_iff.mp e1).1; rw [List.length_reverse] at this; exact this
    rw [List.getElem?_reverse hk] at e1
    exact ⟨hk, q, e1, rfl⟩
  refine ⟨g, e, ⟨by simp; exact List.length_pos_iff.mp l0, fun k p q ek1 ek2 => ?_, fun k p ek1 ek2 => ?_⟩, ?_, g1, g3⟩
  · obtain ⟨k1, p', e1, rfl⟩ := at' k p ek1
    obtain ⟨k2, q', e2, rfl⟩ := at' (k + 1) q ek2
    have n := w.by'.next (rows.length - 1 - (k + 1)) q' p' e2 (by rw [show rows.length - 1 - (k + 1) + 1 = rows.length - 1 - k by omega]; exact e1)
    have a := w.at' M _ _ e1
    have b := w.at' M _ _ e2
    have sd := (a.place M).1.side
    by_cases hp : (1 + k) % 2 = 1
    · rw [stepR, if_pos (by omega)] at n
      have n := Option.some.inj n
      rw [stepR, if_pos hp, cross_mir sd, ← n, cross_twice M (b.place M).1 (b.place M).2.1]
    · rw [stepR, if_neg (by omega)] at n
      rw [stepR, if_neg hp, tog_mir sd, (tog_some (b.place M).1 n).2.1]
      rfl
  · obtain ⟨k1, p', e1, rfl⟩ := at' k p ek1
    have hk : k + 1 = rows.length := by
      rw [List.getElem?_eq_none_iff, List.length_map, List.length_reverse] at ek2
      omega
    rw [show rows.length - 1 - k = 0 by omega, w.first] at e1
    cases e1
    rw [stepR, if_neg (by omega), tog_mir (.inl rfl), start_none w.keep]
    rfl
  · rw [List.getElem?_map, List.getElem?_reverse l0, show rows.length - 1 - 0 = rows.length - 1 by omega, e]
    rfl
end
/-! ### places and rows of places as data -/
theorem good_pl : Good (cTri cInt cHeap cHeap) 2 := good_int.Tri good_heap good_heap
theorem sh_pl (p : Pl) : SeqAt.shaped (plD p) = true := good_pl.sh (by decide) p
theorem sh_lpl (p : List Pl) : SeqAt.shaped (.list (p.map plD)) = true := good_pl.L.sh (by decide) p
theorem eqv_PL (a b : Pl) : PyData.eqv (plD a) (plD b) = decide (a = b) := good_pl.eqv a b
theorem eqv_LPL (a b : List Pl) : PyData.eqv (.list (a.map plD)) (.list (b.map plD)) = decide (a = b) := good_pl.L.eqv a b
theorem eqvT_PL {a b : Pl} (h : a = b) : PyData.eqv (plD a) (plD b) = true := by rw [eqv_PL, decide_eq_true h]
theorem eqvT_LPL {a b : List Pl} (h : a = b) : PyData.eqv (.list (a.map plD)) (.list (b.map plD)) = true := by rw [eqv_LPL, decide_eq_true h]
theorem noL_pl (p : Pl) : noL (plD p) = true := by
  show (true && (noL (hD p.2.1) && (noL (hD p.2.2) && true))) = true
  rw [noL_heap, noL_heap]; rfl
theorem noLs_pls (r : List Pl) : noLs (r.map plD) = true := noLs_map noL_pl r
@[irreducible] def lplK (d : D) (k : List Pl → Prop) : Prop := ∃ r, d = .list (r.map plD) ∧ k r
theorem lplK_in {r : List Pl} {k : List Pl → Prop} (h : k r) : lplK (.list (r.map plD)) k := by unfold lplK; exact ⟨r, rfl, h⟩
theorem lplK_of {d : D} {k : List Pl → Prop} (h : lplK d k) : ∃ r : List Pl, d = .list (r.map plD) ∧ k r := by unfold lplK at h; exact h
/-- whether rows are the walk of their first one's heap -/
def isWalkB (r s : List Heap1) (rows : List Pl) : Bool := match rows with
  | [] => false
  | p :: t => keepB r p.2.1 && decide (p :: t = rowsL r s (t.length + 1) 1 (1, p.2.1, []))
end Dt

/-! # Dt: sorted of data of any kind, by the data's order, with and without reverse -/
namespace Dt
open PySem PySem.Spec PyProof.Rows L2
/-- how the two ways of sorting leave two items that stand one behind the other -/
def ordD (b : Bool) (x y : D) : Prop := if b = true then PySem.W.dataLt x y = false else PySem.W.dataLt y x = false
def SrtOk (ds : List D) : Prop := PySem.W.AllAlike ds ∧ (PySem.W.Sortable ds ∨ (ds.length ≤ 1 ∧ ∀ d ∈ ds, d ≠ .none)) ∧ ∀ d ∈ ds, d.depth ≤ 50
section
variable {prog : Program} {w : World} {A : Around} {E : Value → Shared → Prop} {s : Shared}
theorem sortsAt_one {vs : List Value} {ds : List D} (e : PySem.W.EachIs (fun v d => ∃ as, PySem.Reads s.heap v d as) vs ds) (hal : PySem.W.AllAlike ds) (h1 : ds.length ≤ 1) (hn : ∀ d ∈ ds, d ≠ .none) (hu : ∀ d, d ∈ ds → A.units + d.depth < cLine) : PySem.W.SortsAt prog w A s (PySem.W.dataKind s.heap ds) vs := by
  refine ⟨fun v hv => ?_, general', fun E x y a b Q ha hb hq => ?_, fun h2 => ?_⟩
  · obtain ⟨d, hd, as, r⟩ := e.left v hv
    exact ⟨_, PySem.W.dataKind_some hal hd r⟩
  · obtain ⟨d, as, hd, ra, rfl⟩ := PySem.W.dataKind_inv ha
    obtain ⟨d', as', hd', rb, rfl⟩ := PySem.W.dataKind_inv hb
    have k : keyLt' general' x y = oneLt' false x y := rfl
    rw [k]
    exact PySem.W.oneLt_alike (fun z => by cases z) ra rb (hal d hd d' hd') (hn d hd) (Nat.lt_of_le_of_lt (Nat.add_le_add_left (Nat.min_le_left _ _) _) (hu d hd)) hq
  · have := e.length
    omega
end
section
variable {X : Cx}
def rSrtD (K : PySem.W.Frag) (b : Bool) : List V → Hp → VK → Prop := fun vs H Q => ∃ (a : Addr) (zs : List (V × D)), vs = [V.ref a] ∧ SqL K H a (zs.map (·.1)) ∧ DpAll K H (zs.map (·.1)) (zs.map (·.2)) ∧ SrtOk (zs.map (·.2)) ∧
  ∀ (zs' : List (V × D)) (q : Addr), zs'.Perm zs → (zs'.map (·.2)).Pairwise (ordD b) → H q = none → Q (.ref q) (upd H q (.lst (zs'.map (·.1))))
theorem each_of_vals : ∀ {zs : List (V × D)} {us : List Value}, Vals (zs.map (·.1)) us → PySem.W.EachIs (fun v (z : V × D) => RelV z.1 v) us zs
  | [], _, h => by cases h; exact .nil
  | z :: zs, _, h => by
    rw [List.map_cons] at h
    cases h with
    | cons h1 h2 => exact .cons h1 (each_of_vals h2)
theorem vals_of_each : ∀ {us : List Value} {zs : List (V × D)}, PySem.W.EachIs (fun v (z : V × D) => RelV z.1 v) us zs → Vals (zs.map (·.1)) us
  | _, _, .nil => .nil
  | _, _, .cons h t => .cons h (vals_of_each t)
theorem sort_pw (b : Bool) (zs : List (V × D)) : ((zs.mergeSort (PySem.W.dataLe b (fun z : V × D => z.2))).map (·.2)).Pairwise (ordD b) := by
  rw [List.pairwise_map]
  have h := PySem.W.sort_pairwise (PySem.W.sortLe_total (PyProof.Rows.listOrd PyProof.Rows.itemOrd) b (fun z : V × D => PySem.W.keyToks z.2)) zs
  refine List.Pairwise.imp (fun {x y} e => ?_) h
  unfold ordD
  unfold PySem.W.sortLe at e
  cases b
  · simp only [cond_false, Bool.not_eq_true'] at e
    rw [if_neg (by decide)]
    exact e
  · simp only [cond_true, Bool.not_eq_true'] at e
    rw [if_pos rfl]
    exact e
/-- what the two calls come to -/
theorem srtD_run {b : Bool} {kw : List (Str × Value)} (hu : X.A.units + 64 < cLine) {pins : List (Addr × Obj)} {s : Shared} {σ : L2.St} {H : Hp} {a : Addr} {zs : List (V × D)} {Q : VK} (I : Inv X pins σ H s) (hs : SqL X.K H a (zs.map (·.1))) (hd : DpAll X.K H (zs.map (·.1)) (zs.map (·.2))) (ok : SrtOk (zs.map (·.2)))
    (run : ∀ (κ : PyProof.Rows.KeyKind) (vs : List Value) (Q : Value → Shared → Prop), s.heap.IsList a vs.toArray → PySem.W.SortsAt X.prog X.w X.A.in1.in1 { s with heap := PySem.W.sortingHeap (PySem.W.copyHeap s.heap vs) (s.heap.objs.size + 1) vs } κ vs → vs.length ≤ sizeLine →
      Q (.ref (s.heap.objs.size + 1)) { s with heap := PyProof.Rows.sortedAll s.heap vs (PySem.W.sortVals κ b vs vs).toArray } → wpAny (model X.prog X.w) X.A (call (.builtin "sorted") [.ref a] kw) Q X.xe s)
    (q : ∀ (zs' : List (V × D)) (q : Addr), zs'.Perm zs → (zs'.map (·.2)).Pairwise (ordD b) → H q = none → Q (.ref q) (upd H q (.lst (zs'.map (·.1))))) : wpAny (model X.prog X.w) X.A (call (.builtin "sorted") [.ref a] kw) (EP X pins σ Q) X.xe s := by
  obtain ⟨its, rv, pl, hz⟩ := I.list hs
  obtain ⟨as, ra⟩ := Dp.readsAll I _ _ _ hd rv
  have e0 := each_of_vals rv
  have er := PySem.W.readsAll_each (fun z : V × D => z.2) ra
  have hlen : its.length ≤ sizeLine := by rw [← rv.length]; exact hz
  have er' : PySem.W.EachIs (fun v (z : V × D) => ∃ as, PySem.Reads (PySem.W.sortingHeap (PySem.W.copyHeap s.heap its) (s.heap.objs.size + 1) its) v z.2 as) its zs := er.mono fun _ _ ⟨as, r⟩ => ⟨as, PyProof.Rows.Reads.keeps (fun _ _ => PySem.W.sorting_copy_old) r⟩
  have hb : ∀ d, d ∈ zs.map (·.2) → X.A.in1.in1.units + d.depth < cLine := fun d hd => by
    have := ok.2.2 d hd
    show X.A.units + 1 + 1 + d.depth < cLine
    omega
  have S : PySem.W.SortsAt X.prog X.w X.A.in1.in1 { s with heap := PySem.W.sortingHeap (PySem.W.copyHeap s.heap its) (s.heap.objs.size + 1) its } (PySem.W.dataKind (PySem.W.sortingHeap (PySem.W.copyHeap s.heap its) (s.heap.objs.size + 1) its) (zs.map (·.2))) its := by
    have e1 := PySem.W.each_map (R := fun v d => ∃ as, PySem.Reads (PySem.W.sortingHeap (PySem.W.copyHeap s.heap its) (s.heap.objs.size + 1) its) v d as) (fun z : V × D => z.2) er'
    rcases ok.2.1 with k | ⟨k1, k2⟩
    · exact PySem.W.SortsAt.data (s := { s with heap := PySem.W.sortingHeap (PySem.W.copyHeap s.heap its) (s.heap.objs.size + 1) its }) e1 ok.1 k hb
    · exact sortsAt_one (s := { s with heap := PySem.W.sortingHeap (PySem.W.copyHeap s.heap its) (s.heap.objs.size + 1) its }) e1 ok.1 k1 k2 hb
  refine run _ its _ (by simpa using pl.isList) S hlen ?_
  have out := PySem.W.sortVals_data (R := fun v (z : V × D) => RelV z.1 v) (enc := fun z : V × D => z.2) b e0 er' ok.1
  have perm : (zs.mergeSort (PySem.W.dataLe b (fun z : V × D => z.2))).Perm zs := List.mergeSort_perm _ _
  have ov := vals_of_each out
  have n0 : H (s.heap.objs.size + 1) = none := I.hok.fresh (Nat.le_succ _)
  have ol : ((zs.mergeSort (PySem.W.dataLe b (fun z : V × D => z.2))).map (·.1)).length ≤ sizeLine := by
    rw [List.length_map, perm.length_eq]
    rw [List.length_map] at hz
    exact hz
  obtain ⟨e, he⟩ := sortedAll_at s.heap its (List.toArray (PySem.W.sortVals (PySem.W.dataKind (PySem.W.sortingHeap (PySem.W.copyHeap s.heap its) (s.heap.objs.size + 1) its) (zs.map (·.2))) b its its))
  exact ⟨.ref _, upd H (s.heap.objs.size + 1) (.lst ((zs.mergeSort (PySem.W.dataLe b (fun z : V × D => z.2))).map (·.1))), I.laid (t' := s.toks) (fun _ _ e => sortedAll_old e) (Nat.le_succ _) ⟨ol, _, e, ov, he⟩, rfl, q _ _ perm (sort_pw b zs) n0⟩
theorem cr_srtD (hu : X.A.units + 64 < cLine) : CallR X (.builtin "sorted") (rSrtD X.K false) := by
  intro pins s σ H vs us Q I r h
  obtain ⟨a, zs, rfl, hs, hd, ok, q⟩ := h
  obtain rfl := Vals.ref1 r
  exact srtD_run (b := false) (kw := []) hu I hs hd ok (fun κ vs Q h1 h2 h3 h4 => PySem.W.sorted_vals h1 h2 h3 h4) q
theorem cr_srtRD {b : Bool} (hu : X.A.units + 64 < cLine) : CallRK X (.builtin "sorted") [Str.ofString "reverse"] (fun xs zs H Q => zs = [.bl b] ∧ rSrtD X.K b xs H Q) := by
  intro pins s σ H vs zs us ws Q I r rz h
  obtain ⟨rfl, a, zs, rfl, hs, hd, ok, q⟩ := h
  obtain rfl := Vals.ref1 r
  obtain ⟨w1, rfl, e1⟩ := vals1 rz
  obtain rfl : w1 = Value.bool b := e1
  exact srtD_run (b := b) hu I hs hd ok (fun κ vs Q h1 h2 h3 h4 => PySem.W.sorted_rev_vals h1 h2 h3 h4) q
end
/-! ### readings -/
def sortDF (b : Bool) : DF := fun ds P => match ds with
  | [.list xs] => SeqAt.shaped (.list xs) = true ∧ SrtOk xs ∧ xs.length ≤ 16000000 ∧ ∀ ys, ys.Perm xs → ys.Pairwise (ordD b) → P (.tmp (.lst ys))
  | _ => False
theorem zip_unzip : ∀ {vs : List V} {ds : List D}, vs.length = ds.length → (vs.zip ds).map (·.1) = vs ∧ (vs.zip ds).map (·.2) = ds
  | [], [], _ => ⟨rfl, rfl⟩
  | v :: vs, d :: ds, h => by
    obtain ⟨a, b⟩ := zip_unzip (vs := vs) (ds := ds) (by simpa using h)
    exact ⟨by rw [List.zip_cons_cons, List.map_cons, a], by rw [List.zip_cons_cons, List.map_cons, b]⟩
theorem dd_of_zip {p : Pm} {I : Hp} : ∀ {zs : List (V × D)}, (∀ z ∈ zs, Dd p I z.1 z.2) → DdAll p I (zs.map (·.1)) (zs.map (·.2))
  | [], _ => .nil
  | z :: zs, h => .cons (h z (by simp)) (dd_of_zip fun y hy => h y (by simp [hy]))
theorem zip_dd {p : Pm} {I : Hp} : ∀ {vs : List V} {ds : List D}, DdAll p I vs ds → ∀ z ∈ vs.zip ds, Dd p I z.1 z.2
  | _, _, .nil, z, h => by simp at h
  | _, _, .cons r rs, z, h => by
    rw [List.zip_cons_cons] at h
    rcases List.mem_cons.mp h with rfl | h
    · exact r
    · exact zip_dd rs z h
theorem s_sortD {p : Pm} {b : Bool} : CallS p (rSrtD p.K b) (sortDF b) := by
  intro F I H σ ρ vs ds P Q R r f k
  unfold sortDF at f
  split at f
  · rename_i xs
    obtain ⟨sh, ok, hl, f⟩ := f
    obtain ⟨v, rfl, rv⟩ := args1 r
    obtain ⟨a, ws, rfl, e1, rd⟩ := rv.list R.sub
    obtain ⟨z1, z2⟩ := zip_unzip rd.length
    refine ⟨a, ws.zip xs, rfl, by rw [z1]; exact SqL.of e1, ?_, by rw [z2]; exact ok, fun zs' q hp hs hq => ?_⟩
    · rw [z1, z2]
      have c := SeqAt.canLay_of_shaped sh
      exact DdAll.dp0 (DdAll.mono R.sub rd) (by simpa [PyData.canLay0] using c)
    · have hd := dd_of_zip (zs := zs') fun z hz => zip_dd rd z (hp.mem_iff.mp hz)
      have hp2 : (zs'.map (·.2)).Perm xs := by
        have := hp.map (·.2)
        rw [z2] at this
        exact this
      exact k.lst R (f _ hp2 hs) hd hq
  · exact f.elim
section
variable {X : Cx} {G : V → Nat → Option Addr → Prop} {W : WX} {a : Expr} {g : DA} {pos pos' kp1 kp2 : Pos}
theorem e_sortD (hu : X.A.units + 64 < cLine) (hg : Gl X "sorted") (hm : X.mg "sorted" = none) (ha : PAd X G W [a] g) (he : starEach [a] X.env = (false, eval a X.env) :: starEach [] X.env := by rfl) (hpl : (backTo pos (starEach [] X.env)).any (·.1) = false := by rfl) :
    PEd X G W (.Call (.Name "sorted" pos') [a] [] pos) (dCB (sortDF false) g) := e_cb (cr_srtD hu) s_sortD hg hm (by decide +kernel) ha (he := he) (hpl := hpl)
theorem e_sortRD {j : Nat} (hu : X.A.units + 64 < cLine) (hg : Gl X "sorted") (hm : X.mg "sorted" = none) (ha : PAd X G W [a] g)
    (he : backTo pos (starEach [a] X.env) = (false, eval a X.env) :: backTo pos (starEach [] X.env) := by rfl) (hpl : (backTo pos (starEach [a] X.env)).any (·.1) = false := by rfl)
    (hall : (backToKw pos (keywordEach [⟨some "reverse", .Constant (.bool true) j kp1, kp2⟩] X.env)).all (·.1.isSome) = true := by rfl) (hnone : (backToKw pos (keywordEach [⟨some "reverse", .Constant (.bool true) j kp1, kp2⟩] X.env)).any (·.1.isNone) = false := by rfl)
    (hks : (backToKw pos (keywordEach [⟨some "reverse", .Constant (.bool true) j kp1, kp2⟩] X.env)).filterMap (·.1) = [Str.ofString "reverse"] := by rfl) :
    PEd X G W (.Call (.Name "sorted" pos') [a] [⟨some "reverse", .Constant (.bool true) j kp1, kp2⟩] pos) (dCB (sortDF true) g) :=
  PE.weak (pe_callBK (cr_srtRD (b := true) hu) hg hm (by decide +kernel) ha (pk_cons pe_bl pk_nil) (by decide) (by decide) he hpl hall hnone hks) fun σ H Q q => by
    obtain ⟨F, I, ρ, P, PX, R, f1, k, x⟩ := q
    refine ⟨F, I, ρ, _, PX, R, f1, fun os ρ1 vs F1 I1 H1 f2 s1 R1 r1 => ?_, x⟩
    obtain ⟨ds, e, f3⟩ := vwsK_of f2
    exact ⟨rfl, s_sortD F1 I1 H1 σ ρ1 vs ds _ Q R1 (vws_ok R1 r1 e) f3 fun o v' I' H' h s' R' r' => k o ρ1 v' F1 I' H' h (s1.trans s') R' (r'.older fun b e => s1.old e)⟩
end
end Dt

/-! # Dt: one to one and onto -/
namespace Dt
open PySem PySem.Spec PyProof.Rows L2
theorem dataLt_self (d : D) : PySem.W.dataLt d d = false := PyProof.Rows.lex_irrefl _
theorem sorted_unique {α : Type} (lt : α → α → Bool) : ∀ {ys zs : List α}, ys.Perm zs → ys.Pairwise (fun x y => lt x y = false) → zs.Pairwise (fun x y => lt y x = true) → (∀ x, lt x x = false) → ys = zs
  | [], zs, p, _, _, _ => (List.nil_perm.mp p).symm ▸ rfl
  | y :: ys, [], p, _, _, _ => absurd (List.perm_nil.mp p) (by simp)
  | y :: ys, z :: zs, p, h1, h2, hr => by
    obtain ⟨a1, a2⟩ := List.pairwise_cons.mp h1
    obtain ⟨b1, b2⟩ := List.pairwise_cons.mp h2
    have e : y = z := by
      rcases List.mem_cons.mp (p.mem_iff.mp (List.mem_cons_self (a := y) (l := ys))) with e | hy
      · exact e
      · rcases List.mem_cons.mp (p.mem_iff.mpr (List.mem_cons_self (a := z) (l := zs))) with e | hz
        · exact e.symm
        · have q1 := a1 z hz
          have q2 := b1 y hy
          rw [q1] at q2; cases q2
    subst e
    rw [sorted_unique lt ((List.perm_cons y).mp p) a2 b2 hr]
section
variable {r s : List Heap1} {n N : Nat} {h : Heap1}
def endH (r s : List Heap1) (h : Heap1) : Heap1 := (endP r s h).2.1
theorem kept_in (hh : isHeap h) (hs : h.sum = (n : Int)) (hf : firstN r h = none) (hn : n ≤ 24) : h ∈ keptL r n :=
  List.mem_filter.mpr ⟨pts_all (by omega) hs (fun x hx => ⟨hh.2 x hx, by have := (sum_ge hh.2).2 x hx; omega⟩) hh.1, first_keep.mp hf⟩
theorem end_in (M : Mates N r s) (hn : n ≤ 24) (hh : h ∈ keptL r n) : endH r s h ∈ keptL s n ∧ endH s r (endH r s h) = h := by
  obtain ⟨h1, h2, h3⟩ := kept_at hh
  obtain ⟨g, e1, e2, e3, e4, e5⟩ := walk_back (s := s) M h1 h3
  have e : endH r s h = g := by unfold endH; rw [e1]
  rw [e]
  exact ⟨kept_in e2 (by omega) e4 hn, by unfold endH; rw [e5]⟩
theorem kept_desc (r : List Heap1) (n : Nat) : (keptL r n).Pairwise fun a b => ltL b a = true := (pts_desc 26 n n).filter _
theorem kept_nodup (r : List Heap1) (n : Nat) : (keptL r n).Nodup := (kept_desc r n).imp fun {a b} e z => by
  subst z
  rw [ltL_irr] at e; cases e
theorem ends_perm (M : Mates N r s) (hn : n ≤ 24) : ((keptL r n).map (endH r s)).Perm (keptL s n) := by
  have nd : ((keptL r n).map (endH r s)).Nodup := by
    unfold List.Nodup
    rw [List.pairwise_map]
    refine List.Pairwise.imp_of_mem (fun {a b} ha hb hab he => hab ?_) (kept_nodup r n)
    rw [← (end_in M hn ha).2, he, (end_in M hn hb).2]
  refine (List.perm_ext_iff_of_nodup nd (kept_nodup s n)).mpr fun g => ⟨fun hg => ?_, fun hg => ?_⟩
  · obtain ⟨h, hh, rfl⟩ := List.mem_map.mp hg
    exact (end_in M hn hh).1
  · have := end_in M.symm hn hg
    exact List.mem_map.mpr ⟨_, this.1, this.2⟩
theorem kept_as_many (M : Mates N r s) (hn : n ≤ 24) : (keptL r n).length = (keptL s n).length := by
  have := (ends_perm M hn).length_eq
  rw [List.length_map] at this
  exact this
theorem ends_sorted (M : Mates N r s) (hn : n ≤ 24) {ys : List D} (p : ys.Perm ((keptL r n).map fun h => hD (endH r s h))) (o : ys.Pairwise (ordD true)) : ys = (keptL s n).map hD := by
  have p2 : ys.Perm ((keptL s n).map hD) := p.trans (by
    have := (ends_perm M hn).map hD
    rw [List.map_map] at this
    exact this)
  refine sorted_unique PySem.W.dataLt p2 (o.imp fun {a b} z => ?_) ?_ dataLt_self
  · unfold ordD at z
    rw [if_pos rfl] at z
    exact z
  · rw [List.pairwise_map]
    exact (kept_desc s n).imp fun {a b} z => by rw [dataLt_heap]; exact z
theorem alike_heap (a b : Heap1) : PySem.W.alike (hD a) (hD b) = true := by
  show PySem.W.alike (.tuple _) (.tuple _) = true
  rw [PySem.W.alike]; exact alike_ints a b
theorem dataLt_hp {a b : Heap1 × Heap1} (h : ltL a.1 b.1 = true) : PySem.W.dataLt (hpD a) (hpD b) = true := by
  show PySem.W.dataLt (.tuple [hD a.1, hD a.2]) (.tuple [hD b.1, hD b.2]) = true
  rw [PySem.W.dataLt_pair (alike_heap _ _) (alike_heap _ _), eqv_H, if_neg, dataLt_heap]
  · exact h
  · rw [decide_eq_true_iff]
    intro z
    rw [z, ltL_irr] at h; cases h
theorem meets_sorted (M : Mates N r s) (hn : n ≤ 24) {ys : List D} (p : ys.Perm ((keptL r n).map fun h => hpD (endH r s h, h))) (o : ys.Pairwise (ordD true)) : ys = (keptL s n).map fun g => hpD (g, endH s r g) := by
  have e0 : ((keptL r n).map fun h => hpD (endH r s h, h)) = ((keptL r n).map (endH r s)).map fun g => hpD (g, endH s r g) := by
    rw [List.map_map]
    refine List.map_congr_left fun h hh => ?_
    show hpD (endH r s h, h) = hpD (endH r s h, endH s r (endH r s h))
    rw [(end_in M hn hh).2]
  have p2 : ys.Perm ((keptL s n).map fun g => hpD (g, endH s r g)) := p.trans (by rw [e0]; exact (ends_perm M hn).map _)
  refine sorted_unique PySem.W.dataLt p2 (o.imp fun {a b} z => ?_) ?_ dataLt_self
  · unfold ordD at z
    rw [if_pos rfl] at z
    exact z
  · rw [List.pairwise_map]
    exact (kept_desc s n).imp fun {a b} z => dataLt_hp z
end
theorem depth_heap (h : Heap1) : PyData.depth (hD h) ≤ 2 := by
  have := depth_ints h
  show PyData.depth (.tuple _) ≤ 2
  simp only [PyData.depth]
  omega
theorem srtOk_heaps {hs : List Heap1} (h : (∀ g ∈ hs, g ≠ []) ∨ hs.length ≤ 1) : SrtOk (hs.map hD) := by
  refine ⟨PySem.W.AllAlike.of fun a b => alike_heap a b, ?_, fun d hd => ?_⟩
  · rcases h with h | h
    · refine .inl (.inl fun d hd => ?_)
      obtain ⟨g, hg, rfl⟩ := List.mem_map.mp hd
      cases g with
      | nil => exact absurd rfl (h _ hg)
      | cons x t => exact ⟨_, _, rfl⟩
    · refine .inr ⟨by rw [List.length_map]; exact h, fun d hd => ?_⟩
      obtain ⟨g, hg, rfl⟩ := List.mem_map.mp hd
      intro z; cases z
  · obtain ⟨g, hg, rfl⟩ := List.mem_map.mp hd
    have := depth_heap g
    omega
theorem srtOk_hps (ps : List (Heap1 × Heap1)) : SrtOk (ps.map hpD) := by
  refine ⟨PySem.W.AllAlike.of fun a b => ?_, .inl (PySem.W.Sortable.tuples fun a => ⟨_, _, rfl⟩), fun d hd => ?_⟩
  · show PySem.W.alike (.tuple [_, _]) (.tuple [_, _]) = true
    rw [PySem.W.alike, PySem.W.alikeAll, PySem.W.alikeAll, alike_heap, alike_heap]
    rfl
  · obtain ⟨g, hg, rfl⟩ := List.mem_map.mp hd
    have a := depth_ints g.1
    have b := depth_ints g.2
    show PyData.depth (.tuple [.tuple _, .tuple _]) ≤ 50
    simp only [PyData.depth, PyData.depthAll]
    omega
end Dt

/-! # Dt: enumerate(xs, start=1) -/
namespace Dt
open PySem PySem.Spec PyProof.Rows L2
section
variable {M : Model} {A : Around} {E : Value → Shared → Prop} {s : Shared}
/-- a built-in class called with keywords -/
theorem callTy_kw {pos : Pos} {T : String} {args : List (Bool × Sem Value)} {keywords : List (Option Str × Sem Value)} {Q : Value → Shared → Prop} (h1 : args.any (·.1) = false) (h2 : keywords.any (·.1.isNone) = false)
    (h : wpAny M A (evalArgs (.type T) true args keywords) (fun a s₁ => wpAny M A (call (.type T) ([] ++ a.pos) a.kw) Q E s₁) E s) : wpAny M A (callWith pos (.type T) [] args keywords) Q E s := by
  unfold callWith
  refine wpAny_bind (wpAny_holding (wpAny_mono h (fun a s₁ q => wpAny_bind (wpAny_standAt ?_)) fun _ _ x => x))
  simp only [h1, h2, Bool.or_false]
  refine wpAny_bind (wpAny_pure ?_)
  exact wpAny_bind (wpAny_mono q (fun r s₂ hr => wpAny_bind (wpAny_holding (wpAny_point (wpAny_pure hr)))) fun _ _ x => x)
end
section
variable {X : Cx} {e : Expr} {ta : TA} {p pos tpos kp1 kp2 : Pos} {elts : List Expr} {kk j : Nat}
def iEnS1 (K : PySem.W.Frag) (ta : TA) : TI := fun σ H R => ta σ H fun vs H1 => ∃ a xs b, vs = [.ref a] ∧ SqK K H1 b a xs ∧ R (IteS K b 1 a) H1
theorem pi_enS1 (hg : Gl X "enumerate") (hm : X.mg "enumerate" = none) (ha : PA X [e] ta) (hs : starEach [e] X.env = (false, eval e X.env) :: starEach [] X.env := by rfl)
    (hall : (backToKw pos (keywordEach [⟨some "start", .Constant (.int 1) j kp1, kp2⟩] X.env)).all (·.1.isSome) = true := by rfl) (hnone : (backToKw pos (keywordEach [⟨some "start", .Constant (.int 1) j kp1, kp2⟩] X.env)).any (·.1.isNone) = false := by rfl)
    (hks : (backToKw pos (keywordEach [⟨some "start", .Constant (.int 1) j kp1, kp2⟩] X.env)).filterMap (·.1) = [Str.ofString "start"] := by rfl) (hpl : (backTo pos (starEach [e] X.env)).any (·.1) = false := by rfl) :
    PI X (.Tuple elts kk tpos) (.Call (.Name "enumerate" p) [e] [⟨some "start", .Constant (.int 1) j kp1, kp2⟩] pos) (iEnS1 X.K ta) := by
  refine ⟨fun pins s σ H R J h => wpAny_Call_Name_kw (ld_blt J hg hm boot_enumerate ?_)⟩
  refine callTy_kw hpl hnone ?_
  refine evalArgs_kw2 hall (thn (ha.run pos pins s σ H _ J h) fun us s1 ⟨vs, H1, I1, r1, q1⟩ => ?_) hs
  refine thn ((pk_cons (nm := some "start") (kpos := kp2) (pe_int (i := 1)) pk_nil).run pos pins s1 σ H1 (fun zs H2 => zs = [.int 1] ∧ H2 = H1) I1 ⟨rfl, rfl⟩) fun ws s2 ⟨zs, H2, I2, r2, q2⟩ => ?_
  obtain ⟨rfl, rfl⟩ := q2
  obtain ⟨w1, rfl, t1, rfl⟩ := vals1 r2
  rw [hks]
  obtain ⟨a, xs, b, rfl, hq, q⟩ := q1
  cases r1 with
  | cons r rr =>
    cases rr
    cases r
    obtain ⟨its, rv, p', hz⟩ := Inv.sq I2 hq
    have la := isSq_lt p'
    show wpAny (model X.prog X.w) X.A (call (.type "enumerate") [.ref a] [(Str.ofString "start", .int 1 t1)]) _ _ _
    refine enum_begins_start (sqBegins b a its.toArray) p' (by decide) (by decide) fun h' he hit hsz hk => wpAny_pyIter_enum he ?_
    have I3 : L2.Inv X pins σ H2 { s2 with heap := h' } := I2.kept (t' := s2.toks) hk
    refine ⟨s2.heap.objs.size + 1, [s2.heap.objs.size + 1, s2.heap.objs.size], _, _, H2, rfl, I3, turn_enumS b 1 a (s2.heap.objs.size + 1) s2.heap.objs.size (Nat.ne_of_lt la) (Nat.ne_of_lt (Nat.lt_succ_of_lt la)) (Nat.succ_ne_self _), ⟨⟨.none, he⟩, itSq_new hit⟩, fun c hc => ?_, q⟩
    have hle : s2.heap.objs.size ≤ c := by
      rcases (by simpa using hc : c = s2.heap.objs.size + 1 ∨ c = s2.heap.objs.size) with z | z
      · rw [z]; exact Nat.le_add_right _ _
      · rw [z]; exact Nat.le_refl _
    exact I2.fpOk hle (I2.hok.fresh hle)
end
def dItE1 (g : DA) : DI := fun ρ P PX => g ρ (fun os ρ1 => match os with
  | [o] => getK (sqO o) fun ds => P (pairD 1 0 ds) ρ1
  | _ => False) PX
section
variable {p : Pm} {F F' : Lab} {I I' H0 H H' : Hp} {σ : L2.St} {ρ : Rho} {v : V} {o : O} {ds : List D}
theorem itw_enum1 {b : Bool} {a : Addr} {vs : List V} (h : ∀ F' I' H', Step F I H F' I' H' → Same I' H' → SqK p.K H' b a vs) (r : DdAll p I vs ds) (z : vs.length ≤ sizeLine) : ItW p false (IteS p.K b 1 a) F I H (pairD 1 0 ds) where
  ex := by
    refine ⟨fun H => SqK p.K H b a vs, YPair (fun i => some (.int (1 + ((i : Nat) : Int)))) (fun i => vs[i]?), ?_, h, fun i H1 x H2 hi hy F1 I1 s1 s2 hl => ?_⟩
    · rw [pairD_len, ← r.length]
      exact ⟨fun i H hi hg => ⟨vs, _, hg, List.getElem?_eq_getElem hi⟩, fun H hg => ⟨vs, hg, rfl⟩, fun i H x H' hi hg ⟨T, y, e1, e2, e3, e4⟩ => ⟨T, _, y, e1, e2, e3, rfl, e4 vs hg⟩⟩
    · obtain ⟨T, x1, y, rfl, hT, rfl, e1, e2⟩ := hy
      cases e1
      obtain ⟨d, h1, h2⟩ := r.getV e2
      refine ⟨I1, _, pairD_get 1 0 ds i d h1, same_upd hT, fun _ _ e => e, fun c y e => same_upd hT _ _ (s2 _ _ e), fun _ e => .inl e, ?_⟩
      have e0 : (1 : Int) + ((0 + i : Nat) : Int) = 1 + ((i : Nat) : Int) := by simp
      rw [e0]
      exact item_pair (.int _) (Dd.mono s1.inc h2)
  big := by rw [pairD_len, ← r.length]; exact z
end
section
variable {X : Cx} {G : V → Nat → Option Addr → Prop} {W : WX} {e : Expr} {g : DA} {p pos tpos kp1 kp2 : Pos} {elts : List Expr} {kk j : Nat}
theorem i_enum1 (hg : Gl X "enumerate") (hm : X.mg "enumerate" = none) (ha : PAd X G W [e] g) (hs : starEach [e] X.env = (false, eval e X.env) :: starEach [] X.env := by rfl)
    (hall : (backToKw pos (keywordEach [⟨some "start", .Constant (.int 1) j kp1, kp2⟩] X.env)).all (·.1.isSome) = true := by rfl) (hnone : (backToKw pos (keywordEach [⟨some "start", .Constant (.int 1) j kp1, kp2⟩] X.env)).any (·.1.isNone) = false := by rfl)
    (hks : (backToKw pos (keywordEach [⟨some "start", .Constant (.int 1) j kp1, kp2⟩] X.env)).filterMap (·.1) = [Str.ofString "start"] := by rfl) (hpl : (backTo pos (starEach [e] X.env)).any (·.1) = false := by rfl) :
    PId X G W false (.Tuple elts kk tpos) (.Call (.Name "enumerate" p) [e] [⟨some "start", .Constant (.int 1) j kp1, kp2⟩] pos) (dItE1 g) := PI.weak (pi_enS1 hg hm ha hs hall hnone hks hpl) fun σ H R q => by
  obtain ⟨F, I, ρ, P, PX, RR, f1, k, x⟩ := q
  refine ⟨F, I, ρ, _, PX, RR, f1, fun os ρ1 vs F1 I1 H1 f2 s1 R1 r1 => ?_, x⟩
  split at f2
  · obtain ⟨ds, e, f2⟩ := getK_of f2
    cases r1 with
    | cons r rr =>
      cases rr
      obtain ⟨b, a, ws, rfl, hq, hd, hb, hst⟩ := sq_src R1 r e
      exact ⟨a, ws, b, rfl, hq, fun big => k _ ρ1 F1 I1 H1 _ f2 s1 R1 (itw_enum1 hst hd (big_src big hb))⟩
  · exact f2.elim
end
end Dt

/-! # Dt: dicts whose keys are tuples (of ints, and of such tuples) -/
namespace Dt
open PySem PySem.Spec PyProof.Rows L2
mutual
def nkOf : D → Option NK
  | .int i => some (.num i)
  | .tuple ds => (nksOf ds).map .tup
  | _ => none
def nksOf : List D → Option (List NK)
  | [] => some []
  | d :: ds => match nkOf d with
    | some k => (match nksOf ds with
      | some ks => some (k :: ks)
      | none => none)
    | none => none
end
mutual
theorem nk_v {p : Pm} {I : Hp} : ∀ {v : V} {d : D} {k : NK}, Dd p I v d → nkOf d = some k → NkV I v k
  | _, _, _, .non, h => by unfold nkOf at h; cases h
  | _, _, _, .bl b, h => by unfold nkOf at h; cases h
  | _, _, _, .int i, h => by unfold nkOf at h; cases h; exact .int i
  | _, _, _, .str x, h => by unfold nkOf at h; cases h
  | _, _, _, .lst _ _, h => by unfold nkOf at h; cases h
  | _, _, _, .tup g z hs, h => by
    unfold nkOf at h
    obtain ⟨ks, e, rfl⟩ := Option.map_eq_some_iff.mp h
    exact .tup g (nks_v hs e)
  | _, _, _, .ins _ _ _, h => by unfold nkOf at h; cases h
  | _, _, _, .dic _ _, h => by unfold nkOf at h; cases h
theorem nks_v {p : Pm} {I : Hp} : ∀ {vs : List V} {ds : List D} {ks : List NK}, DdAll p I vs ds → nksOf ds = some ks → NkVs I vs ks
  | _, _, _, .nil, h => by unfold nksOf at h; cases h; exact .nil
  | _, _, _, .cons r rs, h => by
    unfold nksOf at h
    split at h
    · rename_i k e
      split at h
      · rename_i ks e2
        cases h
        exact .cons (nk_v r e) (nks_v rs e2)
      · cases h
    · cases h
end
theorem nks_map {α : Type} {f : α → D} {g : α → NK} (h : ∀ a, nkOf (f a) = some (g a)) : ∀ xs : List α, nksOf (xs.map f) = some (xs.map g)
  | [] => by unfold nksOf; rfl
  | x :: xs => by rw [List.map_cons, nksOf, h x, nks_map h xs]; rfl
/-- heaps and pairs of heaps as keys -/
def nkH (h : Heap1) : NK := .tup (h.map NestedKey.num)
def nkP (q : Heap1 × Heap1) : NK := .tup [nkH q.1, nkH q.2]
theorem nkOf_H (h : Heap1) : nkOf (hD h) = some (nkH h) := by
  show nkOf (.tuple (h.map PyData.int)) = _
  rw [nkOf, nks_map (g := NestedKey.num) (fun i => by unfold nkOf; rfl) h]
  rfl
theorem nkOf_P (q : Heap1 × Heap1) : nkOf (hpD q) = some (nkP q) := by
  show nkOf (.tuple [hD q.1, hD q.2]) = _
  rw [nkOf, nksOf, nkOf_H, nksOf, nkOf_H, nksOf]
  rfl
theorem depth_nums : ∀ h : Heap1, NestedKey.depthAll (h.map NestedKey.num) = 0
  | [] => by unfold NestedKey.depthAll; rfl
  | x :: h => by rw [List.map_cons, NestedKey.depthAll, depth_nums h, NestedKey.depth]; rfl
theorem depth_nkH (h : Heap1) : (nkH h).depth = 1 := by unfold nkH; rw [NestedKey.depth, depth_nums]
theorem depth_nkP (q : Heap1 × Heap1) : (nkP q).depth = 2 := by unfold nkP; rw [NestedKey.depth, NestedKey.depthAll, NestedKey.depthAll, NestedKey.depthAll, depth_nkH, depth_nkH]; rfl
theorem numInj : ∀ a b : Heap1, a.map NestedKey.num = b.map NestedKey.num → a = b
  | [], [], _ => rfl
  | [], _ :: _, e => by simp at e
  | _ :: _, [], e => by simp at e
  | x :: a, y :: b, e => by
    rw [List.map_cons, List.map_cons] at e
    injection e with e1 e2
    injection e1 with e1
    rw [e1, numInj a b e2]
theorem nkH_inj {a b : Heap1} : nkH a = nkH b ↔ a = b := by
  refine ⟨fun e => ?_, fun e => by rw [e]⟩
  unfold nkH at e
  injection e with e
  exact numInj a b e
theorem nkP_inj {a b : Heap1 × Heap1} : nkP a = nkP b ↔ a = b := by
  refine ⟨fun e => ?_, fun e => by rw [e]⟩
  unfold nkP at e
  injection e with e
  injection e with e1 e2
  injection e2 with e2 _
  exact Prod.ext (nkH_inj.mp e1) (nkH_inj.mp e2)
@[irreducible] def nkK (d : D) (f : NK → Prop) : Prop := ∃ ds k, d = .tuple ds ∧ nkOf d = some k ∧ k.depth ≤ 8 ∧ f k
theorem nkK_H {h : Heap1} {f : NK → Prop} (q : f (nkH h)) : nkK (hD h) f := by unfold nkK; exact ⟨_, _, rfl, nkOf_H h, by rw [depth_nkH]; omega, q⟩
theorem nkK_P {p : Heap1 × Heap1} {f : NK → Prop} (q : f (nkP p)) : nkK (hpD p) f := by unfold nkK; exact ⟨_, _, rfl, nkOf_P p, by rw [depth_nkP]; omega, q⟩
theorem nkK_of {d : D} {f : NK → Prop} (h : nkK d f) : ∃ ds k, d = .tuple ds ∧ nkOf d = some k ∧ k.depth ≤ 8 ∧ f k := by unfold nkK at h; exact h
/-! ### what such a dict holds -/
def valN (kvs : List (NK × D)) (k : NK) : Option D := (kvs.find? fun q => decide (q.1 = k)).map (·.2)
def putN (kvs : List (NK × D)) (k : NK) (d : D) : List (NK × D) := if (kvs.any fun q => decide (q.1 = k)) = true then kvs.map fun q => if q.1 = k then (q.1, d) else q else kvs ++ [(k, d)]
section
variable {p : Pm} {F F' : Lab} {I I' H H' H0 : Hp} {σ : L2.St} {ρ : Rho} {v w : V} {o : O}
theorem KN.val {xs : List (NK × Addr × V)} {kvs : List (NK × D)} (h : KN p I xs kvs) (k : NK) : (∀ d, valN kvs k = some d → ∃ v, valX xs k = some v ∧ Dd p I v d) ∧ (valN kvs k = none → valX xs k = none) := by
  induction h with
  | nil => exact ⟨fun d e => by simp [valN] at e, fun _ => rfl⟩
  | cons r rs ih =>
    rename_i x q xs kvs
    unfold valN valX at ih ⊢
    rw [List.find?_cons, List.find?_cons]
    by_cases e : x.1 = k
    · rw [decide_eq_true e, decide_eq_true (r.1 ▸ e)]
      exact ⟨fun d z => by cases z; exact ⟨_, rfl, r.2.2.2⟩, fun z => by cases z⟩
    · rw [decide_eq_false e, decide_eq_false (r.1 ▸ e)]
      exact ih
theorem KN.any {xs : List (NK × Addr × V)} {kvs : List (NK × D)} (h : KN p I xs kvs) (k : NK) : (xs.any fun x => decide (x.1 = k)) = (kvs.any fun q => decide (q.1 = k)) := by
  induction h with
  | nil => rfl
  | cons r rs ih => rw [List.any_cons, List.any_cons, ih, r.1]
theorem KN.put {xs : List (NK × Addr × V)} {kvs : List (NK × D)} (h : KN p I xs kvs) {k : NK} {b : Addr} {d : D} (hk : NkV I (.ref b) k) (h8 : k.depth ≤ 8) (r : Dd p I v d) : KN p I (putX xs k b v) (putN kvs k d) := by
  unfold putX putN
  rw [h.any k]
  split
  · induction h with
    | nil => exact .nil
    | cons r' rs ih =>
      rename_i e x q xs kvs
      refine .cons ?_ ?_
      · dsimp only
        by_cases e : x.1 = k
        · rw [if_pos e, if_pos (r'.1 ▸ e)]
          exact ⟨r'.1, r'.2.1, r'.2.2.1, r⟩
        · rw [if_neg e, if_neg (r'.1 ▸ e)]
          exact r'
      · have go : ∀ {xs : List (NK × Addr × V)} {kvs : List (NK × D)}, KN p I xs kvs → KN p I (xs.map fun x => if x.1 = k then (x.1, x.2.1, v) else x) (kvs.map fun q => if q.1 = k then (q.1, d) else q) := by
          intro xs kvs h
          induction h with
          | nil => exact .nil
          | cons r' rs ih =>
            rename_i x q xs kvs
            refine .cons ?_ ih
            dsimp only
            by_cases e : x.1 = k
            · rw [if_pos e, if_pos (r'.1 ▸ e)]
              exact ⟨r'.1, r'.2.1, r'.2.2.1, r⟩
            · rw [if_neg e, if_neg (r'.1 ▸ e)]
              exact r'
        exact go rs
  · have app : ∀ {xs : List (NK × Addr × V)} {kvs : List (NK × D)}, KN p I xs kvs → KN p I (xs ++ [(k, b, v)]) (kvs ++ [(k, d)]) := by
      intro xs kvs h
      induction h with
      | nil => exact .cons ⟨rfl, hk, h8, r⟩ .nil
      | cons r' rs ih => exact .cons r' ih
    exact app h
theorem KN.dict {xs : List (NK × Addr × V)} {kvs : List (NK × D)} (h : KN p I xs kvs) (s : Same I H) {a : Addr} (e : H a = some (nkO a xs)) : NkD H a xs := by
  refine ⟨e, fun x hx => ?_⟩
  clear e
  induction h with
  | nil => simp at hx
  | cons r rs ih =>
    rcases List.mem_cons.mp hx with rfl | hx
    · exact ⟨r.2.1.keep fun a o xs h => s a _ h, r.2.2.1⟩
    · exact ih hx
def dcnK (ρ : Rho) (o : O) (k : Nat → List (NK × D) → Prop) : Prop := match o with
  | .loc j => (match cst ρ j with
    | some (.dcN kvs) => k j kvs
    | _ => False)
  | _ => False
theorem dcnK_of {k : Nat → List (NK × D) → Prop} (h : dcnK ρ o k) : ∃ j kvs, o = .loc j ∧ cst ρ j = some (.dcN kvs) ∧ k j kvs := by
  unfold dcnK at h
  split at h
  · split at h
    · exact ⟨_, _, rfl, by assumption, h⟩
    · exact h.elim
  · exact h.elim
theorem dcn_ok (R : Rel p F I H σ ρ) {j : Nat} {kvs : List (NK × D)} (r : ResOk p F I H0 H σ v (.loc j)) (h : cst ρ j = some (.dcN kvs)) : ∃ a xs, v = .ref a ∧ NkD H a xs ∧ KN p I xs kvs ∧ H a = some (nkO a xs) := by
  obtain ⟨a, e, fp, ⟨_, xs, h1, h2⟩, _⟩ := R.cst r h
  exact ⟨a, xs, e, h2.dict R.sub h1, h2, h1⟩
/-- slot j's object of one address is rewritten -/
theorem mutX_ok {j : Nat} {a : Addr} {c c' : C} {u : HO} (R : Rel p F I H σ ρ) (e : σ[j]? = some (some (.ref a))) (hc : cst ρ j = some c) (h1 : ∀ fp, OwnAt p I H a fp c → fp = [a]) (r : OwnAt p I (upd H a u) a [a] c') :
    Rel p F I (upd H a u) σ (putC ρ j c') ∧ Step F I H F I (upd H a u) := by
  obtain ⟨a', q, fp, g1, g3⟩ := R.cst e hc
  cases q
  obtain rfl := h1 fp g1
  obtain ⟨f1, f2, _, f4⟩ := g3 a (by simp)
  have hi : ∀ b y, I b = some y → b ≠ a := fun b y z q => by rw [q, f2] at z; cases z
  have hne : ∀ b i, F b = some i → i ≠ j → b ≠ a := fun b i z n q => by rw [q, f1] at z; cases z; exact n rfl
  have th : ∀ b, H b ≠ none → (upd H a u) b ≠ none := fun b z => by
    by_cases hb : b = a
    · subst hb; rw [upd_same]; simp
    · rw [upd_ne hb]; exact z
  have own : Own p F I (upd H a u) (some j) (fun _ => True) a c' := ⟨[a], r, fun b hb => by
    have e : b = a := by simpa using hb
    subst e
    exact ⟨f1, f2, trivial, by rw [upd_same]; simp⟩⟩
  have hp : ∃ s, putC ρ j c' = ρ.set j (some s) ∧ SlotOk p F I (upd H a u) j (.ref a) s := by
    unfold cst at hc
    split at hc
    · rename_i q
      exact ⟨.own c', by unfold putC; rw [q], a, rfl, own⟩
    · rename_i a0 c0 q
      obtain ⟨u, y1, y2, _⟩ := R.slot j _ q
      rw [e] at y1; cases y1; cases y2
      exact ⟨.lent a c', by unfold putC; rw [q], rfl, own⟩
    · cases hc
  obtain ⟨s, hp, hs⟩ := hp
  refine ⟨⟨fun b y z => by rw [upd_ne (hi b y z)]; exact R.sub b y z, fun b i z => ⟨(R.lab b i z).1, th b (R.lab b i z).2⟩, by rw [hp, List.length_set]; exact R.len, fun i sl z => ?_⟩,
    ⟨fun b y z n => by rw [upd_ne (fun q => by rw [q, f1] at n; cases n)]; exact z, fun _ _ z => z, fun _ z => .inl z, fun _ _ z => .inl z, th⟩⟩
  rw [hp] at z
  by_cases hij : j = i
  · subst hij
    have hj : j < ρ.length := by rw [R.len]; exact (List.getElem?_eq_some_iff.mp e).1
    rw [List.getElem?_set_self hj] at z
    cases z
    exact ⟨_, e, hs⟩
  · rw [List.getElem?_set_ne hij] at z
    obtain ⟨u', h1, h2⟩ := R.slot i sl z
    refine ⟨u', h1, ?_⟩
    have ow : ∀ {b : Addr} {c : C}, Own p F I H (some i) (fun _ => True) b c → Own p F I (upd H a u) (some i) (fun _ => True) b c := fun {b c} ⟨fp, g1, g2⟩ =>
      ⟨fp, g1.keep (fun z hz => upd_ne (hne z i (g2 z hz).1 (fun y => hij y.symm))) (fun _ _ e => e), fun z hz => ⟨(g2 z hz).1, (g2 z hz).2.1, trivial, th z (g2 z hz).2.2.2⟩⟩
    cases sl with
    | d d => exact h2
    | own c => obtain ⟨b, e, h2⟩ := h2; exact ⟨b, e, ow h2⟩
    | lent b c => exact ⟨h2.1, ow h2.2⟩
    | exc x => exact h2
theorem nk_at (R : Rel p F I H σ ρ) {d : D} {ds : List D} {k : NK} (h : Dd1 p I H v d) (e : d = .tuple ds) (hk : nkOf d = some k) : ∃ b, v = .ref b ∧ NkV I (.ref b) k ∧ NkV H (.ref b) k := by
  subst e
  rcases h with h | ⟨_, _, _, _, h, _⟩
  · have q := nk_v h hk
    cases h with
    | tup g z hs => exact ⟨_, rfl, q, q.keep fun a o xs h => R.sub a _ h⟩
  · cases h
end
/-! ### readings -/
def dNNew : DE := fun ρ P _ => P (.tmp (.dcN [])) ρ
def dNIn (neg : Bool) (fb fa : DE) : DE := fun ρ P PX => fb ρ (fun o2 ρ1 => fa ρ1 (fun o ρ2 => vw1 ρ2 o2 fun e => nkK e fun k => dcnK ρ2 o fun _ kvs => P (.d (.bool (if neg then !(valN kvs k).isSome else (valN kvs k).isSome))) ρ2) PX) PX
def dNPut (fe fa fb : DE) : DS := fun E ρ => fe ρ (fun o ρ1 => onlyd1 o fun d => fa ρ1 (fun o2 ρ2 => fb ρ2 (fun o3 ρ3 => vw1 ρ3 o3 fun e => nkK e fun k => dcnK ρ3 o2 fun j kvs => kvs.length ≤ 16000000 ∧ E.nx (putC ρ3 j (.dcN (putN kvs k d)))) E.ex) E.ex) E.ex
def dNGet2 (fa fb fc : DE) : DE := fun ρ P PX => fa ρ (fun o ρ1 => dcnK ρ1 o (fun _ _ => True) ∧ fb ρ1 (fun o2 ρ2 => fc ρ2 (fun o3 ρ3 => onlyd1 o3 fun d0 => vw1 ρ3 o2 fun e => nkK e fun k => dcnK ρ3 o fun _ kvs => P (.d ((valN kvs k).getD d0)) ρ3) PX) PX) PX
def dNLen (fa : DE) : DE := fun ρ P PX => fa ρ (fun o ρ1 => dcnK ρ1 o fun _ kvs => P (.d (.int kvs.length)) ρ1) PX
section
variable {X : Cx} {G : V → Nat → Option Addr → Prop} {W : WX} {pos pos' tpos apos cpos : Pos} {a b c e : Expr} {fa fb fc fe : DE}
theorem e_nnew : PEd X G W (.Dict [] [] pos) dNNew := PE.weak pe_nnew fun σ H Q q => by
  obtain ⟨F, I, ρ, P, PX, R, f1, k, x⟩ := q
  intro a n
  exact Kont.dcN0 (P := fun o => P o ρ) (fun o v' I' H' h s' R' r' => k o ρ v' F I' H' h s' R' r') R f1 n
theorem e_nin0 (neg : Bool) (hb : PEd X G W b fb) (ha : PEd X G W a fa) (σ : L2.St) (H : Hp) (Q : VK) (q : tE (pm X G) W (dNIn neg fb fa) σ H Q) : tNIn neg (tE (pm X G) W fb) (tE (pm X G) W fa) σ H Q := by
  obtain ⟨F, I, ρ, P, PX, R, f1, k, x⟩ := q
  refine ⟨F, I, ρ, _, PX, R, f1, fun o2 ρ1 w F1 I1 H1 f2 s1 R1 r1 => ?_, x⟩
  refine ⟨F1, I1, ρ1, _, PX, R1, f2, fun o ρ2 v F2 I2 H2 f3 s2 R2 r2 => ?_, x.later s1⟩
  obtain ⟨d2, e2, f3⟩ := vw1_of f3
  obtain ⟨ds, kk, e5, e6, h8, f3⟩ := nkK_of f3
  obtain ⟨j, kvs, rfl, e4, f3⟩ := dcnK_of f3
  obtain ⟨a, xs, rfl, nd, kn, _⟩ := dcn_ok R2 r2 e4
  obtain ⟨b, rfl, n1, n2⟩ := nk_at R2 (vw_ok R2 (r1.stay s2) e2) e5 e6
  refine ⟨a, b, xs, kk, rfl, rfl, nd, n2, h8, ?_⟩
  have e7 : (valX xs kk).isSome = (valN kvs kk).isSome := by
    cases q : valN kvs kk with
    | none => rw [(kn.val kk).2 q]; rfl
    | some d => obtain ⟨v, h3, _⟩ := (kn.val kk).1 d q; rw [h3]; rfl
  rw [e7]
  exact k _ ρ2 _ F2 I2 H2 f3 (s1.trans s2) R2 (Dd.bl _)
theorem e_nin (hu : X.A.units + 64 < cLine) (hb : PEd X G W b fb) (ha : PEd X G W a fa) (hm : behindInMarks .In a = false) : PEd X G W (.Compare b [.In] [a] pos) (dNIn false fb fa) := PE.weak (pe_cmp (pc_nin hu hb ha) hm) fun σ H Q q => e_nin0 false hb ha σ H Q q
theorem e_nnotin (hu : X.A.units + 64 < cLine) (hb : PEd X G W b fb) (ha : PEd X G W a fa) (hm : behindInMarks .NotIn a = false) : PEd X G W (.Compare b [.NotIn] [a] pos) (dNIn true fb fa) := PE.weak (pe_cmp (pc_nnotin hu hb ha) hm) fun σ H Q q => e_nin0 true hb ha σ H Q q
theorem t_nin (hu : X.A.units + 64 < cLine) (hb : PEd X G W b fb) (ha : PEd X G W a fa) (hm : behindInMarks .In a = false) : PTd X G W (.Compare b [.In] [a] pos) (dBl (dNIn false fb fa)) := PT.weak (pt_cmp (pc_nin hu hb ha) hm) fun σ H Q q => w_bl (fun σ H Q q => e_nin0 false hb ha σ H Q q) σ H Q q
theorem t_nnotin (hu : X.A.units + 64 < cLine) (hb : PEd X G W b fb) (ha : PEd X G W a fa) (hm : behindInMarks .NotIn a = false) : PTd X G W (.Compare b [.NotIn] [a] pos) (dBl (dNIn true fb fa)) := PT.weak (pt_cmp (pc_nnotin hu hb ha) hm) fun σ H Q q => w_bl (fun σ H Q q => e_nin0 true hb ha σ H Q q) σ H Q q
theorem z_nput (hu : X.A.units + 64 < cLine) (he : PEd X G W e fe) (ha : PEd X G W a fa) (hb : PEd X G W b fb) (hs : swapsWith e (some (.Subscript a b tpos)) pos.line X.env = pure false := by rfl) : PSd X G W (.Assign [.Subscript a b tpos] e pos) (dNPut fe fa fb) :=
  PS.weak (ps_nput hu ha hb he hs) fun D σ H q => by
    obtain ⟨F, I, ρ, E, R, f1, k⟩ := q
    have sl : (sizeLine : Nat) = 16777216 := sizeLine_eq
    refine ⟨F, I, ρ, _, E.ex, R, f1, fun o ρ1 v F1 I1 H1 f2 s1 R1 r1 => ?_, k.xend⟩
    obtain ⟨d, rfl, f2⟩ := onlyd1_of f2
    refine ⟨F1, I1, ρ1, _, E.ex, R1, f2, fun o2 ρ2 w F2 I2 H2 f3 s2 R2 r2 => ?_, (k.later s1).xend⟩
    have s12 := s1.trans s2
    refine ⟨F2, I2, ρ2, _, E.ex, R2, f3, fun o3 ρ3 u F3 I3 H3 f4 s3 R3 r3 => ?_, (k.later s12).xend⟩
    obtain ⟨d3, e3, f4⟩ := vw1_of f4
    obtain ⟨ds, kk, e5, e6, h8, f4⟩ := nkK_of f4
    obtain ⟨j, kvs, rfl, e4, hl, f4⟩ := dcnK_of f4
    obtain ⟨a, xs, rfl, nd, kn, ea⟩ := dcn_ok R3 (ResOk.stay r2 s3) e4
    obtain ⟨b, rfl, n1, n2⟩ := nk_at R3 (vw_ok R3 r3 e3) e5 e6
    have r1' : Dd (pm X G) I3 v d := Dd.mono (s2.trans s3).inc r1
    obtain ⟨R4, s4⟩ := mutX_ok (c := .dcN kvs) (c' := .dcN (putN kvs kk d)) (u := nkO a (putX xs kk b v)) R3 r2 e4 (fun fp h => h.1) ⟨rfl, _, upd_same, kn.put n1 h8 r1'⟩
    exact ⟨a, b, xs, kk, rfl, rfl, nd, n2, h8, by rw [Paired.length kn]; omega, k.nx _ σ F3 I3 _ f4 ((s12.trans s3).trans s4) R4⟩
theorem e_nget2 (hu : X.A.units + 64 < cLine) (ha : PEd X G W a fa) (hb : PEd X G W b fb) (hc : PEd X G W c fc) (m : M2 X a "get" apos b c cpos := by exact ⟨rfl, rfl, rfl, rfl⟩) : PEd X G W (.Call (.Attribute a "get" apos) [b, c] [] cpos) (dNGet2 fa fb fc) := PE.weak (pe_nget2 hu ha hb hc m) fun σ H Q q => by
  obtain ⟨F, I, ρ, P, PX, R, f1, k, x⟩ := q
  refine ⟨F, I, ρ, _, PX, R, f1, fun o ρ1 v F1 I1 H1 f2 s1 R1 r1 => ?_, x⟩
  obtain ⟨f0, f2⟩ := f2
  obtain ⟨j, kvs0, rfl, e0, _⟩ := dcnK_of f0
  obtain ⟨a, xs0, rfl, nd0, _, _⟩ := dcn_ok R1 r1 e0
  refine ⟨a, xs0, rfl, nd0, F1, I1, ρ1, _, PX, R1, f2, fun o2 ρ2 w F2 I2 H2 f3 s2 R2 r2 => ?_, x.later s1⟩
  have s12 := s1.trans s2
  refine ⟨F2, I2, ρ2, _, PX, R2, f3, fun o3 ρ3 u F3 I3 H3 f4 s3 R3 r3 => ?_, x.later s12⟩
  obtain ⟨d0, rfl, f4⟩ := onlyd1_of f4
  obtain ⟨d2, e2, f4⟩ := vw1_of f4
  obtain ⟨ds, kk, e5, e6, h8, f4⟩ := nkK_of f4
  obtain ⟨j', kvs, ej, e4, f4⟩ := dcnK_of f4
  cases ej
  obtain ⟨a', xs, q, nd, kn, _⟩ := dcn_ok R3 ((r1.stay s2).stay s3) e4
  cases q
  obtain ⟨b, rfl, n1, n2⟩ := nk_at R3 (vw_ok R3 (r2.stay s3) e2) e5 e6
  refine ⟨b, xs, kk, rfl, nd, n2, h8, k _ ρ3 _ F3 I3 H3 f4 (s12.trans s3) R3 ?_⟩
  cases q : valN kvs kk with
  | none => rw [(kn.val kk).2 q]; exact r3
  | some d => obtain ⟨v, h3, h4⟩ := (kn.val kk).1 d q; rw [h3]; exact h4
theorem e_nlen (hg : Gl X "len") (hm : X.mg "len" = none) (ha : PEd X G W a fa) (he : starEach [a] X.env = (false, eval a X.env) :: starEach [] X.env := by rfl) (hpl : (backTo pos (starEach [] X.env)).any (·.1) = false := by rfl) :
    PEd X G W (.Call (.Name "len" pos') [a] [] pos) (dNLen fa) := PE.weak (pe_callB call_nlen hg hm PySem.boot_len (pa_cons ha pa_nil he) (by decide) (by decide) he hpl) fun σ H Q q => by
  obtain ⟨F, I, ρ, P, PX, R, f1, k, x⟩ := q
  refine ⟨F, I, ρ, _, PX, R, f1, fun o ρ1 v F1 I1 H1 f2 s1 R1 r1 => ?_, x⟩
  obtain ⟨j, kvs, rfl, e4, f2⟩ := dcnK_of f2
  obtain ⟨a, xs, rfl, nd, kn, _⟩ := dcn_ok R1 r1 e4
  refine ⟨a, xs, rfl, nd, ?_⟩
  rw [Paired.length kn]
  exact k _ ρ1 _ F1 I1 H1 f2 s1 R1 (Dd.int _)
end
/-! ### lookups by heaps -/
theorem valN_put (kvs : List (NK × D)) (k j : NK) (y : D) : valN (putN kvs k y) j = if j = k then some y else valN kvs j := by
  unfold putN valN
  split
  · rename_i h
    induction kvs with
    | nil => simp at h
    | cons q kvs ih =>
      rw [List.map_cons, List.find?_cons, List.find?_cons]
      by_cases e : q.1 = k
      · rw [if_pos e]
        dsimp only
        by_cases ej : j = k
        · subst ej
          rw [decide_eq_true e, if_pos rfl]
          rfl
        · rw [if_neg ej, decide_eq_false (show ¬ q.1 = j from fun z => ej (z.symm.trans e))]
          dsimp only
          clear ih h
          induction kvs with
          | nil => rfl
          | cons r kvs ih2 =>
            rw [List.map_cons, List.find?_cons, List.find?_cons]
            by_cases e3 : r.1 = k
            · rw [if_pos e3]
              dsimp only
              rw [decide_eq_false (show ¬ r.1 = j from fun z => ej (z.symm.trans e3))]
              exact ih2
            · rw [if_neg e3]
              cases decide (r.1 = j) with
              | true => rfl
              | false => exact ih2
      · rw [if_neg e]
        rw [List.any_cons, decide_eq_false e, Bool.false_or] at h
        have ih := ih h
        cases hq : decide (q.1 = j) with
        | true =>
          dsimp only
          rw [if_neg (fun z => e ((of_decide_eq_true hq).trans z))]
        | false => exact ih
  · rename_i h
    rw [List.find?_append]
    by_cases ej : j = k
    · subst ej
      rw [if_pos rfl]
      have : kvs.find? (fun q => decide (q.1 = j)) = none := by
        rw [List.find?_eq_none]
        intro x hx z
        exact h (List.any_eq_true.mpr ⟨x, hx, z⟩)
      rw [this]
      simp
    · rw [if_neg ej]
      have : [(k, y)].find? (fun q => decide (q.1 = j)) = none := by
        rw [List.find?_eq_none]
        intro x hx z
        rw [List.mem_singleton.mp hx] at z
        exact ej (of_decide_eq_true z).symm
      rw [this, Option.or_none]
end Dt

/-! # Dt: signed pairs cancel -/
namespace Dt
open PySem PySem.Spec PyProof.Rows L2
def sgP (q : Heap1 × Heap1) : Int := 1 - 2 * ((q.2.length : Int) % 2)
theorem snoc_cases {α : Type} (xs : List α) : xs = [] ∨ ∃ ys x, xs = ys ++ [x] := by
  rcases List.eq_nil_or_concat xs with h | ⟨ys, x, h⟩
  · exact .inl h
  · exact .inr ⟨ys, x, by simpa using h⟩
theorem sum_neg (xs : List Int) : (xs.map fun x => -x).sum = - xs.sum := by
  induction xs with
  | nil => rfl
  | cons x xs ih => rw [List.map_cons, List.sum_cons, List.sum_cons, ih]; omega
theorem chosen_sgn {α : Type} (xs : List α) : ((chosenL xs).map fun c => 1 - 2 * ((c.length : Int) % 2)).sum = if xs = [] then 1 else 0 := by
  rcases snoc_cases xs with rfl | ⟨ys, x, rfl⟩
  · rfl
  · rw [chosenL_snoc, List.map_append, List.sum_append, if_neg (by simp), List.map_map]
    have e : ((chosenL ys).map ((fun c : List α => 1 - 2 * ((c.length : Int) % 2)) ∘ (· ++ [x]))) = ((chosenL ys).map fun c => 1 - 2 * ((c.length : Int) % 2)).map fun z => -z := by
      rw [List.map_map]
      refine List.map_congr_left fun c _ => ?_
      show 1 - 2 * (((c ++ [x]).length : Int) % 2) = -(1 - 2 * ((c.length : Int) % 2))
      rw [List.length_append]
      simp only [List.length_cons, List.length_nil]
      omega
    rw [e, sum_neg]
    omega
theorem chosen_all {α : Type} : ∀ (n : Nat) {xs c : List α}, xs.length = n → c.Sublist xs → c ∈ chosenL xs
  | 0, xs, c, h, s => by
    have : xs = [] := List.length_eq_zero_iff.mp h
    subst this
    rw [List.sublist_nil.mp s]
    exact List.mem_singleton.mpr rfl
  | n + 1, xs, c, h, s => by
    rcases snoc_cases xs with rfl | ⟨ys, x, rfl⟩
    · simp at h
    · have hy : ys.length = n := by simpa using h
      rw [chosenL_snoc]
      obtain ⟨c1, c2, rfl, s1, s2⟩ := List.sublist_append_iff.mp s
      have s3 : c2 = [] ∨ c2 = [x] := by
        cases s2 with
        | cons _ s => exact .inl (List.sublist_nil.mp s)
        | cons_cons _ s => exact .inr (by rw [List.sublist_nil.mp s])
      rcases s3 with rfl | rfl
      · rw [List.append_nil]
        exact List.mem_append_left _ (chosen_all n hy s1)
      · exact List.mem_append_right _ (List.mem_map.mpr ⟨c1, chosen_all n hy s1, rfl⟩)
theorem chosen_nodup {α : Type} : ∀ (n : Nat) {xs : List α}, xs.length = n → xs.Nodup → (chosenL xs).Nodup
  | 0, xs, h, d => by
    have : xs = [] := List.length_eq_zero_iff.mp h
    subst this
    show [([] : List α)].Nodup
    simp
  | n + 1, xs, h, d => by
    rcases snoc_cases xs with rfl | ⟨ys, x, rfl⟩
    · simp at h
    · have hy : ys.length = n := by simpa using h
      obtain ⟨d1, d2, d3⟩ := List.nodup_append.mp d
      have ih := chosen_nodup n hy d1
      rw [chosenL_snoc]
      refine List.nodup_append.mpr ⟨ih, ?_, fun a ha b hb e => ?_⟩
      · unfold List.Nodup
        rw [List.pairwise_map]
        exact ih.imp fun {a b} n e => n (List.append_cancel_right e)
      · obtain ⟨c, hc, rfl⟩ := List.mem_map.mp hb
        subst e
        exact d3 x ((chosenL_sub ha).subset (by simp)) x (by simp) rfl
theorem sub_of_up : ∀ {xs c : List Int}, c.Pairwise (· < ·) → xs.Pairwise (· < ·) → (∀ x ∈ c, x ∈ xs) → c.Sublist xs
  | xs, [], _, _, _ => List.nil_sublist _
  | [], y :: c, _, _, h => by have := h y (by simp); simp at this
  | x :: xs, y :: c, hc, hx, h => by
    obtain ⟨c1, c2⟩ := List.pairwise_cons.mp hc
    obtain ⟨x1, x2⟩ := List.pairwise_cons.mp hx
    by_cases e : y = x
    · subst e
      refine (sub_of_up c2 x2 fun z hz => ?_).cons_cons y
      rcases List.mem_cons.mp (h z (by simp [hz])) with e | hz'
      · have := c1 z hz; omega
      · exact hz'
    · refine (sub_of_up hc x2 fun z hz => ?_).cons x
      rcases List.mem_cons.mp (h z hz) with e2 | hz'
      · subst e2
        have hy : y ∈ xs := by
          rcases List.mem_cons.mp (h y (by simp)) with q | q
          · exact absurd q e
          · exact q
        have := x1 y hy
        rcases List.mem_cons.mp hz with q | q
        · omega
        · have := c1 z q; omega
      · exact hz'
section
variable {r : List Heap1} {n : Nat} {h : Heap1} {q z : Heap1 × Heap1}
theorem allIn_up (r : List Heap1) (h : Heap1) : (allIn r h).Pairwise (· < ·) := by
  rw [allIn_range, List.pairwise_map]
  exact (List.pairwise_lt_range.filter _).imp fun {a b} e => by omega
theorem allIn_all {j : Int} (h0 : 0 ≤ j) (h1 : j < r.length) (h2 : liesIn (r.getD j.toNat []) h = true) : j ∈ allIn r h := by
  rw [allIn_range]
  exact List.mem_map.mpr ⟨j.toNat, List.mem_filter.mpr ⟨List.mem_range.mpr (by omega), h2⟩, by omega⟩
theorem allIn_none : allIn r h = [] ↔ keepB r h = true := by
  rw [← first_keep]
  have e := allIn_head r h
  constructor
  · intro z
    rw [z] at e
    cases hf : firstN r h with
    | none => rfl
    | some j => rw [hf] at e; cases e
  · intro z
    rw [z] at e
    cases ha : allIn r h with
    | nil => rfl
    | cons x t => rw [ha] at e; cases e
theorem pairsL_mem : q ∈ pairsL r n ↔ q.1 ∈ pts 26 n n ∧ PairP r q := by
  obtain ⟨g, c⟩ := q
  unfold pairsL
  rw [List.mem_flatMap]
  constructor
  · rintro ⟨g', hg, hc⟩
    obtain ⟨c', hc, e⟩ := List.mem_map.mp hc
    cases e
    have s := chosenL_sub hc
    exact ⟨hg, (allIn_up r g).sublist s, fun j hj => ⟨(allIn_mem (s.subset hj)).1, (allIn_mem (s.subset hj)).2.1⟩, fun j hj => (allIn_mem (s.subset hj)).2.2⟩
  · rintro ⟨hg, P⟩
    exact ⟨g, hg, List.mem_map.mpr ⟨c, chosen_all _ rfl (sub_of_up P.up (allIn_up r g) fun x hx => allIn_all (P.at' x hx).1 (P.at' x hx).2 (P.lies x hx)), rfl⟩⟩
theorem pairsL_nodup (r : List Heap1) (n : Nat) : (pairsL r n).Nodup := by
  unfold pairsL List.Nodup
  rw [List.pairwise_flatMap]
  refine ⟨fun h _ => ?_, ?_⟩
  · rw [List.pairwise_map]
    exact (chosen_nodup _ rfl (lt_nodup (allIn_up r h))).imp fun {a b} n e => n (Prod.mk.inj e).2
  · refine (pts_desc 26 n n).imp fun {a b} e x hx y hy z => ?_
    obtain ⟨c, _, rfl⟩ := List.mem_map.mp hx
    obtain ⟨c', _, rfl⟩ := List.mem_map.mp hy
    rw [(Prod.mk.inj z).1, ltL_irr] at e
    cases e
theorem part_in (hq : q ∈ pairsL r n) (e : partL r q = some z) : z ∈ pairsL r n ∧ partL r z = some q ∧ sgP z = 0 - sgP q := by
  obtain ⟨h1, P⟩ := pairsL_mem.mp hq
  obtain ⟨a, b, c, d⟩ := partL_some P e
  refine ⟨pairsL_mem.mpr ⟨by rw [c]; exact h1, a⟩, b, ?_⟩
  unfold sgP
  omega
theorem part_none (r : List Heap1) (q : Heap1 × Heap1) : (partL r q).isNone = keepB r q.1 := by
  unfold partL
  cases hf : firstN r q.1 with
  | none => rw [first_keep.mp hf]; rfl
  | some j =>
    cases hk : keepB r q.1 with
    | false => rfl
    | true => rw [first_keep.mpr hk] at hf; cases hf
theorem pairs_sum (r : List Heap1) : ∀ hs : List Heap1, ((hs.flatMap fun h => (chosenL (allIn r h)).map fun c => (h, c)).map sgP).sum = ((hs.filter (keepB r)).length : Int)
  | [] => rfl
  | h :: hs => by
    have e : ((chosenL (allIn r h)).map fun c => (h, c)).map sgP = (chosenL (allIn r h)).map fun c => 1 - 2 * ((c.length : Int) % 2) := by
      rw [List.map_map]; rfl
    rw [List.flatMap_cons, List.map_append, List.sum_append, e, chosen_sgn, pairs_sum r hs]
    by_cases k : keepB r h = true
    · rw [if_pos (allIn_none.mpr k), List.filter_cons_of_pos k, List.length_cons]
      omega
    · rw [if_neg (fun z => k (allIn_none.mp z)), List.filter_cons_of_neg k]
      omega
theorem pairs_total (r : List Heap1) (n : Nat) : ((pairsL r n).map sgP).sum = ((keptL r n).length : Int) := pairs_sum r _
theorem pairs_alone (r : List Heap1) : ∀ hs : List Heap1, ((hs.flatMap fun h => (chosenL (allIn r h)).map fun c => (h, c)).filter fun q => (partL r q).isNone) = (hs.filter (keepB r)).map fun h => (h, [])
  | [] => rfl
  | h :: hs => by
    rw [List.flatMap_cons, List.filter_append, pairs_alone r hs, List.filter_map]
    have e : ((fun q : Heap1 × Heap1 => (partL r q).isNone) ∘ fun c => (h, c)) = fun _ => keepB r h := by
      funext c
      exact part_none r (h, c)
    rw [e]
    cases k : keepB r h with
    | true =>
      rw [allIn_none.mpr k, List.filter_cons_of_pos k]
      rfl
    | false =>
      rw [List.filter_cons_of_neg (by rw [k]; exact Bool.false_ne_true)]
      have : (chosenL (allIn r h)).filter (fun _ => false) = [] := List.filter_eq_nil_iff.mpr fun _ _ => Bool.false_ne_true
      rw [this]
      rfl
theorem pairs_left (r : List Heap1) (n : Nat) : ((pairsL r n).filter fun q => (partL r q).isNone) = (keptL r n).map fun h => (h, []) := pairs_alone r _
end
/-- a dict with a True for each pair -/
def seenN (ps : List (Heap1 × Heap1)) : List (NK × D) := ps.map fun q => (nkP q, PyData.bool true)
theorem seenN_val (ps : List (Heap1 × Heap1)) (q : Heap1 × Heap1) : (valN (seenN ps) (nkP q)).isSome = decide (q ∈ ps) := by
  unfold valN seenN
  induction ps with
  | nil => rfl
  | cons x ps ih =>
    rw [List.map_cons, List.find?_cons]
    by_cases e : x = q
    · subst e
      rw [decide_eq_true (rfl : nkP x = nkP x)]
      simp
    · rw [decide_eq_false (fun z => e (nkP_inj.mp z))]
      rw [ih]
      have : q ≠ x := fun z => e z.symm
      simp [this]
theorem seenN_put {ps : List (Heap1 × Heap1)} {q : Heap1 × Heap1} (h : q ∉ ps) : putN (seenN ps) (nkP q) (.bool true) = seenN (ps ++ [q]) := by
  unfold putN
  rw [if_neg]
  · unfold seenN
    rw [List.map_append]
    rfl
  · intro z
    obtain ⟨x, hx, hz⟩ := List.any_eq_true.mp z
    obtain ⟨y, hy, rfl⟩ := List.mem_map.mp hx
    exact h (nkP_inj.mp (of_decide_eq_true hz) ▸ hy)
end Dt

/-! # Dt: dots of a rule and their weights -/
namespace Dt
open PySem PySem.Spec PyProof.Rows L2
theorem sum_swap {α β : Type} (f : α → β → Int) (ys : List β) : ∀ xs : List α, (xs.map fun a => (ys.map fun b => f a b).sum).sum = (ys.map fun b => (xs.map fun a => f a b).sum).sum
  | [] => by
    have : ∀ ys : List β, (ys.map fun _ => (0 : Int)).sum = 0 := fun ys => by
      induction ys with
      | nil => rfl
      | cons y ys ih => rw [List.map_cons, List.sum_cons, ih]; rfl
    exact (this ys).symm
  | a :: xs => by
    have add : ∀ ys : List β, (ys.map fun b => f a b + (xs.map fun a => f a b).sum).sum = (ys.map fun b => f a b).sum + (ys.map fun b => (xs.map fun a => f a b).sum).sum := fun ys => by
      induction ys with
      | nil => rfl
      | cons y ys ih => rw [List.map_cons, List.map_cons, List.map_cons, List.sum_cons, List.sum_cons, List.sum_cons, ih]; omega
    rw [List.map_cons, List.sum_cons, sum_swap f ys xs, ← add]
    rfl
theorem sum_none {α : Type} {f : α → Int} : ∀ {xs : List α}, (∀ x ∈ xs, f x = 0) → (xs.map f).sum = 0
  | [], _ => rfl
  | x :: xs, h => by rw [List.map_cons, List.sum_cons, h x (by simp), sum_none fun y hy => h y (by simp [hy])]; rfl
theorem sum_congr {α : Type} {f g : α → Int} {xs : List α} (h : ∀ x ∈ xs, f x = g x) : (xs.map f).sum = (xs.map g).sum := by rw [List.map_congr_left h]
theorem sum_one {α : Type} [DecidableEq α] {xs : List α} (nd : xs.Nodup) {a : α} (ha : a ∈ xs) (v : Int) : (xs.map fun x => if a = x then v else 0).sum = v := by
  induction xs with
  | nil => simp at ha
  | cons x xs ih =>
    obtain ⟨n1, n2⟩ := List.nodup_cons.mp nd
    rw [List.map_cons, List.sum_cons]
    by_cases e : a = x
    · subst e
      rw [if_pos rfl, sum_none fun y hy => if_neg fun (z : a = y) => n1 (z ▸ hy)]
      omega
    · rw [if_neg e, ih n2 ((List.mem_cons.mp ha).resolve_left e)]
      omega
theorem sum_filter {α : Type} (f : α → Int) (k : α → Bool) : ∀ xs : List α, ((xs.filter k).map f).sum = (xs.map fun x => if k x = true then f x else 0).sum
  | [] => rfl
  | x :: xs => by
    rw [List.map_cons, List.sum_cons, ← sum_filter f k xs]
    by_cases h : k x = true
    · rw [List.filter_cons_of_pos h, if_pos h, List.map_cons, List.sum_cons]
    · rw [List.filter_cons_of_neg h, if_neg h]; omega
/-! ### each item with how often it stood so far -/
def posL (p : List Int) : List (Int × Nat) := (List.range p.length).map fun i => (p.getD i 0, (p.take (i + 1)).count (p.getD i 0))
theorem posL_snoc (p : List Int) (x : Int) : posL (p ++ [x]) = posL p ++ [(x, (p ++ [x]).count x)] := by
  unfold posL
  rw [List.length_append, List.length_cons, List.length_nil, Nat.zero_add, List.range_succ, List.map_append]
  congr 1
  · refine List.map_congr_left fun i hi => ?_
    have hi := List.mem_range.mp hi
    have e1 : (p ++ [x]).getD i 0 = p.getD i 0 := by
      rw [List.getD_eq_getElem?_getD, List.getD_eq_getElem?_getD, List.getElem?_append_left hi]
    rw [e1, List.take_append_of_le_length (by omega)]
  · have e1 : (p ++ [x]).getD p.length 0 = x := by simp
    rw [List.map_cons, List.map_nil, e1, List.take_of_length_le (by simp)]
theorem pos_sum (g : Int → Nat → Int) (ds : List Int) (nd : ds.Nodup) : ∀ (n : Nat) (p : List Int), p.length = n → (∀ x ∈ p, x ∈ ds) → ((posL p).map fun q => g q.1 q.2).sum = (ds.map fun x => ((List.range (p.count x)).map fun k => g x (k + 1)).sum).sum
  | 0, p, h, _ => by
    have : p = [] := List.length_eq_zero_iff.mp h
    subst this
    exact (sum_none fun x _ => rfl).symm
  | n + 1, p, h, hd => by
    rcases snoc_cases p with rfl | ⟨p, x, rfl⟩
    · simp at h
    · have ih := pos_sum g ds nd n p (by simpa using h) fun y hy => hd y (by simp [hy])
      rw [posL_snoc, List.map_append, List.sum_append, ih]
      have one := sum_one nd (hd x (by simp)) (g x ((p ++ [x]).count x))
      have cx : (p ++ [x]).count x = p.count x + 1 := by rw [List.count_append]; simp
      have e : (ds.map fun y => ((List.range ((p ++ [x]).count y)).map fun k => g y (k + 1)).sum) = ds.map fun y => ((List.range (p.count y)).map fun k => g y (k + 1)).sum + (if x = y then g x ((p ++ [x]).count x) else 0) := by
        refine List.map_congr_left fun y hy => ?_
        by_cases z : x = y
        · subst z
          rw [if_pos rfl, cx, List.range_succ, List.map_append, List.sum_append]
          simp
        · rw [if_neg z]
          have : (p ++ [x]).count y = p.count y := by rw [List.count_append, List.count_cons_of_ne z]; simp
          rw [this]
          omega
      rw [e]
      have add : ∀ ys : List Int, (ys.map fun y => ((List.range (p.count y)).map fun k => g y (k + 1)).sum + (if x = y then g x ((p ++ [x]).count x) else 0)).sum = (ys.map fun y => ((List.range (p.count y)).map fun k => g y (k + 1)).sum).sum + (ys.map fun y => if x = y then g x ((p ++ [x]).count x) else 0).sum := fun ys => by
        induction ys with
        | nil => rfl
        | cons y ys ih => rw [List.map_cons, List.map_cons, List.map_cons, List.sum_cons, List.sum_cons, List.sum_cons, ih]; omega
      rw [add, one]
      simp
theorem sum_const (c : Int) (n : Nat) : ((List.range n).map fun _ => c).sum = c * n := by
  induction n with
  | zero => simp
  | succ n ih =>
    rw [List.range_succ, List.map_append, List.sum_append, ih]
    simp only [List.map_cons, List.map_nil, List.sum_cons, List.sum_nil, Int.natCast_add, Int.natCast_one, Int.mul_add, Int.mul_one]
    omega
theorem sum_pos (p : List Int) : ((posL p).map fun q => q.1) = p := by
  unfold posL
  rw [List.map_map]
  refine List.ext_getElem (by simp) fun i h1 h2 => ?_
  simp
  rw [List.getElem?_eq_getElem (by simpa using h2)]
  rfl
theorem sum_byC (ds : List Int) (nd : ds.Nodup) {p : List Int} (h : ∀ x ∈ p, x ∈ ds) : p.sum = (ds.map fun x => x * (p.count x : Int)).sum := by
  have := pos_sum (fun x _ => x) ds nd p.length p rfl h
  rw [sum_pos] at this
  rw [this]
  exact sum_congr fun x _ => sum_const x _
/-- how many numbers lie between -/
theorem sum_between (x l h : Int) (h0 : 0 ≤ h) (n : Nat) : ((List.range n).map fun k => if h < ((k + 1 : Nat) : Int) ∧ ((k + 1 : Nat) : Int) ≤ l then x else 0).sum = x * max 0 (min l n - h) := by
  induction n with
  | zero =>
    have : max 0 (min l ((0 : Nat) : Int) - h) = 0 := by omega
    rw [this]; simp
  | succ n ih =>
    rw [List.range_succ, List.map_append, List.sum_append, ih]
    simp only [List.map_cons, List.map_nil, List.sum_cons, List.sum_nil]
    split
    · have e : max 0 (min l ((n + 1 : Nat) : Int) - h) = max 0 (min l (n : Int) - h) + 1 := by omega
      rw [e, Int.mul_add]; omega
    · have e : max 0 (min l ((n + 1 : Nat) : Int) - h) = max 0 (min l (n : Int) - h) := by omega
      rw [e]; omega
/-! ### the dots of a rule -/
section
variable {r : List Heap1} {x : Int} {k : Nat} {c : List Int}
def cnt (r : List Heap1) (i : Nat) (x : Int) : Nat := (r.getD i []).count x
def dotN (r : List Heap1) (x : Int) (k : Nat) : List Int := ((List.range r.length).filter fun i => decide (k ≤ cnt r i x)).map fun i : Nat => (i : Int)
def dotsL (r : List Heap1) : List (Int × List Int) := (posL (joinL r)).map fun q => (q.1, dotN r q.1 q.2)
/-- the weight of a choice -/
def wtD (ds : List (Int × List Int)) (c : List Int) : Int := (ds.map fun d => if d.2 = c then d.1 else 0).sum
def wtR (r : List Heap1) (c : List Int) : Int := wtD (dotsL r) c
theorem dotN_mem {j : Int} : j ∈ dotN r x k ↔ (0 ≤ j ∧ j < r.length) ∧ k ≤ cnt r j.toNat x := by
  unfold dotN
  rw [List.mem_map]
  constructor
  · rintro ⟨i, hi, rfl⟩
    obtain ⟨h1, h2⟩ := List.mem_filter.mp hi
    have := List.mem_range.mp h1
    rw [Int.toNat_natCast]
    exact ⟨by omega, of_decide_eq_true h2⟩
  · rintro ⟨⟨h0, h1⟩, h2⟩
    exact ⟨j.toNat, List.mem_filter.mpr ⟨List.mem_range.mpr (by omega), decide_eq_true h2⟩, by omega⟩
theorem dotN_up (r : List Heap1) (x : Int) (k : Nat) : (dotN r x k).Pairwise (· < ·) := by
  unfold dotN
  rw [List.pairwise_map]
  exact (List.pairwise_lt_range.filter _).imp fun {a b} e => by omega
theorem dotN_in (r : List Heap1) (x : Int) (k : Nat) : dotN r x k ∈ choicesL r.length := choices_mem (dotN_up r x k) fun j hj => (dotN_mem.mp hj).1
theorem mem_getD {i : Nat} (h : i < r.length) : r.getD i [] ∈ r := by
  rw [List.getD_eq_getElem?_getD, List.getElem?_eq_getElem h]
  exact List.getElem_mem h
theorem parts_join (r : List Heap1) : ∀ x ∈ joinL r, x ∈ partsL r := fun x hx => by
  obtain ⟨h, hh, hx⟩ := joinL_mem.mp hx
  exact partsL_mem.mpr ⟨h, hh, hx⟩
theorem dots_sum (r : List Heap1) (f : Int → List Int → Int) : ((dotsL r).map fun d => f d.1 d.2).sum = ((partsL r).map fun x => ((List.range (mxC r x)).map fun k => f x (dotN r x (k + 1))).sum).sum := by
  unfold dotsL
  rw [List.map_map]
  have := pos_sum (fun x k => f x (dotN r x k)) (partsL r) (partsL_nodup r) _ (joinL r) rfl (parts_join r)
  rw [show ((fun d : Int × List Int => f d.1 d.2) ∘ fun q : Int × Nat => (q.1, dotN r q.1 q.2)) = fun q => f q.1 (dotN r q.1 q.2) from rfl, this]
  refine sum_congr fun x _ => ?_
  rw [joinL_count]
/-- how often at least, in each of the choice's heaps; how often at most, in each other one -/
def lowC (r : List Heap1) (c : List Int) (x : Int) : Int := mnL ((pickC r c).map fun h => ((h.count x : Nat) : Int))
def restC (r : List Heap1) (c : List Int) : List Heap1 := ((List.range r.length).filter fun i : Nat => !decide ((i : Int) ∈ c)).map fun i => r.getD i []
def highC (r : List Heap1) (c : List Int) (x : Int) : Int := mxL (((restC r c).map fun h => ((h.count x : Nat) : Int)) ++ [0])
theorem pick_at {j : Int} (hj : j ∈ c) (x : Int) : ((cnt r j.toNat x : Nat) : Int) ∈ (pickC r c).map fun h => ((h.count x : Nat) : Int) :=
  List.mem_map.mpr ⟨_, List.mem_map.mpr ⟨j, hj, rfl⟩, rfl⟩
theorem low_iff (hc : c ≠ []) (x : Int) (k : Int) : k ≤ lowC r c x ↔ ∀ j ∈ c, k ≤ cnt r j.toNat x := by
  have ne : ((pickC r c).map fun h => ((h.count x : Nat) : Int)) ≠ [] := fun z => hc (List.map_eq_nil_iff.mp (List.map_eq_nil_iff.mp z))
  obtain ⟨h1, h2⟩ := mnL_mem ne
  constructor
  · intro h j hj
    exact Int.le_trans h (h2 _ (pick_at hj x))
  · intro h
    obtain ⟨g, hg, e⟩ := List.mem_map.mp h1
    obtain ⟨j, hj, rfl⟩ := List.mem_map.mp hg
    have := h j hj
    unfold lowC
    rw [← e]
    exact this
theorem high_iff (x : Int) (k : Int) : highC r c x < k ↔ 0 < k ∧ ∀ i : Nat, i < r.length → (i : Int) ∉ c → (cnt r i x : Int) < k := by
  have ne : (((restC r c).map fun h => ((h.count x : Nat) : Int)) ++ [0]) ≠ [] := by simp
  obtain ⟨h1, h2⟩ := mxL_mem ne
  constructor
  · intro h
    refine ⟨Int.lt_of_le_of_lt (h2 0 (by simp)) h, fun i hi hn => Int.lt_of_le_of_lt (h2 _ ?_) h⟩
    refine List.mem_append_left _ (List.mem_map.mpr ⟨r.getD i [], List.mem_map.mpr ⟨i, List.mem_filter.mpr ⟨List.mem_range.mpr hi, by simp [hn]⟩, rfl⟩, rfl⟩)
  · rintro ⟨h0, h⟩
    unfold highC
    rcases List.mem_append.mp h1 with q | q
    · obtain ⟨g, hg, e⟩ := List.mem_map.mp q
      obtain ⟨i, hi, rfl⟩ := List.mem_map.mp hg
      obtain ⟨g1, g2⟩ := List.mem_filter.mp hi
      have := h i (List.mem_range.mp g1) (by simpa using g2)
      rw [← e]
      exact this
    · rw [List.mem_singleton.mp q]; exact h0
theorem high_0 (x : Int) : 0 ≤ highC r c x := by
  have := (high_iff (r := r) (c := c) x (highC r c x + 1)).mp (by omega)
  omega
theorem dot_iff (hc : c ∈ choicesL r.length) (h0 : c ≠ []) (x : Int) (k : Nat) (hk : 0 < k) : dotN r x k = c ↔ highC r c x < (k : Int) ∧ (k : Int) ≤ lowC r c x := by
  have ix := choicesL_mem hc
  rw [low_iff h0, high_iff]
  constructor
  · intro e
    refine ⟨⟨by omega, fun i hi hn => ?_⟩, fun j hj => ?_⟩
    · rw [← e, dotN_mem] at hn
      have : ¬ k ≤ cnt r i x := fun z => hn ⟨by omega, by rw [Int.toNat_natCast]; exact z⟩
      omega
    · rw [← e, dotN_mem] at hj
      have := hj.2
      omega
  · rintro ⟨⟨_, h1⟩, h2⟩
    refine up_eq (dotN_up r x k) (choices_up hc) fun j => ?_
    rw [dotN_mem]
    constructor
    · rintro ⟨⟨g0, g1⟩, g2⟩
      rcases Classical.em (j ∈ c) with q | q
      · exact q
      · have := h1 j.toNat (by omega) (by rw [Int.toNat_of_nonneg g0]; exact q)
        omega
    · intro hj
      have := h2 j hj
      exact ⟨ix j hj, by omega⟩
theorem low_le (h0 : c ≠ []) (hc : okC r.length c) (x : Int) : lowC r c x ≤ mxC r x := by
  cases c with
  | nil => exact absurd rfl h0
  | cons j t =>
    have h1 := (low_iff (r := r) (c := j :: t) h0 x (lowC r (j :: t) x)).mp (Int.le_refl _) j (by simp)
    have h2 := hc j (by simp)
    have := mxC_ge (mem_getD (r := r) (i := j.toNat) (by omega)) x
    unfold cnt at h1
    omega
/-- the weight, part by part -/
theorem wt_parts (hc : c ∈ choicesL r.length) (h0 : c ≠ []) : wtR r c = ((partsL r).map fun x => x * max 0 (lowC r c x - highC r c x)).sum := by
  unfold wtR wtD
  rw [dots_sum r fun x n => if n = c then x else 0]
  refine sum_congr fun x _ => ?_
  have e := sum_between x (lowC r c x) (highC r c x) (high_0 x) (mxC r x)
  rw [show min (lowC r c x) ((mxC r x : Nat) : Int) = lowC r c x by have := low_le h0 (choicesL_mem hc) x; omega] at e
  rw [← e]
  refine sum_congr fun k _ => ?_
  have := dot_iff hc h0 x (k + 1) (by omega)
  by_cases z : dotN r x (k + 1) = c
  · rw [if_pos z, if_pos (this.mp z)]
  · rw [if_neg z, if_neg (fun q => z (this.mpr q))]
/-- as the law reckons it: only over the parts of the choice's first heap -/
theorem wt_first (hc : c ∈ choicesL r.length) {j : Int} {t : List Int} (e : c = j :: t) : wtR r c = ((srt (seenL (r.getD j.toNat []))).map fun x => x * max 0 (lowC r c x - highC r c x)).sum := by
  have h0 : c ≠ [] := by rw [e]; simp
  have hj := choicesL_mem hc j (by rw [e]; simp)
  rw [wt_parts hc h0]
  have z : ∀ x ∈ partsL r, x * max 0 (lowC r c x - highC r c x) = if decide (x ∈ r.getD j.toNat []) = true then x * max 0 (lowC r c x - highC r c x) else 0 := fun x _ => by
    by_cases q : x ∈ r.getD j.toNat []
    · rw [decide_eq_true q, if_pos rfl]
    · rw [decide_eq_false q, if_neg Bool.false_ne_true]
      have l0 := (low_iff (r := r) (c := c) h0 x (lowC r c x)).mp (Int.le_refl _) j (by rw [e]; simp)
      unfold cnt at l0
      rw [List.count_eq_zero.mpr q] at l0
      have := high_0 (r := r) (c := c) x
      rw [show max 0 (lowC r c x - highC r c x) = 0 by omega, Int.mul_zero]
  rw [sum_congr z, ← sum_filter]
  refine perm_sum (List.Perm.map _ ((List.perm_ext_iff_of_nodup ((partsL_nodup r).filter _) ?_).mpr fun x => ?_))
  · exact (srt_perm _).nodup_iff.mpr (seenL_nodup _)
  · rw [List.mem_filter, (srt_perm _).mem_iff, seenL_mem, decide_eq_true_iff]
    constructor
    · exact fun h => h.2
    · exact fun h => ⟨partsL_mem.mpr ⟨_, mem_getD (by omega), h⟩, h⟩
/-- what a choice touches -/
def touchB (c o : List Int) : Bool := (o.map fun j => decide (j ∈ c)).any id
theorem touch_iff {c o : List Int} : touchB c o = true ↔ ∃ j ∈ o, j ∈ c := by
  unfold touchB
  rw [List.any_map, List.any_eq_true]
  exact ⟨fun ⟨j, h1, h2⟩ => ⟨j, h1, of_decide_eq_true h2⟩, fun ⟨j, h1, h2⟩ => ⟨j, h1, decide_eq_true h2⟩⟩
theorem mxC_iff (hc : okC r.length c) (x : Int) (k : Nat) (hk : 0 < k) : k ≤ mxC (pickC r c) x ↔ ∃ j ∈ c, k ≤ cnt r j.toNat x := by
  constructor
  · intro h
    by_cases h0 : pickC r c = []
    · rw [h0] at h
      have : k ≤ 0 := h
      omega
    · obtain ⟨g, hg, e⟩ := mxC_at h0 x
      obtain ⟨j, hj, rfl⟩ := List.mem_map.mp hg
      exact ⟨j, hj, by unfold cnt; omega⟩
  · rintro ⟨j, hj, h⟩
    have := mxC_ge (r := pickC r c) (List.mem_map.mpr ⟨j, hj, rfl⟩ : r.getD j.toNat [] ∈ pickC r c) x
    unfold cnt at h
    omega
theorem choices_cons (m : Nat) : ∃ t, choicesL m = [] :: t := by
  induction m with
  | zero => exact ⟨[], rfl⟩
  | succ m ih =>
    obtain ⟨t, e⟩ := ih
    exact ⟨t ++ (choicesL m).map (· ++ [(m : Int)]), by rw [choicesL_succ, e]; rfl⟩
theorem choices_nodup (m : Nat) : (choicesL m).Nodup := by
  rw [choicesL_range]
  refine chosen_nodup _ rfl ?_
  unfold List.Nodup
  rw [List.pairwise_map]
  exact List.pairwise_lt_range.imp fun {a b} h => by omega
theorem choices_rest {m : Nat} {o : List Int} : o ∈ (choicesL m).drop 1 ↔ o ∈ choicesL m ∧ o ≠ [] := by
  have nd := choices_nodup m
  obtain ⟨t, e⟩ := choices_cons m
  rw [e] at nd ⊢
  obtain ⟨n1, n2⟩ := List.nodup_cons.mp nd
  constructor
  · intro h
    have h : o ∈ t := h
    exact ⟨List.mem_cons_of_mem _ h, fun z => n1 (z ▸ h)⟩
  · rintro ⟨h1, h2⟩
    exact (List.mem_cons.mp h1).resolve_left h2
/-- the weights of all that a choice touches come to the sum of its joined heap -/
theorem touched_sum (hc : c ∈ choicesL r.length) : ((((choicesL r.length).drop 1).filter (touchB c)).map (wtR r)).sum = (joinL (pickC r c)).sum := by
  have ix : okC r.length c := choicesL_mem hc
  have nd : ((choicesL r.length).drop 1).Nodup := (List.drop_sublist 1 _).nodup (choices_nodup _)
  rw [sum_filter]
  have e1 : (((choicesL r.length).drop 1).map fun o => if touchB c o = true then wtR r o else 0) = ((choicesL r.length).drop 1).map fun o => ((dotsL r).map fun d => if d.2 = o then (if touchB c d.2 = true then d.1 else 0) else 0).sum := by
    refine List.map_congr_left fun o _ => ?_
    unfold wtR wtD
    by_cases h : touchB c o = true
    · rw [if_pos h]
      refine sum_congr fun d _ => ?_
      by_cases z : d.2 = o
      · rw [if_pos z, if_pos z, z, if_pos h]
      · rw [if_neg z, if_neg z]
    · rw [if_neg h]
      refine (sum_none fun d _ => ?_).symm
      by_cases z : d.2 = o
      · rw [if_pos z, z, if_neg h]
      · rw [if_neg z]
  rw [e1, sum_swap]
  have e2 : ((dotsL r).map fun d => (((choicesL r.length).drop 1).map fun o => if d.2 = o then (if touchB c d.2 = true then d.1 else 0) else 0).sum) = (dotsL r).map fun d => if touchB c d.2 = true then d.1 else 0 := by
    refine List.map_congr_left fun d hd => ?_
    by_cases h : touchB c d.2 = true
    · refine sum_one nd ?_ _
      obtain ⟨q, _, rfl⟩ := List.mem_map.mp hd
      refine choices_rest.mpr ⟨dotN_in r _ _, fun z => ?_⟩
      obtain ⟨j, hj, _⟩ := touch_iff.mp h
      rw [z] at hj
      simp at hj
    · rw [if_neg h]
      exact sum_none fun o _ => ite_self _
  rw [e2, dots_sum r fun x n => if touchB c n = true then x else 0]
  have sub : ∀ x ∈ joinL (pickC r c), x ∈ partsL r := fun x hx => by
    obtain ⟨h, hh, hx⟩ := joinL_mem.mp hx
    exact partsL_mem.mpr ⟨h, pickC_mem ix h hh, hx⟩
  rw [sum_byC (partsL r) (partsL_nodup r) sub]
  refine sum_congr fun x _ => ?_
  rw [joinL_count]
  have le : mxC (pickC r c) x ≤ mxC r x := mxC_le fun g hg => mxC_ge (pickC_mem ix g hg) x
  have e := sum_between x (mxC (pickC r c) x : Nat) 0 (by omega) (mxC r x)
  rw [show max 0 (min ((mxC (pickC r c) x : Nat) : Int) ((mxC r x : Nat) : Int) - 0) = ((mxC (pickC r c) x : Nat) : Int) by omega] at e
  rw [← e]
  refine sum_congr fun k _ => ?_
  have q : touchB c (dotN r x (k + 1)) = true ↔ (0 : Int) < ((k + 1 : Nat) : Int) ∧ ((k + 1 : Nat) : Int) ≤ ((mxC (pickC r c) x : Nat) : Int) := by
    rw [touch_iff]
    constructor
    · rintro ⟨j, h1, h2⟩
      have := (mxC_iff ix x (k + 1) (by omega)).mpr ⟨j, h2, (dotN_mem.mp h1).2⟩
      omega
    · rintro ⟨_, h⟩
      obtain ⟨j, h1, h2⟩ := (mxC_iff ix x (k + 1) (by omega)).mp (by omega)
      exact ⟨j, dotN_mem.mpr ⟨ix j h1, h2⟩, h1⟩
  by_cases z : touchB c (dotN r x (k + 1)) = true
  · rw [if_pos z, if_pos (q.mp z)]
  · rw [if_neg z, if_neg (fun p => z (q.mpr p))]
end
end Dt

/-! # Dt: weights and sums tell the same -/
namespace Dt
open PySem PySem.Spec PyProof.Rows L2
def offC (m : Nat) (d : List Int) : List Int := ((List.range m).filter fun i : Nat => !decide ((i : Int) ∈ d)).map fun i : Nat => (i : Int)
theorem offC_mem {m : Nat} {d : List Int} {j : Int} : j ∈ offC m d ↔ (0 ≤ j ∧ j < (m : Int)) ∧ j ∉ d := by
  unfold offC
  rw [List.mem_map]
  constructor
  · rintro ⟨i, hi, rfl⟩
    obtain ⟨h1, h2⟩ := List.mem_filter.mp hi
    have := List.mem_range.mp h1
    refine ⟨by omega, fun z => ?_⟩
    simp [z] at h2
  · rintro ⟨⟨h1, h2⟩, h3⟩
    have e : ((j.toNat : Nat) : Int) = j := by omega
    exact ⟨j.toNat, List.mem_filter.mpr ⟨List.mem_range.mpr (by omega), by rw [e]; simp [h3]⟩, e⟩
theorem offC_in (m : Nat) (d : List Int) : offC m d ∈ choicesL m := choices_mem (by
  unfold offC
  rw [List.pairwise_map]
  exact (List.pairwise_lt_range.filter _).imp fun {a b} h => by omega) fun j hj => (offC_mem.mp hj).1
theorem untouched {m : Nat} {o d : List Int} (ho : o ∈ choicesL m) : touchB (offC m d) o = false ↔ ∀ j ∈ o, j ∈ d := by
  have ix := choicesL_mem ho
  rw [← Bool.not_eq_true, touch_iff]
  constructor
  · intro h j hj
    exact Classical.byContradiction fun z => h ⟨j, hj, offC_mem.mpr ⟨ix j hj, z⟩⟩
  · rintro h ⟨j, hj, hz⟩
    exact (offC_mem.mp hz).2 (h j hj)
theorem sum_split {α : Type} (f : α → Int) (k : α → Bool) : ∀ xs : List α, (xs.map f).sum = ((xs.filter k).map f).sum + ((xs.filter fun x => !k x).map f).sum
  | [] => rfl
  | x :: xs => by
    have ih := sum_split f k xs
    cases e : k x with
    | true => rw [List.filter_cons_of_pos e, List.filter_cons_of_neg (by simp [e])]; simp only [List.map_cons, List.sum_cons]; omega
    | false => rw [List.filter_cons_of_neg (by simp [e]), List.filter_cons_of_pos (by simp [e])]; simp only [List.map_cons, List.sum_cons]; omega
theorem sum_diff {α : Type} (f g : α → Int) : ∀ xs : List α, (xs.map fun x => f x - g x).sum = (xs.map f).sum - (xs.map g).sum
  | [] => rfl
  | x :: xs => by
    have ih := sum_diff f g xs
    simp only [List.map_cons, List.sum_cons]
    omega
/-- equal sums make equal weights -/
theorem weights_alike {r s : List Heap1} (hl : r.length = s.length) (h : ∀ c ∈ choicesL r.length, jS r c = jS s c) : ∀ (n : Nat) (d : List Int), d.length = n → d ∈ choicesL r.length → d ≠ [] → wtR r d = wtR s d := by
  intro n
  induction n using Nat.strongRecOn with
  | _ n ih =>
  intro d hn hd h0
  have nd : ((choicesL r.length).drop 1).Nodup := (List.drop_sublist 1 _).nodup (choices_nodup _)
  have part : ∀ c ∈ choicesL r.length, ((((choicesL r.length).drop 1).filter (touchB c)).map fun o => wtR r o - wtR s o).sum = 0 := fun c hc => by
    rw [sum_diff, touched_sum hc]
    have e := touched_sum (r := s) (c := c) (hl ▸ hc)
    rw [← hl] at e
    rw [e]
    have := h c hc
    unfold jS at this
    omega
  have full : (((choicesL r.length).drop 1).map fun o => wtR r o - wtR s o).sum = 0 := by
    rw [← part _ (offC_in r.length [])]
    rw [List.filter_eq_self.mpr fun o ho => ?_]
    obtain ⟨h1, h2⟩ := choices_rest.mp ho
    obtain ⟨j, t, rfl⟩ := List.exists_cons_of_ne_nil h2
    exact touch_iff.mpr ⟨j, by simp, offC_mem.mpr ⟨choicesL_mem h1 j (by simp), by simp⟩⟩
  have inner : ((((choicesL r.length).drop 1).filter fun o => !touchB (offC r.length d) o).map fun o => wtR r o - wtR s o).sum = 0 := by
    have := sum_split (fun o => wtR r o - wtR s o) (touchB (offC r.length d)) ((choicesL r.length).drop 1)
    rw [part _ (offC_in _ _), full] at this
    omega
  have in_d : d ∈ ((choicesL r.length).drop 1).filter fun o => !touchB (offC r.length d) o := by
    refine List.mem_filter.mpr ⟨choices_rest.mpr ⟨hd, h0⟩, ?_⟩
    rw [(untouched hd).mpr fun j hj => hj]
    rfl
  have one := sum_one (nd.sublist List.filter_sublist) in_d (wtR r d - wtR s d)
  have same : ((((choicesL r.length).drop 1).filter fun o => !touchB (offC r.length d) o).map fun o => wtR r o - wtR s o) = ((((choicesL r.length).drop 1).filter fun o => !touchB (offC r.length d) o).map fun o => if d = o then wtR r d - wtR s d else 0) := by
    refine List.map_congr_left fun o ho => ?_
    by_cases z : d = o
    · rw [if_pos z, z]
    · rw [if_neg z]
      obtain ⟨h1, h2⟩ := List.mem_filter.mp ho
      obtain ⟨h3, h4⟩ := choices_rest.mp h1
      have h5 := (untouched h3).mp (by simpa using h2)
      have sub := sub_of_up (choices_up h3) (choices_up hd) h5
      have lt : o.length < n := by
        rcases Nat.lt_or_ge o.length d.length with q | q
        · omega
        · exact absurd (sub.eq_of_length_le q).symm z
      rw [ih _ lt o rfl h3 h4, Int.sub_self]
  rw [same, one] at inner
  omega
theorem sums_alike {r s : List Heap1} (hl : r.length = s.length) (h : ∀ c ∈ choicesL r.length, c ≠ [] → wtR r c = wtR s c) : ∀ c ∈ choicesL r.length, jS r c = jS s c := by
  intro c hc
  have e1 := touched_sum (r := r) hc
  have e2 := touched_sum (r := s) (c := c) (hl ▸ hc)
  unfold jS
  rw [← e1, ← e2, ← hl]
  exact sum_congr fun o ho => by
    obtain ⟨h3, h4⟩ := choices_rest.mp (List.mem_filter.mp ho).1
    exact h o h3 h4
end Dt

/-! # Dt: texts -/
namespace Dt
open PySem PySem.Spec PyProof.Rows L2
/-! ### join, split, count -/
def joinF : D → DF := fun d ds P => match d, ds with
  | .str a, [.list xs] => strsK xs fun ys => (ys.map (·.length)).sum + ys.length * a.length ≤ 16000000 ∧ P (.d (.str (Txt.join a ys)))
  | .str a, [.tuple xs] => strsK xs fun ys => (ys.map (·.length)).sum + ys.length * a.length ≤ 16000000 ∧ P (.d (.str (Txt.join a ys)))
  | _, _ => False
def splF : D → DF := fun d ds P => match d, ds with
  | .str a, [.str b] => ((b.length == 0) = false ∧ a.length ≤ 16000000) ∧ P (.tmp (.lst ((Txt.split a b).map PyData.str)))
  | _, _ => False
def cntSF : D → DF := fun d ds P => match d, ds with
  | .str a, [.str b] => P (.d (.int (Txt.count a b)))
  | _, _ => False
section
variable {p : Pm}
theorem s_join : MtS p "str" (fun x xs H Q => ∃ a q, ∃ ys : List Str, x = .str a ∧ xs = [.ref q] ∧ (SqL p.K H q (ys.map V.str) ∨ SqT p.K H q (ys.map V.str)) ∧
    (ys.map (·.length)).sum + ys.length * a.length ≤ 16777216 ∧ Q (.str (Txt.join a ys)) H) joinF := by
  intro F I H σ ρ v vs d ds P Q R h1 h2 h k
  unfold joinF at h
  split at h
  · rename_i a xs
    obtain ⟨ys, rfl, hl, q⟩ := strsK_of h
    obtain ⟨w, rfl, hw⟩ := args1 h2
    obtain ⟨l, ws, rfl, e, r⟩ := hw.list R.sub
    obtain rfl := r.ofStrs
    exact ⟨a, l, ys, h1.str, rfl, .inl (SqL.of e), by omega, k.flat R q (.str _)⟩
  · rename_i a xs
    obtain ⟨ys, rfl, hl, q⟩ := strsK_of h
    obtain ⟨w, rfl, hw⟩ := args1 h2
    obtain ⟨l, o, ws, rfl, e, z, r⟩ := hw.tuple
    obtain rfl := r.ofStrs
    exact ⟨a, l, ys, h1.str, rfl, .inr (sqF (R.sub _ _ e)), by omega, k.flat R q (.str _)⟩
  · exact h.elim
theorem s_split : MtS p "str" (fun x xs H Q => ∃ a b, x = .str a ∧ xs = [.str b] ∧ (b.length == 0) = false ∧ a.length + 2 ≤ sizeLine ∧ rNewStrs (Txt.split a b) H Q) splF := by
  intro F I H σ ρ v vs d ds P Q R h1 h2 h k
  unfold splF at h
  split at h
  · rename_i a b
    obtain ⟨⟨h3, h4⟩, q⟩ := h
    obtain ⟨w, rfl, hw⟩ := args1 h2
    exact ⟨a, b, h1.str, by rw [hw.str], h3, by have : sizeLine = 16777216 := rfl; omega, fun l n => k.lst R q (DdAll.strs _) n⟩
  · exact h.elim
theorem s_cntS : MtS p "str" (fun x xs H Q => ∃ a b, x = .str a ∧ xs = [.str b] ∧ Q (.int (Txt.count a b)) H) cntSF := by
  intro F I H σ ρ v vs d ds P Q R h1 h2 h k
  unfold cntSF at h
  split at h
  · rename_i a b
    obtain ⟨w, rfl, hw⟩ := args1 h2
    exact ⟨a, b, h1.str, by rw [hw.str], k.flat R h (.int _)⟩
  · exact h.elim
end
/-! ### for sign in text -/
def sgD (c : Nat) : D := .str ⟨#[c]⟩
def dItS (f : DE) : DI := fun ρ P PX => f ρ (fun o ρ1 => match o with
  | .d (.str x) => x.length ≤ 16000000 ∧ P (x.cps.toList.map sgD) ρ1
  | _ => False) PX
section
variable {p : Pm} {F : Lab} {I H : Hp}
theorem itw_str {z : Str} (hz : z.length ≤ sizeLine) : ItW p true (Its z) F I H (z.cps.toList.map sgD) where
  ex := by
    refine ⟨fun _ => True, fun i H v H' => H' = H ∧ ∃ c, z.cps[i]? = some c ∧ v = .str ⟨#[c]⟩, by rw [List.length_map, Array.length_toList]; exact walk_str, fun _ _ _ _ _ => trivial, fun i H1 x H2 hi hy F1 I1 s1 s2 _ => ?_⟩
    obtain ⟨rfl, c, hc, rfl⟩ := hy
    refine ⟨I1, sgD c, ?_, fun _ _ e => e, fun _ _ e => e, s2, fun _ e => .inl e, .str _⟩
    rw [List.getElem?_map, Array.getElem?_toList, hc]
    rfl
  big := by rw [List.length_map, Array.length_toList]; exact hz
end
section
variable {X : Cx} {G : V → Nat → Option Addr → Prop} {W : WX} {tg a : Expr} {fa : DE}
theorem i_str (h : PEd X G W a fa) : PId X G W true tg a (dItS fa) := PI.weak (pi_str h) fun σ H R q => by
  obtain ⟨F, I, ρ, P, PX, RR, f1, k, x⟩ := q
  refine ⟨F, I, ρ, _, PX, RR, f1, fun o ρ1 v F1 I1 H1 f2 s1 R1 r1 => ?_, x⟩
  split at f2
  · rename_i z
    cases r1
    have : sizeLine = 16777216 := rfl
    exact ⟨z, rfl, fun _ => k _ ρ1 F1 I1 H1 _ f2.2 s1 R1 (itw_str (by omega))⟩
  · exact f2.elim
end
/-! ### the text of a number -/
def numS (n : Int) : Str := Str.ofString (toString n)
theorem numS_signs {n : Int} (h : 0 ≤ n) : (numS n).cps.toList = (Nat.toDigits 10 n.toNat).map Char.toNat := by
  obtain ⟨m, rfl⟩ := Int.eq_ofNat_of_zero_le h
  exact PySem.W.KIN.signs_num m
theorem numS_digit {n : Int} (h : 0 ≤ n) : ∀ c ∈ (numS n).cps.toList, 48 ≤ c ∧ c ≤ 57 := by
  intro c hc
  rw [numS_signs h] at hc
  obtain ⟨ch, hch, e⟩ := List.mem_map.mp hc
  rw [← e]
  exact digit_range (Nat.isDigit_of_mem_toDigits (by decide) (by decide) hch)
theorem numS_len {n : Int} {k : Nat} (hk : 1 ≤ k) (h0 : 0 ≤ n) (h : n < 10 ^ k) : (numS n).length ≤ k := by
  show (numS n).cps.size ≤ k
  rw [← Array.length_toList, numS_signs h0, List.length_map]
  refine toDigits_len_pow (by decide) hk ?_
  have : ((n.toNat : Nat) : Int) < ((10 ^ k : Nat) : Int) := by
    rw [Int.toNat_of_nonneg h0]
    exact_mod_cast h
  exact_mod_cast this
theorem numS_ne {n : Int} (h : 0 ≤ n) : (numS n).cps.toList ≠ [] := by
  rw [numS_signs h]
  intro e
  have h := toDigits_len_ge 10 n.toNat
  rw [List.map_eq_nil_iff.mp e] at h
  exact absurd h (by decide)
theorem numS_reads {n : Int} (h : 0 ≤ n) (hl : (numS n).length ≤ 4300) : intText? (numS n) = some n := by
  have e := intText_digits (x := numS n) (numS_digit h) (numS_ne h) hl
  rw [numS_signs h, PySem.W.KIN.val_back] at e
  rw [e, Int.toNat_of_nonneg h]
theorem digits_head : ∀ (k m : Nat), m ≤ k → 0 < m → ∃ c r, Nat.toDigits 10 m = c :: r ∧ c ≠ '0' := by
  intro k
  induction k with
  | zero => intro m h0 h1; omega
  | succ k ih =>
    intro m h0 h1
    by_cases hm : m < 10
    · refine ⟨_, [], Nat.toDigits_of_lt_base hm, ?_⟩
      revert h1
      revert hm
      revert m
      intro m _ hm h1
      have : m = 1 ∨ m = 2 ∨ m = 3 ∨ m = 4 ∨ m = 5 ∨ m = 6 ∨ m = 7 ∨ m = 8 ∨ m = 9 := by omega
      rcases this with rfl | rfl | rfl | rfl | rfl | rfl | rfl | rfl | rfl <;> decide
    · have hd : m % 10 < 10 := Nat.mod_lt _ (by decide)
      have t : Nat.toDigits 10 (m / 10) ++ Nat.toDigits 10 (m % 10) = Nat.toDigits 10 (10 * (m / 10) + m % 10) := Nat.toDigits_append_toDigits (by decide) (by omega) hd
      rw [Nat.div_add_mod] at t
      obtain ⟨c, r, e, hc⟩ := ih (m / 10) (by omega) (by omega)
      exact ⟨c, r ++ Nat.toDigits 10 (m % 10), by rw [← t, e]; rfl, hc⟩
theorem numS_head {n : Int} (h : 1 ≤ n) : ∃ c r, (numS n).cps.toList = c :: r ∧ c ≠ 48 := by
  obtain ⟨c, r, e, hc⟩ := digits_head n.toNat n.toNat (Nat.le_refl _) (by omega)
  refine ⟨c.toNat, r.map Char.toNat, by rw [numS_signs (by omega), e]; rfl, fun z => hc ?_⟩
  have : Char.ofNat c.toNat = Char.ofNat 48 := by rw [z]
  rw [Char.ofNat_toNat] at this
  exact this
/-! ### split undoes join -/
def gluL (c : Nat) : List (List Nat) → List Nat
  | [] => []
  | [x] => x
  | x :: y :: r => x ++ c :: gluL c (y :: r)
theorem glu_join (c : Nat) : ∀ ys : List Str, (Txt.join ⟨#[c]⟩ ys).cps.toList = gluL c (ys.map (·.cps.toList))
  | [] => rfl
  | [x] => rfl
  | x :: y :: r => by
    have ih := glu_join c (y :: r)
    rw [show Txt.join ⟨#[c]⟩ (x :: y :: r) = x ++ ⟨#[c]⟩ ++ Str.join ⟨#[c]⟩ (y :: r) from StrLaws.glued_eq_join _ _]
    show ((x.cps ++ #[c]) ++ (Str.join ⟨#[c]⟩ (y :: r)).cps).toList = _
    rw [Array.toList_append, Array.toList_append]
    rw [show Txt.join ⟨#[c]⟩ (y :: r) = Str.join ⟨#[c]⟩ (y :: r) from StrLaws.glued_eq_join _ _] at ih
    rw [ih]
    simp [gluL]
theorem head_split {c : Nat} : ∀ {x y r s : List Nat}, c ∉ x → c ∉ y → x ++ c :: r = y ++ c :: s → x = y ∧ r = s
  | [], [], r, s, _, _, h => ⟨rfl, by simpa using h⟩
  | [], b :: y, r, s, _, hy, h => by
    have : c = b := (List.cons.inj h).1
    exact absurd (by simp [this]) hy
  | a :: x, [], r, s, hx, _, h => by
    have : a = c := (List.cons.inj h).1
    exact absurd (by simp [this]) hx
  | a :: x, b :: y, r, s, hx, hy, h => by
    obtain ⟨h1, h2⟩ := List.cons.inj h
    obtain ⟨h3, h4⟩ := head_split (fun z => hx (List.mem_cons_of_mem _ z)) (fun z => hy (List.mem_cons_of_mem _ z)) h2
    exact ⟨by rw [h1, h3], h4⟩
theorem glu_inj {c : Nat} : ∀ {xs ys : List (List Nat)}, xs ≠ [] → ys ≠ [] → (∀ x ∈ xs, c ∉ x) → (∀ y ∈ ys, c ∉ y) → gluL c xs = gluL c ys → xs = ys
  | [], _, h, _, _, _, _ => absurd rfl h
  | _, [], _, h, _, _, _ => absurd rfl h
  | [x], [y], _, _, _, _, h => by rw [show x = y from h]
  | [x], y :: z :: r, _, _, hx, _, h => by
    have h : x = y ++ c :: gluL c (z :: r) := h
    exact absurd (by rw [h]; simp) (hx x (by simp))
  | x :: z :: r, [y], _, _, _, hy, h => by
    have h : x ++ c :: gluL c (z :: r) = y := h
    exact absurd (by rw [← h]; simp) (hy y (by simp))
  | x :: z :: r, y :: u :: s, _, _, hx, hy, h => by
    have h : x ++ c :: gluL c (z :: r) = y ++ c :: gluL c (u :: s) := h
    obtain ⟨h1, h2⟩ := head_split (hx x (by simp)) (hy y (by simp)) h
    have := glu_inj (xs := z :: r) (ys := u :: s) (by simp) (by simp) (fun w hw => hx w (List.mem_cons_of_mem _ hw)) (fun w hw => hy w (List.mem_cons_of_mem _ hw)) h2
    rw [h1, this]
theorem split_ne (x : Str) (c : Nat) : Txt.split x ⟨#[c]⟩ ≠ [] := by
  unfold Txt.split
  split
  · simp
  · split
    · simp
    · unfold Builtin.Str.partsBetween
      simp
theorem split_join {c : Nat} {ys : List Str} (h0 : ys ≠ []) (h : ∀ y ∈ ys, c ∉ y.cps.toList) : Txt.split (Txt.join ⟨#[c]⟩ ys) ⟨#[c]⟩ = ys := by
  have e : Txt.join ⟨#[c]⟩ (Txt.split (Txt.join ⟨#[c]⟩ ys) ⟨#[c]⟩) = Txt.join ⟨#[c]⟩ ys := (StrLaws.glued_eq_join _ _).trans (StrLaws.join_split _ _)
  have e2 := congrArg (fun s : Str => s.cps.toList) e
  simp only [glu_join] at e2
  have e3 := glu_inj (c := c) (fun z => split_ne _ c (List.map_eq_nil_iff.mp z)) (fun z => h0 (List.map_eq_nil_iff.mp z)) (fun x hx => by
    obtain ⟨p, hp, rfl⟩ := List.mem_map.mp hx
    exact StrLaws.split_free _ c p hp) (fun y hy => by
    obtain ⟨p, hp, rfl⟩ := List.mem_map.mp hy
    exact h p hp) e2
  have inj : ∀ {a b : Str}, a.cps.toList = b.cps.toList → a = b := fun {a b} q => by
    cases a; cases b
    simp only [Array.toList_inj] at q
    rw [show _ = _ from q]
  exact List.map_inj_right (fun a b q => inj q) |>.mp e3
/-! ### reading a part, a heap -/
open PySem.NumText in
def valW (w : Str) : Int := ((digitsVal w.cps.toList : Nat) : Int)
def digB (c : Nat) : Bool := decide (48 ≤ c) && decide (c ≤ 57)
def okW (w : Str) : Bool := !decide (w = "") && !decide (w.cps.toList.head? = some 48) && decide (w.length ≤ 60) && w.cps.toList.all digB
theorem eqv_S (a b : Str) : PyData.eqv (.str a) (.str b) = decide (a = b) := by
  by_cases h : a = b <;> simp [PyData.eqv, h]
theorem eqvT_S {a b : Str} (h : a = b) : PyData.eqv (.str a) (.str b) = true := by rw [eqv_S, decide_eq_true h]
theorem sh_S {a : Str} (h : PyData.strOk a = true) : SeqAt.shaped (.str a) = true := by
  unfold SeqAt.shaped PyData.canLay0
  simp [PyData.depth, h]
theorem strOk_iff {a : Str} : PyData.strOk a = true ↔ ∀ c ∈ a.cps.toList, c < 0x110000 := by
  unfold PyData.strOk
  rw [← Array.all_toList, List.all_eq_true]
  simp
theorem strOk_sign {c : Nat} (h : c < 0x110000) : PyData.strOk ⟨#[c]⟩ = true := strOk_iff.mpr fun d hd => by
  have : d = c := by simpa using hd
  omega
theorem glu_mem {c : Nat} : ∀ {xs : List (List Nat)} {x : List Nat} {d : Nat}, x ∈ xs → d ∈ x → d ∈ gluL c xs
  | [y], x, d, hx, hd => by rw [List.mem_singleton.mp hx] at hd; exact hd
  | y :: z :: r, x, d, hx, hd => by
    show d ∈ y ++ c :: gluL c (z :: r)
    rcases List.mem_cons.mp hx with e | hx
    · rw [e] at hd; exact List.mem_append_left _ hd
    · exact List.mem_append_right _ (List.mem_cons_of_mem _ (glu_mem hx hd))
theorem split_mem {t w : Str} {c d : Nat} (hw : w ∈ Txt.split t ⟨#[c]⟩) (hd : d ∈ w.cps.toList) : d ∈ t.cps.toList := by
  have e : Txt.join ⟨#[c]⟩ (Txt.split t ⟨#[c]⟩) = t := (StrLaws.glued_eq_join _ _).trans (StrLaws.join_split _ _)
  have e2 := glu_join c (Txt.split t ⟨#[c]⟩)
  rw [e] at e2
  rw [e2]
  exact glu_mem (List.mem_map.mpr ⟨w, hw, rfl⟩) hd
theorem split_ok {t w : Str} {c : Nat} (h : PyData.strOk t = true) (hw : w ∈ Txt.split t ⟨#[c]⟩) : PyData.strOk w = true := strOk_iff.mpr fun d hd => strOk_iff.mp h d (split_mem hw hd)
theorem glu_len {c : Nat} : ∀ {xs : List (List Nat)} {x : List Nat}, x ∈ xs → x.length ≤ (gluL c xs).length
  | [y], x, hx => by rw [List.mem_singleton.mp hx]; exact Nat.le_refl _
  | y :: z :: r, x, hx => by
    show x.length ≤ (y ++ c :: gluL c (z :: r)).length
    rw [List.length_append, List.length_cons]
    rcases List.mem_cons.mp hx with e | hx
    · rw [e]; omega
    · have := glu_len (c := c) hx
      omega
theorem split_len {t w : Str} {c : Nat} (hw : w ∈ Txt.split t ⟨#[c]⟩) : w.length ≤ t.length := by
  have e : Txt.join ⟨#[c]⟩ (Txt.split t ⟨#[c]⟩) = t := (StrLaws.glued_eq_join _ _).trans (StrLaws.join_split _ _)
  have e2 := glu_join c (Txt.split t ⟨#[c]⟩)
  rw [e] at e2
  show w.cps.size ≤ t.cps.size
  rw [← Array.length_toList, ← Array.length_toList, e2]
  exact glu_len (List.mem_map.mpr ⟨w, hw, rfl⟩)
theorem split_few (t : Str) (b : Str) : (Txt.split t b).length ≤ t.length + 2 := PyProof.Rows.split_le t b
theorem fig_iff (c : Nat) : c ∈ ("0123456789" : Str).cps.toList ↔ digB c = true := by
  have e : ("0123456789" : Str).cps.toList = [48, 49, 50, 51, 52, 53, 54, 55, 56, 57] := by decide
  rw [e]
  unfold digB
  rw [Bool.and_eq_true, decide_eq_true_iff, decide_eq_true_iff]
  simp only [List.mem_cons, List.not_mem_nil, or_false]
  omega
theorem fig_dec (c : Nat) : decide (c ∈ ("0123456789" : Str).cps.toList) = digB c := by
  cases h : digB c with
  | true => exact decide_eq_true ((fig_iff c).mpr h)
  | false => exact decide_eq_false fun z => by rw [(fig_iff c).mp z] at h; cases h
theorem str_ne {w : Str} (h : ¬ w = "") : ∃ c r, w.cps.toList = c :: r := by
  cases e : w.cps.toList with
  | nil =>
    refine absurd ?_ h
    cases w with
    | mk a =>
      have e : a.toList = [] := e
      have : a = #[] := by cases a; simp at e; rw [e]
      rw [this]
      rfl
  | cons c r => exact ⟨c, r, rfl⟩
theorem sign_eq (c d : Nat) : ((⟨#[c]⟩ : Str) = ⟨#[d]⟩) ↔ c = d := by simp
open PySem.NumText in
theorem okW_reads {w : Str} (h : okW w = true) : intText? w = some (valW w) := by
  unfold okW at h
  simp only [Bool.and_eq_true, Bool.not_eq_true', decide_eq_false_iff_not, decide_eq_true_iff, List.all_eq_true] at h
  obtain ⟨⟨⟨h1, h2⟩, h3⟩, h4⟩ := h
  obtain ⟨c, r, e⟩ := str_ne h1
  exact intText_digits (fun d hd => by
    have := h4 d hd
    unfold digB at this
    simpa using this) (by rw [e]; simp) (by omega)
theorem okW_num {n : Int} (h1 : 1 ≤ n) (h2 : n < 10 ^ 60) : okW (numS n) = true := by
  obtain ⟨c, r, e, hc⟩ := numS_head h1
  have hl := numS_len (k := 60) (by decide) (by omega) h2
  unfold okW
  simp only [Bool.and_eq_true, Bool.not_eq_true', decide_eq_false_iff_not, decide_eq_true_iff, List.all_eq_true]
  refine ⟨⟨⟨fun z => ?_, ?_⟩, hl⟩, fun d hd => ?_⟩
  · rw [z] at e
    have e : ([] : List Nat) = c :: r := e
    cases e
  · rw [e]
    simp [hc]
  · have := numS_digit (n := n) (by omega) d hd
    unfold digB
    simp [this]
theorem valW_num {n : Int} (h : 0 ≤ n) : valW (numS n) = n := by
  unfold valW
  rw [numS_signs h, PySem.W.KIN.val_back]
  omega
def downB (xs : List Int) : Bool := (xs.zip (xs.drop 1)).all fun p => !decide (p.1 < p.2)
def readW (t : Str) : Option (List Int) := if t = "none" then some [] else
  if 60 < (Txt.split t " ").length then none else if ((Txt.split t " ").all okW && downB ((Txt.split t " ").map valW)) = true then some ((Txt.split t " ").map valW) else none
def heapS (h : Heap1) : Str := if h = [] then "none" else Txt.join " " (h.map numS)
theorem atI_hd {α : Type} (c : α) (r : List α) : atI (c :: r) 0 = some c := atI_nat (j := 0) (by rfl)
theorem okW_no0 {w : Str} {c : Nat} {r : List Nat} (hc : w.cps.toList = c :: r) (h : c = 48) : okW w = false := by
  unfold okW
  rw [hc, h]
  simp
theorem okW_noL {w : Str} (h : ¬ w.length ≤ 60) : okW w = false := by
  unfold okW
  simp [h]
theorem okW_noD {w : Str} {c : Nat} (hc : c ∈ w.cps.toList) (h : digB c = false) : okW w = false := by
  have : w.cps.toList.all digB = false := by
    rw [Bool.eq_false_iff]
    intro z
    rw [List.all_eq_true] at z
    rw [z c hc] at h
    cases h
  unfold okW
  rw [this, Bool.and_false]
theorem okW_yes {w : Str} {c : Nat} {r : List Nat} (hc : w.cps.toList = c :: r) (h0 : ¬ w = "") (h1 : ¬ c = 48) (h2 : w.length ≤ 60) (h3 : ∀ d ∈ w.cps.toList, digB d = true) : okW w = true := by
  unfold okW
  rw [decide_eq_false h0, decide_eq_true h2, List.all_eq_true.mpr h3, hc, decide_eq_false (by simp [h1])]
  rfl
theorem glu_from {c d : Nat} : ∀ {xs : List (List Nat)}, d ∈ gluL c xs → d = c ∨ ∃ x ∈ xs, d ∈ x
  | [], h => by simp [gluL] at h
  | [x], h => .inr ⟨x, by simp, h⟩
  | x :: y :: r, h => by
    have h : d ∈ x ++ c :: gluL c (y :: r) := h
    rcases List.mem_append.mp h with h | h
    · exact .inr ⟨x, by simp, h⟩
    · rcases List.mem_cons.mp h with h | h
      · exact .inl h
      · rcases glu_from h with h | ⟨z, h1, h2⟩
        · exact .inl h
        · exact .inr ⟨z, List.mem_cons_of_mem _ h1, h2⟩
theorem join_sp (ys : List Str) : (Txt.join " " ys).cps.toList = gluL 32 (ys.map (·.cps.toList)) := glu_join 32 ys
theorem heapS_ok {h : Heap1} (hx : ∀ x ∈ h, 0 ≤ x ∧ x < 10 ^ 60) : PyData.strOk (heapS h) = true := by
  unfold heapS
  split
  · decide +kernel
  · refine strOk_iff.mpr fun d hd => ?_
    rw [join_sp] at hd
    rcases glu_from hd with rfl | ⟨z, hz, hd⟩
    · decide
    · obtain ⟨y, hy, rfl⟩ := List.mem_map.mp hz
      obtain ⟨x, hx', rfl⟩ := List.mem_map.mp hy
      have := numS_digit (hx x hx').1 d hd
      omega
theorem sum_nums {h : Heap1} (hx : ∀ x ∈ h, 0 ≤ x ∧ x < 10 ^ 60) : ((h.map numS).map (·.length)).sum + (h.map numS).length * (" " : Str).length ≤ 61 * h.length := by
  have : ∀ g : Heap1, (∀ x ∈ g, 0 ≤ x ∧ x < 10 ^ 60) → ((g.map numS).map (·.length)).sum ≤ 60 * g.length := fun g => by
    induction g with
    | nil => intro _; exact Nat.le_refl _
    | cons x g ih =>
      intro hg
      have h1 := ih fun y hy => hg y (List.mem_cons_of_mem _ hy)
      have h2 := hg x (by simp)
      have h3 := numS_len (k := 60) (by decide) h2.1 h2.2
      simp only [List.map_cons, List.sum_cons, List.length_cons]
      omega
  have h1 := this h hx
  have h2 : (" " : Str).length = 1 := rfl
  rw [h2, List.length_map]
  omega
theorem heapS_len {h : Heap1} (hx : ∀ x ∈ h, 0 ≤ x ∧ x < 10 ^ 60) : (heapS h).length ≤ 61 * h.length + 4 := by
  unfold heapS
  split
  · exact Nat.le_add_left _ _
  · have e : Txt.join " " (h.map numS) = Str.join " " (h.map numS) := StrLaws.glued_eq_join _ _
    rw [e]
    have := StrLaws.join_length_le " " (h.map numS)
    have := sum_nums hx
    omega
theorem down_heap : ∀ {h : Heap1}, h.Pairwise (fun a b => b ≤ a) → downB h = true
  | [], _ => rfl
  | [x], _ => rfl
  | x :: y :: r, hp => by
    have ih := down_heap (h := y :: r) (List.pairwise_cons.mp hp).2
    have h1 := (List.pairwise_cons.mp hp).1 y (by simp)
    unfold downB at ih ⊢
    show ((x, y) :: (y :: r).zip r).all _ = true
    rw [List.all_cons]
    have e : ((y :: r).zip r).all (fun p : Int × Int => !decide (p.1 < p.2)) = true := ih
    rw [e]
    simp
    omega
theorem readW_heap {h : Heap1} (hl : h.length ≤ 60) (hx : ∀ x ∈ h, 1 ≤ x ∧ x < 10 ^ 60) (hd : h.Pairwise (fun a b => b ≤ a)) : readW (heapS h) = some h := by
  unfold readW heapS
  by_cases h0 : h = []
  · rw [if_pos h0, if_pos rfl, h0]
  · rw [if_neg h0]
    have sj : Txt.split (Txt.join " " (h.map numS)) " " = h.map numS := split_join (c := 32) (fun z => h0 (List.map_eq_nil_iff.mp z)) fun y hy => by
      obtain ⟨x, hx', rfl⟩ := List.mem_map.mp hy
      intro z
      have := numS_digit (n := x) (by have := hx x hx'; omega) 32 z
      omega
    have nn : ¬ Txt.join " " (h.map numS) = "none" := fun z => by
      rw [z] at sj
      obtain ⟨x, r, e⟩ := List.exists_cons_of_ne_nil h0
      have hn : numS x ∈ Txt.split "none" " " := by rw [sj, e]; simp
      obtain ⟨c, q, e2⟩ : ∃ c q, (numS x).cps.toList = c :: q := by
        obtain ⟨c, q, e2, _⟩ := numS_head (n := x) (by have := hx x (by rw [e]; simp); omega)
        exact ⟨c, q, e2⟩
      have hm := split_mem (c := 32) (d := c) hn (by rw [e2]; simp)
      have hg := numS_digit (n := x) (by have := hx x (by rw [e]; simp); omega) c (by rw [e2]; simp)
      have hc : c ∈ [110, 111, 110, 101] := hm
      simp only [List.mem_cons, List.not_mem_nil, or_false] at hc
      omega
    rw [if_neg nn, sj, List.length_map, if_neg (by omega)]
    have e1 : (h.map numS).all okW = true := List.all_eq_true.mpr fun y hy => by
      obtain ⟨x, hx', rfl⟩ := List.mem_map.mp hy
      exact okW_num (hx x hx').1 (hx x hx').2
    have e2 : (h.map numS).map valW = h := by
      rw [List.map_map]
      have : ∀ x ∈ h, (valW ∘ numS) x = x := fun x hx' => valW_num (by have := hx x hx'; omega)
      exact (List.map_congr_left this).trans (List.map_id h)
    rw [e1, e2, down_heap hd]
    rfl
end Dt

namespace K06
open PySem PySem.Spec PyProof.Rows L2 Dt

def topS (i : Nat) : Stmt := PySem.Challenge.pw_shutpairs_k06_heaps_as_texts.main.body.getD i (.Pass ⟨0, 0, 0, 0⟩)
abbrev s__law_mix : Stmt := topS 13
theorem sc__law_mix : FnScope ["_law_state", "_law_count", "_law_cell", "_law_stirred"] ["_law_state"] (defScope s__law_mix) := ⟨rfl, rfl, rfl, by decide +kernel, rfl, by decide +kernel, by decide +kernel⟩
abbrev s__law_draw : Stmt := topS 12
theorem sc__law_draw : FnScope ["_law_state", "_law_many", "_law_told", "_law_size"] ["_law_state", "_law_many"] (defScope s__law_draw) := ⟨rfl, rfl, rfl, by decide +kernel, rfl, by decide +kernel, by decide +kernel⟩
abbrev s__law_whole : Stmt := topS 16
theorem sc__law_whole : FnScope ["_law_found"] ["_law_found"] (defScope s__law_whole) := ⟨rfl, rfl, rfl, by decide +kernel, rfl, by decide +kernel, by decide +kernel⟩
abbrev s__law_row : Stmt := topS 15
theorem sc__law_row : FnScope ["_law_found", "_law_one"] ["_law_found"] (defScope s__law_row) := ⟨rfl, rfl, rfl, by decide +kernel, rfl, by decide +kernel, by decide +kernel⟩
abbrev s__law_some_heap : Stmt := topS 14
theorem sc__law_some_heap : FnScope ["_law_state", "_law_many", "_law_size", "_law_parts", "_law_k"] ["_law_state"] (defScope s__law_some_heap) := ⟨rfl, rfl, rfl, by decide +kernel, rfl, by decide +kernel, by decide +kernel⟩
abbrev s__law_start : Stmt := topS 11
theorem sc__law_start : FnScope ["_law_script", "_law_great", "_law_cell"] ["_law_script"] (defScope s__law_start) := ⟨rfl, rfl, rfl, by decide +kernel, rfl, by decide +kernel, by decide +kernel⟩
abbrev s__law_text : Stmt := topS 17
theorem sc__law_text : FnScope ["_law_heap", "_law_part"] ["_law_heap"] (defScope s__law_text) := ⟨rfl, rfl, rfl, by decide +kernel, rfl, by decide +kernel, by decide +kernel⟩
abbrev s_heap_text : Stmt := topS 7
theorem sc_heap_text : FnScope ["heap", "part"] ["heap"] (defScope s_heap_text) := ⟨rfl, rfl, rfl, by decide +kernel, rfl, by decide +kernel, by decide +kernel⟩
abbrev s_read_part : Stmt := topS 8
theorem sc_read_part : FnScope ["word", "sign"] ["word"] (defScope s_read_part) := ⟨rfl, rfl, rfl, by decide +kernel, rfl, by decide +kernel, by decide +kernel⟩
abbrev s_read_heap : Stmt := topS 9
theorem sc_read_heap : FnScope ["text", "words", "parts", "word", "part", "later"] ["text"] (defScope s_read_heap) := ⟨rfl, rfl, rfl, by decide +kernel, rfl, by decide +kernel, by decide +kernel⟩
abbrev s_law : Stmt := topS 18
theorem sc_law : FnScope ["_law_script", "_law_state", "_law_one", "_law_other", "_law_heap", "_law_due", "_law_found", "_law_told"] ["_law_script"] (defScope s_law) := ⟨rfl, rfl, rfl, by decide +kernel, rfl, by decide +kernel, by decide +kernel⟩
structure Txt (K : PySem.W.Frag) (mg : Str → Option Value) where
  ca : Nat → Addr
  xf : XF K mg [0, 3] ca
  f__law_mix : Addr
  d__law_mix : FuncData
  F__law_mix : Fun K "_law_mix" "_law_mix" s__law_mix f__law_mix d__law_mix
  b__law_mix : Binds K d__law_mix ["_law_state"] []
  g__law_mix : mg "_law_mix" = some (.ref f__law_mix)
  f__law_draw : Addr
  d__law_draw : FuncData
  F__law_draw : Fun K "_law_draw" "_law_draw" s__law_draw f__law_draw d__law_draw
  b__law_draw : Binds K d__law_draw ["_law_state", "_law_many"] []
  g__law_draw : mg "_law_draw" = some (.ref f__law_draw)
  f__law_whole : Addr
  d__law_whole : FuncData
  F__law_whole : Fun K "_law_whole" "_law_whole" s__law_whole f__law_whole d__law_whole
  b__law_whole : Binds K d__law_whole ["_law_found"] []
  g__law_whole : mg "_law_whole" = some (.ref f__law_whole)
  f__law_row : Addr
  d__law_row : FuncData
  F__law_row : Fun K "_law_row" "_law_row" s__law_row f__law_row d__law_row
  b__law_row : Binds K d__law_row ["_law_found"] []
  g__law_row : mg "_law_row" = some (.ref f__law_row)
  f__law_some_heap : Addr
  d__law_some_heap : FuncData
  F__law_some_heap : Fun K "_law_some_heap" "_law_some_heap" s__law_some_heap f__law_some_heap d__law_some_heap
  b__law_some_heap : Binds K d__law_some_heap ["_law_state"] []
  g__law_some_heap : mg "_law_some_heap" = some (.ref f__law_some_heap)
  f__law_start : Addr
  d__law_start : FuncData
  F__law_start : Fun K "_law_start" "_law_start" s__law_start f__law_start d__law_start
  b__law_start : Binds K d__law_start ["_law_script"] []
  g__law_start : mg "_law_start" = some (.ref f__law_start)
  f__law_text : Addr
  d__law_text : FuncData
  F__law_text : Fun K "_law_text" "_law_text" s__law_text f__law_text d__law_text
  b__law_text : Binds K d__law_text ["_law_heap"] []
  g__law_text : mg "_law_text" = some (.ref f__law_text)
  f_heap_text : Addr
  d_heap_text : FuncData
  F_heap_text : Fun K "heap_text" "heap_text" s_heap_text f_heap_text d_heap_text
  b_heap_text : Binds K d_heap_text ["heap"] []
  g_heap_text : mg "heap_text" = some (.ref f_heap_text)
  f_read_part : Addr
  d_read_part : FuncData
  F_read_part : Fun K "read_part" "read_part" s_read_part f_read_part d_read_part
  b_read_part : Binds K d_read_part ["word"] []
  g_read_part : mg "read_part" = some (.ref f_read_part)
  f_read_heap : Addr
  d_read_heap : FuncData
  F_read_heap : Fun K "read_heap" "read_heap" s_read_heap f_read_heap d_read_heap
  b_read_heap : Binds K d_read_heap ["text"] []
  g_read_heap : mg "read_heap" = some (.ref f_read_heap)
  f_law : Addr
  d_law : FuncData
  F_law : Fun K "law" "law" s_law f_law d_law
  b_law : Binds K d_law ["_law_script"] []
  g_law : mg "law" = some (.ref f_law)
  z_all : mg "all" = none
  z_bool : mg "bool" = none
  z_int : mg "int" = none
  z_isinstance : mg "isinstance" = none
  z_len : mg "len" = none
  z_range : mg "range" = none
  z_sorted : mg "sorted" = none
  z_str : mg "str" = none
  z_tuple : mg "tuple" = none
  z_zip : mg "zip" = none
  c_FIGURES : ∃ t, mg "FIGURES" = some (.str "0123456789" t)
  c_MOST_PARTS : ∃ t, mg "MOST_PARTS" = some (.int 60 t)
  c_MOST_SIGNS : ∃ t, mg "MOST_SIGNS" = some (.int 60 t)
def isWhole : D → Bool
  | .int _ => true
  | _ => false
def sp__law_whole : DSp := fun os P PX => match os with
  | [.d d] => noInst d ∧ P (.d (.bool (isWhole d))) [.d d]
  | _ => False

def sp__law_row : DSp := fun os P PX => match os with
  | [.d d] => heapK d fun h => P (.d (.bool true)) [.d (hD h)]
  | _ => False

def sp__law_some_heap : DSp := fun os P PX => match os with
  | [.lent a (.st b)] => b ≤ 10 ^ 14 ∧ ∀ (h : Heap1) b', isHeap h → h.length ≤ 60 → (∀ x ∈ h, x ≤ 10 ^ 59) → b ≤ b' → b' ≤ b + 1000 → P (.d (hD h)) [.lent a (.st b')]
  | _ => False

def sp__law_text : DSp := fun os P PX => match os with
  | [.d d] => heapK d fun h => h.length ≤ 100 ∧ (∀ x ∈ h, 0 ≤ x ∧ x < 10 ^ 60) ∧ P (.d (.str (heapS h))) [.d (hD h)]
  | _ => False

def sp_heap_text : DSp := fun os P PX => match os with
  | [.d d] => heapK d fun h => h.length ≤ 100 ∧ (∀ x ∈ h, 0 ≤ x ∧ x < 10 ^ 60) ∧ P (.d (.str (heapS h))) [.d (hD h)]
  | _ => False

-- text word
-- stop r1 r2
def sp_read_part : DSp := fun os P PX => match os with
  | [.d (.str w)] => w.length ≤ 16000000 ∧ PyData.strOk w = true ∧ (okW w = true → P (.d (.int (valW w))) [.d (.str w)]) ∧ (okW w = false → PX ⟨3, []⟩ [.d (.str w)])
  | _ => False

-- compx
-- stop r1 r2 r3 r4
-- cut words parts
def sp_read_heap : DSp := fun os P PX => match os with
  | [.d (.str t)] => t.length ≤ 1000000 ∧ PyData.strOk t = true ∧ (match readW t with
    | some h => P (.d (hD h)) [.d (.str t)]
    | none => PX ⟨3, []⟩ [.d (.str t)])
  | _ => False

-- stop r1 r2 r3 r5

local macro_rules | `(tactic| walk_at "side") => `(tactic| first | trivial | omega | decide | exact Nat.le_of_ble_eq_true rfl | exact sh_int _ | exact sh_heap _ | exact sh_rule _ | exact sh_bool _ | exact sh_lints _ | exact sh_lheaps _ | exact sh_LL _ | exact sh_lpI _ | exact sh_L1 _ | exact sh_pr _ | exact sh_pl _ | exact sh_lpl _ | exact sh_lpr _ | exact sh_S (by assumption) | exact sh_S rfl | exact ⟨by decide, by decide, by omega⟩ | exact .inl rfl | exact .inr rfl | exact .inr (noL_heap _) | exact noL_heap _ | exact noL_rule _ | exact noLs_ints _ | exact noLs_heaps _ | exact noL_pr _ | exact noL_pl _ | exact noLs_pls _ | exact noLs_prs _ | exact noLs_pI _ | exact noLs_bools _ | exact ord_ok _ _ | ((with_reducible (show thawG _ _ _)); walk_at "thaw") | exact ⟨sh_lints _, sh_int _⟩ | exact ⟨sh_lheaps _, sh_heap _⟩ | assumption | decide +kernel | (simp only [List.length_map, List.length_cons, List.length_nil, List.length_append, List.length_reverse, List.length_range, List.length_replicate, List.length_dropLast, List.length_take, List.length_drop, List.length_set, List.flatten_replicate_singleton, len_srt, Int.toNat_natCast]; first | done | omega))
local macro_rules | `(tactic| walk_at "eqs") => `(tactic| first | rfl | omega | assumption | (symm; assumption) | (simp only [List.length_map]; omega))
local macro_rules | `(tactic| walk_at "eqv") => `(tactic| first | (refine eqvT_I ?_; walk_at "eqs") | (refine eqvT_H ?_; walk_at "eqs") | (refine eqvT_R ?_; walk_at "eqs") | (refine eqvT_LI ?_; walk_at "eqs") | (refine eqvT_LH ?_; walk_at "eqs") | (refine eqvT_LL ?_; walk_at "eqs") | (refine eqvT_LPI ?_; walk_at "eqs") | (refine eqvT_B ?_; walk_at "eqs") | (refine eqvT_P ?_; walk_at "eqs") | (refine eqvT_PL ?_; walk_at "eqs") | (refine eqvT_LPL ?_; walk_at "eqs") | exact eqv_str _ | (refine eqvT_S ?_; walk_at "eqs"))
local macro_rules | `(tactic| walk_at "st") => `(tactic| first
  | refine heapK_in ?_ | refine ruleK_in ?_ | refine prK_in ?_ | refine prK_in2 ?_ | refine lprK_in ?_ | refine lhK_in ?_ | refine stK_in ?_ | refine llK_in ?_ | refine besR_in ?_ | refine besK_in ?_ | refine nkK_H ?_ | refine nkK_P ?_ | refine plK_in ?_ | refine lplK_in ?_ | refine plK_in2 ?_ | refine rrK_in ?_ | refine lanK_in ?_ | refine lanK_inT ?_ | refine rwK_in ?_ | refine rwK_inT ?_ | refine heapK_nil' ?_ | refine oiK_in ?_ | refine oiK_none ?_ | refine oiK_int ?_ | refine intsK_in ?_ | refine rowsK_in ?_ | refine intsK_app ?_ | refine intsK_as rfl ?_ | refine boolsK_as rfl ?_ | refine heapK_app ?_ | refine boolsK_in ?_ | refine strsK_in ?_ | refine getK_in rfl ?_ | refine getK_hd ?_ | refine getK_hdM ?_
  | refine brT ?_ | refine brF ?_ | (refine brDT ?_ ?_; · omega) | (refine brDF ?_ ?_; · omega) | (refine brNT ?_ ?_; · omega) | (refine brNF ?_ ?_; · omega) | (refine brET ?_ ?_; · walk_at "eqv") | (refine brNET ?_ ?_; · walk_at "eqv")
  | refine brSubT rfl ?_ | refine brSubF rfl ?_ | (refine brAT ?_ ?_; · assumption) | (refine brAF ?_ ?_; · assumption) | (refine brNAT ?_ ?_; · assumption) | (refine brNAF ?_ ?_; · assumption) | refine forGo_nil ?_ | refine compGo_nil ?_ | ((fail_if_success with_reducible refine brB ?_ ?_); refine And.intro ?_ ?_; · walk_at "side"))
local macro_rules | `(tactic| walk_at "go") => `(tactic| (conv => whnf); repeat (walk_at "st"; conv => whnf))
local macro_rules | `(tactic| walk_at "br") => `(tactic| first
  | refine br ?_ ?_ | refine brN ?_ ?_ | refine brNLm ?_ ?_ | refine brNL ?_ ?_ | refine brLm ?_ ?_ | refine brL ?_ ?_ | refine brZ ?_ ?_ | refine brE (eqv_I _ _) ?_ ?_ | refine brE (eqv_H _ _) ?_ ?_ | refine brE (eqv_R _ _) ?_ ?_ | refine brE (eqv_LI _ _) ?_ ?_ | refine brE (eqv_LH _ _) ?_ ?_ | refine brE (eqv_B _ _) ?_ ?_ | refine brE (eqv_PL _ _) ?_ ?_ | refine brE (eqv_LPL _ _) ?_ ?_ | refine brE (eqv_S _ _) ?_ ?_
  | refine brNE (eqv_I _ _) ?_ ?_ | refine brNE (eqv_H _ _) ?_ ?_ | refine brNE (eqv_R _ _) ?_ ?_ | refine brNE (eqv_LI _ _) ?_ ?_ | refine brNE (eqv_LH _ _) ?_ ?_ | refine brNE (eqv_B _ _) ?_ ?_ | refine brNE (eqv_PL _ _) ?_ ?_ | refine brNE (eqv_LPL _ _) ?_ ?_ | refine brNE (eqv_S _ _) ?_ ?_ | refine brBn ?_ ?_ | refine brB ?_ ?_)
local macro_rules | `(tactic| walk_at "thaw") => `(tactic| ((conv => whnf); first | exact trivial | (refine And.intro ?_ ?_; (first | exact trivial | exact rfl | exact .inl rfl | exact .inr rfl | exact .inr (noL_heap _) | exact .inr (noL_rule _) | exact noLs_ints _ | exact noLs_heaps _ | exact noL_pr _ | exact noL_pl _ | exact noLs_pls _ | exact noLs_prs _ | exact noLs_pI _ | exact noLs_bools _); walk_at "thaw")))
local macro_rules | `(tactic| walk_at "oks") => `(tactic| repeat (first | exact trivial | (refine okS_map ?_; intro _) | (refine okS_mapT ?_; intro _) | exact okS_nil | exact okS_nilL | refine okS_cons ?_ ?_ | refine okS_consL ?_ ?_))
local macro_rules | `(tactic| walk_at "nv") => `(tactic| simp only [putC_succ, putC_own0, putC_lent0, List.set_cons_succ, List.set_cons_zero, wipeR_nil, wipeR_cons, backR_nil, backR_cons, keepD_none, keepD_free, keepD_d, keepD_own, keepD_lent, List.getElem?_cons_succ, List.getElem?_cons_zero, setsD_nil, setsD_cons])

/- 0:_law_found -/
def b__law_whole : DS := (dRet (dAndV (dUn (isiD "int") (dVar 0)) (dNotV (dUn (isiD "bool") (dVar 0)))))
theorem pf__law_whole : ∀ os PP PX, sp__law_whole os PP PX → b__law_whole (endsOf os PP PX) (rho0 1 os) := by
  intro os P PX h
  unfold sp__law_whole at h
  split at h
  · rename_i d
    obtain ⟨n, q⟩ := h
    cases d <;> first | exact n.elim | (walk_at "go"; exact q)
  · exact h.elim

/- 0:_law_found 1:_law_one -/
def b__law_row_e1 : DE := (dFrz (dCall sp__law_whole (dCons (dFrz (dVar 1)) dNil)))
def b__law_row : DS := (dRet (dAndV (dUn (isiD "tuple") (dVar 0)) (dCB allF (dCons (dComp (dIt (dFrz (dVar 0))) (dgName 1) dYes b__law_row_e1 [1]) dNil))))
theorem pf__law_row : ∀ os PP PX, sp__law_row os PP PX → b__law_row (endsOf os PP PX) (rho0 2 os) := by
  intro os P PX h
  unfold sp__law_row at h
  split at h
  · obtain ⟨ns, rfl, q⟩ := heapK_of h
    walk_at "go"
    (try (walk_at "nv")); refine compGo_mapB PyData.int (fun _ => true) (fun x hx acc K hK => ?_) ?_
    · walk_at "go"
      exact hK
    · have e : (List.map (fun _ => true) ns).all id = true := by simp
      walk_at "go"
      rw [e]
      exact q
  · exact h.elim

/- 0:_law_state 1:_law_many 2:_law_size 3:_law_parts 4:_law_k -/
def b__law_some_heap_e1 : DE := (dFrz (dOp addD (dC (.int 1)) (dCallM sp__law_draw (dCons (dVar 0) (dCons (dFrz (dVar 2)) dNil)))))
def b__law_some_heap : DS := (dSeq (dSet 1 (dOp ixD (dLst (dCons (dC (.int 0)) (dCons (dC (.int 1)) (dCons (dC (.int 2)) (dCons (dC (.int 5)) (dCons (dC (.int 9)) (dCons (dC (.int 60)) dNil))))))) (dCallM sp__law_draw (dCons (dVar 0) (dCons (dC (.int 6)) dNil))))) (dSeq (dSet 2 (dOp ixD (dLst (dCons (dC (.int 1)) (dCons (dC (.int 3)) (dCons (dC (.int 40)) (dCons (dFrz (dOp powD (dC (.int 10)) (dC (.int 59)))) dNil))))) (dCallM sp__law_draw (dCons (dVar 0) (dCons (dC (.int 4)) dNil))))) (dSeq (dSet 3 (dComp (dItR1 (dCons (dVar 1) dNil)) (dgName 4) dYes b__law_some_heap_e1 [4])) (dRet (dCB tupleF (dCons (dCB sortRF (dCons (dVar 3) dNil)) dNil))))))
theorem pf__law_some_heap : ∀ os PP PX, sp__law_some_heap os PP PX → b__law_some_heap (endsOf os PP PX) (rho0 5 os) := by
  intro os P PX h
  unfold sp__law_some_heap at h
  split at h
  · rename_i a b
    obtain ⟨hb, q⟩ := h
    walk_at "go"
    intro k k0 k1
    walk_at "go"
    refine pickI [0, 1, 2, 5, 9, 60] rfl k0 k1 fun n hn => ?_
    obtain ⟨n0, n1⟩ := pickB _ 0 60 hn
    walk_at "go"
    intro k2 k20 k21
    walk_at "go"
    refine pickI [1, 3, 40, 10 ^ 59] rfl k20 k21 fun m hm => ?_
    obtain ⟨m0, m1⟩ := pickB _ 1 (10 ^ 59) hm
    walk_at "go"
    (try (walk_at "nv")); refine compGo_draw _ 8 (fun _ d => ∃ i, d = .int i ∧ (1 ≤ i ∧ i ≤ m)) (fun b => [some (.lent a (.st b)), some (.d (.int n)), some (.d (.int m)), none, none]) (fun x hx acc b1 K h1 h2 hK => ?_) (fun ds b2 hp h1 h2 => ?_)
    · rw [List.length_range] at h2
      walk_at "go"
      intro j j0 j1
      exact hK _ _ ⟨_, rfl, by omega, by omega⟩ (by omega) (by omega)
    · obtain ⟨ns, rfl, hl, hn⟩ := paired_ints (fun _ _ h => h) hp
      rw [List.length_range] at h2 hl
      walk_at "go"
      exact q _ _ (isHeap_srtR hn) (by rw [len_srtR]; omega) (fun x hx => Int.le_trans (hn x (mem_srtR.mp hx)).2 m1) (by omega) (by omega)
  · exact h.elim

/- 0:_law_heap 1:_law_part -/
def b__law_text_e1 : DE := (dCB strF (dCons (dVar 1) dNil))
def b__law_text_r1 : DS := (dRet (dMt "str" joinF (dC (.str " ")) (dCons (dComp (dIt (dFrz (dVar 0))) (dgName 1) dYes b__law_text_e1 [1]) dNil)))
def b__law_text : DS := (dSeq (dIf (dBl (dOp eqD (dCB lenF (dCons (dVar 0) dNil)) (dC (.int 0)))) (dRet (dC (.str "none"))) dNext) b__law_text_r1)
theorem law_text_size {h : Heap1} (hl : h.length ≤ 100) (hx : ∀ x ∈ h, 0 ≤ x ∧ x < 10 ^ 60) : ((h.map numS).map (·.length)).sum + (h.map numS).length * (" " : Str).length ≤ 16000000 := by
  have : ∀ g : Heap1, (∀ x ∈ g, 0 ≤ x ∧ x < 10 ^ 60) → ((g.map numS).map (·.length)).sum ≤ 60 * g.length := fun g => by
    induction g with
    | nil => intro _; exact Nat.le_refl _
    | cons x g ih =>
      intro hg
      have h1 := ih fun y hy => hg y (List.mem_cons_of_mem _ hy)
      have h2 := hg x (by simp)
      have h3 := numS_len (k := 60) (by decide) h2.1 h2.2
      simp only [List.map_cons, List.sum_cons, List.length_cons]
      omega
  have h1 := this h hx
  have h2 : (" " : Str).length = 1 := rfl
  rw [h2, List.length_map]
  omega
theorem law_log_60 {x : Int} (h : 0 ≤ x ∧ x < 10 ^ 60) : x.natAbs.log2 < 1920 := by
  have h1 : x.natAbs < 2 ^ 1920 := Nat.lt_of_lt_of_le (show x.natAbs < 10 ^ 60 by omega) (by decide +kernel)
  by_cases h0 : x.natAbs = 0
  · rw [h0]; decide
  · exact (Nat.log2_lt h0).mpr h1
theorem pf__law_text : ∀ os PP PX, sp__law_text os PP PX → b__law_text (endsOf os PP PX) (rho0 2 os) := by
  intro os P PX hsp
  unfold sp__law_text at hsp
  split at hsp
  · obtain ⟨h, rfl, hl, hx, q⟩ := heapK_of hsp
    have ts := law_text_size hl hx
    walk_at "go"
    walk_at "br"
    · intro e
      have e : h = [] := by simpa using e
      walk_at "go"
      unfold heapS at q
      rw [if_pos e] at q
      exact q
    · intro e
      have e : ¬ h = [] := by simpa using e
      walk_at "go"
      (try (walk_at "nv")); refine compGo_map PyData.int (fun x => PyData.str (numS x)) (fun x hx' acc K hK => ?_) ?_
      · have := law_log_60 (hx x hx')
        walk_at "go"
        exact hK
      · unfold heapS at q
        rw [if_neg e] at q
        rw [show [] ++ h.map (fun x => PyData.str (numS x)) = (h.map numS).map PyData.str from by rw [List.nil_append, List.map_map]; rfl]
        walk_at "go"
        exact q
  · exact hsp.elim

/- 0:heap 1:part -/
def b_heap_text_e1 : DE := (dCB strF (dCons (dVar 1) dNil))
def b_heap_text_r1 : DS := (dRet (dMt "str" joinF (dC (.str " ")) (dCons (dComp (dIt (dFrz (dVar 0))) (dgName 1) dYes b_heap_text_e1 [1]) dNil)))
def b_heap_text : DS := (dSeq (dIf (dNotT (dTru (dVar 0))) (dRet (dC (.str "none"))) dNext) b_heap_text_r1)
theorem text_size {h : Heap1} (hl : h.length ≤ 100) (hx : ∀ x ∈ h, 0 ≤ x ∧ x < 10 ^ 60) : ((h.map numS).map (·.length)).sum + (h.map numS).length * (" " : Str).length ≤ 16000000 := by
  have : ∀ g : Heap1, (∀ x ∈ g, 0 ≤ x ∧ x < 10 ^ 60) → ((g.map numS).map (·.length)).sum ≤ 60 * g.length := fun g => by
    induction g with
    | nil => intro _; exact Nat.le_refl _
    | cons x g ih =>
      intro hg
      have h1 := ih fun y hy => hg y (List.mem_cons_of_mem _ hy)
      have h2 := hg x (by simp)
      have h3 := numS_len (k := 60) (by decide) h2.1 h2.2
      simp only [List.map_cons, List.sum_cons, List.length_cons]
      omega
  have h1 := this h hx
  have h2 : (" " : Str).length = 1 := rfl
  rw [h2, List.length_map]
  omega
theorem log_60 {x : Int} (h : 0 ≤ x ∧ x < 10 ^ 60) : x.natAbs.log2 < 1920 := by
  have h1 : x.natAbs < 2 ^ 1920 := Nat.lt_of_lt_of_le (show x.natAbs < 10 ^ 60 by omega) (by decide +kernel)
  by_cases h0 : x.natAbs = 0
  · rw [h0]; decide
  · exact (Nat.log2_lt h0).mpr h1
theorem pf_heap_text : ∀ os PP PX, sp_heap_text os PP PX → b_heap_text (endsOf os PP PX) (rho0 2 os) := by
  intro os P PX hsp
  unfold sp_heap_text at hsp
  split at hsp
  · obtain ⟨h, rfl, hl, hx, q⟩ := heapK_of hsp
    have ts := text_size hl hx
    walk_at "go"
    walk_at "br"
    · intro e
      walk_at "go"
      unfold heapS at q
      rw [if_pos e] at q
      exact q
    · intro e
      walk_at "go"
      (try (walk_at "nv")); refine compGo_map PyData.int (fun x => PyData.str (numS x)) (fun x hx' acc K hK => ?_) ?_
      · have := log_60 (hx x hx')
        walk_at "go"
        exact hK
      · unfold heapS at q
        rw [if_neg e] at q
        rw [show [] ++ h.map (fun x => PyData.str (numS x)) = (h.map numS).map PyData.str from by rw [List.nil_append, List.map_map]; rfl]
        walk_at "go"
        exact q
  · exact hsp.elim

/- 0:word 1:sign -/
def b_read_part_f1 : DS := (dIf (dBl (dOp notInD (dVar 1) (dC (.str "0123456789")))) (dRaise 3) dNext)
def b_read_part_r1 : DS := (dRet (dCB intF (dCons (dVar 0) dNil)))
def b_read_part_r2 : DS := (dSeq (dFor (dItS (dVar 0)) (dgName 1) b_read_part_f1) (stp b_read_part_r1))
def b_read_part : DS := (dSeq (dIf (dOrT (dBl (dOp eqD (dVar 0) (dC (.str "")))) (dOrT (dBl (dOp eqD (dOp ixD (dVar 0) (dC (.int 0))) (dC (.str "0")))) (dBl (dOp gtD (dCB lenF (dCons (dVar 0) dNil)) (dC (.int 60)))))) (dRaise 3) dNext) (stp b_read_part_r2))
theorem pf_read_part : ∀ os PP PX, sp_read_part os PP PX → b_read_part (endsOf os PP PX) (rho0 2 os) := by
  intro os P PX hsp
  unfold sp_read_part at hsp
  split at hsp
  · rename_i w
    obtain ⟨hl, hk, q1, q2⟩ := hsp
    walk_at "go"
    walk_at "br"
    · intro e
      walk_at "go"
      refine q2 ?_
      unfold okW
      rw [e]
      rfl
    · intro e
      obtain ⟨c, r, hc⟩ := str_ne e
      have hc0 : c < 0x110000 := strOk_iff.mp hk c (by rw [hc]; simp)
      have hc1 := strOk_sign hc0
      walk_at "go"
      rw [hc, atI_hd]
      walk_at "go"
      walk_at "br"
      · intro e2
        walk_at "go"
        exact q2 (okW_no0 hc ((sign_eq c 48).mp e2))
      · intro e2
        have e2 : ¬ c = 48 := fun z => e2 ((sign_eq c 48).mpr z)
        walk_at "go"
        walk_at "br"
        · intro e3
          walk_at "go"
          exact q2 (okW_noL (by omega))
        · intro e3
          walk_at "go"
          refine stp_in ?_
          walk_at "go"
          (try (walk_at "nv")); refine forGo_pre sgD (fun p ρ => ∃ o1 : Option S, ρ = [some (.d (.str w)), o1] ∧ ∀ d ∈ p, digB d = true) (fun p d s ρ K ec hK hi => ?_) (fun ρ hi => ?_) ⟨_, rfl, by simp⟩
          · obtain ⟨o1, rfl, hi⟩ := hi
            have hf := fig_dec d
            walk_at "go"
            refine And.intro ⟨d, rfl⟩ ?_
            rw [show ((⟨#[d]⟩ : Str).cps[0]!) = d from rfl, hf]
            cases hd : digB d with
            | true =>
              walk_at "go"
              refine hK _ ⟨_, rfl, fun x hx => ?_⟩
              rcases List.mem_append.mp hx with hx | hx
              · exact hi x hx
              · rw [List.mem_singleton.mp hx]; exact hd
            | false =>
              walk_at "go"
              exact q2 (okW_noD (by rw [ec]; simp) hd)
          · obtain ⟨o1, rfl, hi⟩ := hi
            refine stp_in ?_
            have hr := okW_yes hc e e2 (by omega) hi
            have hn := okW_reads hr
            walk_at "go"
            rw [hn]
            exact q1 hr
  · exact hsp.elim

/- 0:text 1:words 2:parts 3:word 4:part 5:later -/
def b_read_heap_e1 : DE := (dFrz (dCall sp_read_part (dCons (dFrz (dVar 3)) dNil)))
def b_read_heap_f1 : DS := (dIf (dBl (dOp gtD (dVar 5) (dVar 4))) (dRaise 3) dNext)
def b_read_heap_r1 : DS := (dRet (dCB tupleF (dCons (dVar 2) dNil)))
def b_read_heap_r2 : DS := (dSeq (dFor (dItZ (dCons (dFrz (dVar 2)) (dCons (dFrz (dSl (dVar 2) (dPart (dC (.int 1))) dNoPart)) dNil))) (dgTup [(dgName 4), (dgName 5)]) b_read_heap_f1) (stp b_read_heap_r1))
def b_read_heap_r3 : DS := (dSeq (dSet 2 (dCompX (dIt (dFrz (dVar 1))) (dgName 3) dYes b_read_heap_e1 [3])) (stp b_read_heap_r2))
def b_read_heap_r4 : DS := (dSeq (dIf (dBl (dOp gtD (dCB lenF (dCons (dVar 1) dNil)) (dC (.int 60)))) (dRaise 3) dNext) (stp b_read_heap_r3))
def b_read_heap_r5 : DS := (dSeq (dSet 1 (dMt "str" splF (dVar 0) (dCons (dC (.str " ")) dNil))) (stp b_read_heap_r4))
def b_read_heap : DS := (dSeq (dIf (dBl (dOp eqD (dVar 0) (dC (.str "none")))) (dRet (dTup dNil)) dNext) b_read_heap_r5)
theorem sp_is : (" " : Str) = ⟨#[32]⟩ := by decide
theorem words_r1 {t : Str} {vs : List Int} {P : O → List S → Prop} {PX : Exn → List S → Prop} {o1 o3 o4 o5 : Option S} (q : P (.d (hD vs)) [.d (.str t)]) : b_read_heap_r1 (endsOf [.d (.str t)] P PX) [some (.d (.str t)), o1, some (.d (.list (vs.map PyData.int))), o3, o4, o5] := by
  walk_at "go"
  exact q
theorem words_r2 {t : Str} {vs : List Int} {P : O → List S → Prop} {PX : Exn → List S → Prop} {o1 o3 : Option S} (hl : vs.length ≤ 60) (q1 : downB vs = true → P (.d (hD vs)) [.d (.str t)]) (q2 : downB vs = false → PX ⟨3, []⟩ [.d (.str t)]) :
    b_read_heap_r2 (endsOf [.d (.str t)] P PX) [some (.d (.str t)), o1, some (.own (.lst (vs.map PyData.int))), o3, none, none] := by
  have c1 := cutM_drop PyData.int vs (k := 1) (by decide)
  have l1 : (vs.drop 1).length ≤ 60 := by rw [List.length_drop]; omega
  walk_at "go"
  rw [c1]
  walk_at "go"
  rw [zipD_map]
  (try (walk_at "nv")); refine forGo_pre (fun p : Int × Int => PyData.tuple [.int p.1, .int p.2]) (fun p ρ => ∃ o4 o5 : Option S, ρ = [some (.d (.str t)), o1, some (.d (.list (vs.map PyData.int))), o3, o4, o5] ∧ ∀ x ∈ p, ¬ x.1 < x.2) (xs := vs.zip (vs.drop 1)) (fun p x s ρ K ec hK hi => ?_) (fun ρ hi => ?_) ⟨_, _, rfl, by simp⟩
  · obtain ⟨o4, o5, rfl, hi⟩ := hi
    walk_at "go"
    walk_at "br"
    · intro e
      walk_at "go"
      refine q2 ?_
      unfold downB
      rw [Bool.eq_false_iff]
      intro z
      rw [List.all_eq_true] at z
      have := z x (by rw [ec]; simp)
      simp [e] at this
    · intro e
      walk_at "go"
      refine hK _ ⟨_, _, rfl, fun y hy => ?_⟩
      rcases List.mem_append.mp hy with hy | hy
      · exact hi y hy
      · rw [List.mem_singleton.mp hy]; exact e
  · obtain ⟨o4, o5, rfl, hi⟩ := hi
    refine stp_in ?_
    refine words_r1 (q1 ?_)
    unfold downB
    rw [List.all_eq_true]
    intro x hx
    simp [hi x hx]
theorem pf_read_heap : ∀ os PP PX, sp_read_heap os PP PX → b_read_heap (endsOf os PP PX) (rho0 6 os) := by
  intro os P PX hsp
  unfold sp_read_heap at hsp
  split at hsp
  · rename_i t
    obtain ⟨hl, hk, q⟩ := hsp
    have few := split_few t " "
    unfold readW at q
    walk_at "go"
    walk_at "br"
    · intro e
      rw [if_pos e] at q
      walk_at "go"
      exact q
    · intro e
      rw [if_neg e] at q
      have hl16 : t.length ≤ 16000000 := by omega
      walk_at "go"
      refine stp_in ?_
      walk_at "go"
      walk_at "br"
      · intro e2
        rw [List.length_map] at e2
        rw [if_pos (by omega)] at q
        walk_at "go"
        exact q
      · intro e2
        rw [List.length_map] at e2
        rw [if_neg (by omega)] at q
        walk_at "go"
        refine stp_in ?_
        walk_at "go"
        refine compGoX_pre PyData.str (fun p acc ρ => acc = (p.map valW).map PyData.int ∧ (∀ w ∈ p, okW w = true) ∧ ρ = [some (.d (.str t)), some (.d (.list ((Txt.split t " ").map PyData.str))), none, none, none, none]) (fun p w s acc ρ K ec hK hi => ?_) (fun acc ρ hi => ?_) ⟨rfl, by simp, rfl⟩
        · obtain ⟨rfl, hi, rfl⟩ := hi
          have hw : w ∈ Txt.split t " " := by rw [ec]; simp
          have w1 : PyData.strOk w = true := split_ok (c := 32) hk hw
          have w2 : w.length ≤ t.length := split_len (c := 32) hw
          have w3 : w.length ≤ 16000000 := by omega
          cases h : okW w with
          | true =>
            walk_at "go"
            refine hK _ _ ⟨by simp, fun x hx => ?_, rfl⟩
            rcases List.mem_append.mp hx with hx | hx
            · exact hi x hx
            · rw [List.mem_singleton.mp hx]; exact h
          | false =>
            walk_at "go"
            have h2 : (Txt.split t " ").all okW = false := by
              rw [Bool.eq_false_iff]
              intro z
              rw [List.all_eq_true] at z
              rw [z w hw] at h
              cases h
            rw [h2, Bool.false_and] at q
            exact q
        · obtain ⟨rfl, hi, rfl⟩ := hi
          have h2 : (Txt.split t " ").all okW = true := List.all_eq_true.mpr hi
          rw [h2, Bool.true_and] at q
          walk_at "go"
          refine stp_in ?_
          refine words_r2 (by rw [List.length_map]; omega) (fun z => ?_) (fun z => ?_)
          · rw [if_pos z] at q
            exact q
          · rw [if_neg (by rw [z]; simp)] at q
            exact q
  · exact hsp.elim

/- 0:_law_script 1:_law_state 2:_law_one 3:_law_other 4:_law_heap 5:_law_due 6:_law_found 7:_law_told -/
def b_law_r1 : DS := (dSeq (dSet 7 (dCall sp_read_heap (dCons (dFrz (dVar 5)) dNil))) (dIf (dOrT (dNotT (dTru (dCall sp__law_row (dCons (dFrz (dVar 7)) dNil)))) (dBl (dOp neD (dVar 7) (dVar 4)))) (dRet (dC (.bool false))) dNext))
def b_law_r2 : DS := (dSeq (dSet 5 (dCall sp__law_text (dCons (dFrz (dVar 4)) dNil))) (dSeq (dSet 6 (dCall sp_heap_text (dCons (dFrz (dVar 4)) dNil))) (dSeq (dIf (dOrT (dNotT (dTru (dUn (isiD "str") (dVar 6)))) (dBl (dOp neD (dVar 6) (dVar 5)))) (dRet (dC (.bool false))) dNext) (stp b_law_r1))))
def b_law_r3 : DS := (dSeq (dIf (dBl (dOp gtD (dSl (dVar 4) dNoPart (dPart (dC (.int 1)))) (dTup (dCons (dFrz (dOp powD (dC (.int 10)) (dC (.int 30)))) dNil)))) (dSet 4 (dSl (dVar 4) dNoPart (dPart (dC (.int 30))))) dNext) (stp b_law_r2))
def b_law_f1 : DS := (dSeq (dIf (dBl (dOp neD (dCall sp_heap_text (dCons (dFrz (dVar 4)) dNil)) (dCall sp__law_text (dCons (dFrz (dVar 4)) dNil)))) (dRet (dC (.bool false))) dNext) (stp b_law_r3))
def b_law_r4 : DS := (dRet (dC (.bool true)))
def b_law_r5 : DS := (dSeq (dFor (dIt (dTup (dCons (dFrz (dVar 2)) (dCons (dFrz (dVar 3)) (dCons (dFrz (dVar 2)) dNil))))) (dgName 4) b_law_f1) b_law_r4)
def b_law : DS := (dSeq (dSet 2 (dCallM sp__law_some_heap (dCons (dVar 1) dNil))) (dSeq (dSet 3 (dCallM sp__law_some_heap (dCons (dVar 1) dNil))) (dSeq (dIf (dBl (dOp eqD (dCallM sp__law_draw (dCons (dVar 1) (dCons (dC (.int 8)) dNil))) (dC (.int 1)))) (dSet 2 (dOp addD (dTup (dCons (dFrz (dOp subD (dOp powD (dC (.int 10)) (dC (.int 60))) (dC (.int 1)))) dNil)) (dSl (dVar 2) dNoPart (dPart (dC (.int 20)))))) dNext) (stp b_law_r5))))
theorem law_r2 {E : DEnds} (A : Addr) (b : Nat) (u v h : Heap1) (o5 o6 o7 : Option S) (hh : isHeap h) (hl : h.length ≤ 60) (hx : ∀ x ∈ h, x < 10 ^ 60)
    (nx : ∀ o4 o5 o6 o7, E.nx [none, some (.lent A (.st b)), some (.d (hD u)), some (.d (hD v)), o4, o5, o6, o7]) :
    b_law_r2 E [none, some (.lent A (.st b)), some (.d (hD u)), some (.d (hD v)), some (.d (hD h)), o5, o6, o7] := by
  have hx0 : ∀ x ∈ h, 0 ≤ x ∧ x < 10 ^ 60 := fun x hx' => by have := hh.2 x hx'; have := hx x hx'; omega
  have hx1 : ∀ x ∈ h, 1 ≤ x ∧ x < 10 ^ 60 := fun x hx' => by have := hh.2 x hx'; have := hx x hx'; omega
  have k1 := heapS_ok hx0
  have k2 := heapS_len hx0
  have k3 := readW_heap hl hx1 hh.1
  walk_at "go"
  refine stp_in ?_
  walk_at "go"
  rw [k3]
  walk_at "go"
  exact nx _ _ _ _
theorem law_f1 {E : DEnds} (A : Addr) (b : Nat) (u v h : Heap1) (o5 o6 o7 : Option S) (hh : isHeap h) (hl : h.length ≤ 60) (hx : ∀ x ∈ h, x < 10 ^ 60)
    (nx : ∀ o4 o5 o6 o7, E.nx [none, some (.lent A (.st b)), some (.d (hD u)), some (.d (hD v)), o4, o5, o6, o7]) :
    b_law_f1 E [none, some (.lent A (.st b)), some (.d (hD u)), some (.d (hD v)), some (.d (hD h)), o5, o6, o7] := by
  have hx0 : ∀ x ∈ h, 0 ≤ x ∧ x < 10 ^ 60 := fun x hx' => by have := hh.2 x hx'; have := hx x hx'; omega
  have k1 := heapS_ok hx0
  walk_at "go"
  refine stp_in ?_
  walk_at "go"
  rw [cutM_take _ _ (by decide)]
  refine And.intro (ord_ok _ [10 ^ 30]) ?_
  generalize PySem.W.dataLt (PyData.tuple [PyData.int (10 ^ Int.toNat 30)]) (PyData.tuple ((h.take (Int.toNat 1)).map PyData.int)) = z
  cases z with
  | true =>
    walk_at "go"
    rw [cutM_take _ _ (by decide)]
    walk_at "go"
    (try (walk_at "nv")); exact stp_in (law_r2 A b u v (h.take (Int.toNat 30)) _ _ _ ⟨hh.1.sublist (List.take_sublist _ _), fun x hx' => hh.2 x (List.mem_of_mem_take hx')⟩ (by rw [List.length_take]; omega) (fun x hx' => hx x (List.mem_of_mem_take hx')) nx)
  | false =>
    walk_at "go"
    (try (walk_at "nv")); exact stp_in (law_r2 A b u v h _ _ _ hh hl hx nx)
theorem law_r5 (A : Addr) (b : Nat) (u v : Heap1) (hu : isHeap u) (hv : isHeap v) (l1 : u.length ≤ 60) (l2 : v.length ≤ 60) (x1 : ∀ x ∈ u, x < 10 ^ 60) (x2 : ∀ x ∈ v, x < 10 ^ 60) :
    b_law_r5 lawEnds [none, some (.lent A (.st b)), some (.d (hD u)), some (.d (hD v)), none, none, none, none] := by
  walk_at "go"
  (try (walk_at "nv")); refine forGo_pre hD (fun p ρ => ∃ o4 o5 o6 o7 : Option S, ρ = [none, some (.lent A (.st b)), some (.d (hD u)), some (.d (hD v)), o4, o5, o6, o7]) (xs := [u, v, u]) (fun p h s ρ K e hK hi => ?_) (fun ρ hi => ?_) ⟨_, _, _, _, rfl⟩
  · obtain ⟨o4, o5, o6, o7, rfl⟩ := hi
    have hh : h ∈ [u, v, u] := by rw [e]; simp
    have hh : h = u ∨ h = v := by simpa [or_comm, or_left_comm] using hh
    show b_law_f1 _ [_, _, _, _, _, _, _, _]
    rcases hh with rfl | rfl
    · exact law_f1 A b _ _ _ _ _ _ hu l1 x1 fun _ _ _ _ => hK _ ⟨_, _, _, _, rfl⟩
    · exact law_f1 A b _ _ _ _ _ _ hv l2 x2 fun _ _ _ _ => hK _ ⟨_, _, _, _, rfl⟩
  · obtain ⟨o4, o5, o6, o7, rfl⟩ := hi
    walk_at "go"
theorem pf_law : ∀ a, b_law lawEnds [none, some (.lent a (.st 0)), none, none, none, none, none, none] := by
  intro A
  walk_at "go"
  intro u b1 hu l1 x1 c0 c1
  walk_at "go"
  intro v b2 hv l2 x2 c2 c3
  have x1' : ∀ x ∈ u, x < 10 ^ 60 := fun x hx => Int.lt_of_le_of_lt (x1 x hx) (by decide)
  have x2' : ∀ x ∈ v, x < 10 ^ 60 := fun x hx => Int.lt_of_le_of_lt (x2 x hx) (by decide)
  walk_at "go"
  intro k k0 k1
  walk_at "go"
  walk_at "br"
  · intro e
    walk_at "go"
    rw [cutM_take _ _ (by decide)]
    have lt : (u.take (Int.toNat 20)).length ≤ 20 := by rw [List.length_take]; exact Nat.min_le_left _ _
    walk_at "go"
    refine stp_in ?_
    refine law_r5 A _ ((10 ^ 60 - 1) :: u.take (Int.toNat 20)) v ⟨?_, ?_⟩ hv (by simp at lt ⊢; omega) l2 ?_ x2'
    · refine List.pairwise_cons.mpr ⟨fun x hx => ?_, hu.1.sublist (List.take_sublist _ _)⟩
      have := x1 x (List.mem_of_mem_take hx)
      exact Int.le_trans this (by decide)
    · intro x hx
      rcases List.mem_cons.mp hx with rfl | hx
      · decide
      · exact hu.2 x (List.mem_of_mem_take hx)
    · intro x hx
      rcases List.mem_cons.mp hx with rfl | hx
      · decide
      · exact x1' x (List.mem_of_mem_take hx)
  · intro e
    walk_at "go"
    (try (walk_at "nv")); exact stp_in <| law_r5 A _ u v hu hv l1 l2 x1' x2'

section
variable {P : Program} {w : World} {K : PySem.W.Frag} {mg : Str → Option Value} {base : Heap}
theorem ok__law_mix (T : Txt K mg) : FnOk P w K mg base (L2.CX P w) 1 T.f__law_mix T.d__law_mix ["_law_state"] spMix := by
  refine T.F__law_mix.okX sc__law_mix (fun vs H Q E h => ?_) (fun cdv A outer s H vs Q E hr h => ?_)
  · obtain ⟨a, g, c, gs, cur, cs, cnt, rfl, _⟩ := h
    rfl
  · obtain ⟨a, g, c, gs, cur, cs, cnt, rfl, st, h0, h1, q⟩ := h
    refine ⟨_, pss_cons (ps_augS (pv 0) pe_int get_list pe_int ip_add set_list)
      (pss_cons (ps_set (i := 1) sc__law_mix.nd rfl (.inl rfl) (pe_ix ix_list (pv 0) pe_int (fun _ _ => rfl)))
      (pss_cons (ps_set (i := 2) sc__law_mix.nd rfl (.inl rfl) pe_int)
      (pss_cons (ps_if (pt_truth (pe_ix ix_list (pv 0) pe_int (fun _ _ => rfl)) (fun _ => rfl))
        (pss_one (ps_set (i := 2) sc__law_mix.nd rfl (.inl rfl) (pe_ix ix_list (pe_ix ix_list (pv 0) pe_int (fun _ _ => rfl)) (pe_op op_mod (pv 1) (pe_callB call_len_seq (by rfl) T.z_len PySem.boot_len (pa_cons (pe_ix ix_list (pv 0) pe_int (fun _ _ => rfl)) pa_nil))) (fun _ _ => rfl)))) pss_nil)
      (pss_cons (ps_set (i := 3) sc__law_mix.nd rfl (.inl rfl) (pe_op op_mod (pe_op op_mul (pe_op op_add (pe_op op_add (pe_op op_add (pv 2) (pe_op op_mul (pe_op op_mul pe_int (pv 1)) (pv 1))) (pe_op op_mul pe_int (pv 1))) pe_int) pe_int) pe_int))
      (pss_one (ps_ret (pe_op op_mod (pe_op op_mul (pe_op op_add (pe_op op_add (pv 3) (pe_op op_mul pe_int (pv 1))) pe_int) pe_int) pe_int))))))), ?_⟩
    have hi : ∀ j : Nat, j < 4 → atI [V.ref g, V.int cur, V.ref c, V.int cnt] (j : Int) = [V.ref g, V.int cur, V.ref c, V.int cnt][j]? := fun j hj => by
      match j, hj with
      | 0, _ => rfl
      | 1, _ => rfl
      | 2, _ => rfl
      | 3, _ => rfl
    have st1 := st.setA (cur' := cur) (cnt' := cnt + 1)
    refine ⟨_, rfl, a, _, 3, _, rfl, rfl, SqL.of st.ha, rfl, cnt, 1, rfl, rfl, a, _, 3, 3, rfl, rfl, st.ha, rfl, ?_⟩
    show tSeq _ _ _ _ (upd H a (.lst [.ref g, .int cur, .ref c, .int (cnt + 1)]))
    refine ⟨_, rfl, a, _, 3, _, rfl, rfl, SqL.of st1.ha, rfl, ?_⟩
    have cc : ∀ {i j : Int}, -(2 ^ 64) < j → j < 2 ^ 64 → CMul i j := fun h1 h2 => .inr ⟨h1, h2⟩
    have rest : ∀ cell : Int, tSeq (tAsg (tOp (rI (fun _ j => 0 < j) fun i j => .int (i % j)) (tOp (rI CMul fun i j => .int (i * j)) (tOp (rI0 fun i j => .int (i + j)) (tOp (rI0 fun i j => .int (i + j)) (tOp (rI0 fun i j => .int (i + j)) (tVar 2) (tOp (rI CMul fun i j => .int (i * j)) (tOp (rI CMul fun i j => .int (i * j)) (tC (.int 7)) (tVar 1)) (tVar 1))) (tOp (rI CMul fun i j => .int (i * j)) (tC (.int 13)) (tVar 1))) (tC (.int 5))) (tC (.int 1220703125))) (tC (.int 2147483647))) (gName 3))
        (tRet (tOp (rI (fun _ j => 0 < j) fun i j => .int (i % j)) (tOp (rI CMul fun i j => .int (i * j)) (tOp (rI0 fun i j => .int (i + j)) (tOp (rI0 fun i j => .int (i + j)) (tVar 3) (tOp (rI CMul fun i j => .int (i * j)) (tC (.int 17)) (tVar 1))) (tC (.int 3))) (tC (.int 39373))) (tC (.int 1000000007))))
        { nx := fun _ H' => Q .non H', rt := Q } [some (.ref a), some (.int (cnt + 1)), some (.int cell), none] (upd H a (.lst [.ref g, .int cur, .ref c, .int (cnt + 1)])) := fun cell => by
      refine ⟨_, rfl, _, rfl, _, _, rfl, rfl, cc (by omega) (by omega), _, rfl, _, _, rfl, rfl, cc (by omega) (by omega), _, _, rfl, rfl, _, rfl, _, _, rfl, rfl, cc (by omega) (by omega), _, _, rfl, rfl, _, _, rfl, rfl, _, _, rfl, rfl, cc (by omega) (by omega), _, _, rfl, rfl, (by decide : (0 : Int) < 2147483647), ?_⟩
      refine ⟨_, rfl, _, rfl, _, _, rfl, rfl, cc (by omega) (by omega), _, _, rfl, rfl, _, _, rfl, rfl, _, _, rfl, rfl, cc (by omega) (by omega), _, _, rfl, rfl, (by decide : (0 : Int) < 1000000007), ?_⟩
      exact q _ (Int.emod_nonneg _ (by decide)) (Int.emod_lt_of_pos _ (by decide))
    refine ⟨_, rfl, a, _, 2, .ref c, rfl, rfl, SqL.of st1.ha, rfl, _, .inl ⟨_, SqL.of st1.hc, rfl⟩, ite2 (fun e => ?_) (fun e => ?_)⟩
    · have n0 : 0 < cs.length := by
        cases cs with
        | nil => cases e
        | cons _ _ => exact Nat.succ_pos _
      have l0 : ((cs.map V.int).length : Int) = cs.length := by rw [List.length_map]
      have m1 := Int.emod_nonneg (cnt + 1) (show (cs.length : Int) ≠ 0 by omega)
      have m2 := Int.emod_lt_of_pos (cnt + 1) (show 0 < (cs.length : Int) by omega)
      obtain ⟨j, ej⟩ : ∃ j : Nat, (cnt + 1) % (cs.length : Int) = j := ⟨_, (Int.toNat_of_nonneg m1).symm⟩
      have hj : j < cs.length := by omega
      refine ⟨_, rfl, a, _, 2, .ref c, rfl, rfl, SqL.of st1.ha, rfl, _, rfl, _, rfl, a, _, 2, .ref c, rfl, rfl, SqL.of st1.ha, rfl, c, _, rfl, .inl (SqL.of st1.hc), _, _, rfl, rfl, (by rw [l0]; omega), c, _, _, .int cs[j], rfl, rfl, SqL.of st1.hc, ?_, rest _⟩
      rw [l0, ej]
      exact atI_nat (by rw [List.getElem?_map, List.getElem?_eq_getElem hj]; rfl)
    · exact rest 5
theorem ok_draw0 (T : Txt K mg) : FnOk P w K mg base (L2.CX P w) 2 T.f__law_draw T.d__law_draw ["_law_state", "_law_many"] spDraw := by
  refine T.F__law_draw.okX sc__law_draw (fun vs H Q E h => ?_) (fun cdv A outer s H vs Q E hr h => ?_)
  · obtain ⟨a, g, c, gs, cur, cs, cnt, m, rfl, _⟩ := h
    rfl
  · obtain ⟨a, g, c, gs, cur, cs, cnt, m, rfl, st, hg, hcur, h0, h1, hm0, hm1, q⟩ := h
    have tk : Takes (cxOf (L2.CX P w) P w K mg base ["_law_state", "_law_many", "_law_told", "_law_size"] "_law_draw" (defScope s__law_draw) T.f__law_draw cdv A outer s H E) (fun cls d _ H => E cls d H) := takes_of rfl rfl rfl rfl
    refine ⟨_, pss_cons (ps_if (PW.pt (pw_and (pt_cmpR op_eq (pe_ix ix_list (pv 0) pe_int (fun _ _ => rfl)) pe_int (nomark _)) (pw_and1 (pt_truth (pe_ix ix_list (pv 0) pe_int (fun _ _ => rfl)) (fun _ => rfl)))))
        (pss_one (ps_asg (pe_bm PySem.F.plainAttrs_list PySem.F.slot_list_pop PySem.F.type_list_pop mt_popAt (pe_ix ix_list (pv 0) pe_int (fun _ _ => rfl)) (pa_cons pe_int pa_nil)) (pg_sub (pv 0) pe_int set_list))) pss_nil)
      (pss_cons (ps_if (pt_cmpR op_gt (pe_ix ix_list (pv 0) pe_int (fun _ _ => rfl)) pe_int (nomark _))
        (pss_cons (ps_set (i := 2) sc__law_draw.nd rfl (.inl rfl) (pe_op op_mod (pe_ix ix_list (pv 0) pe_int (fun _ _ => rfl)) (pv 1)))
        (pss_cons (ps_asg (pe_op op_fdivW (pe_ix ix_list (pv 0) pe_int (fun _ _ => rfl)) (pv 1)) (pg_sub (pv 0) pe_int set_list))
        (pss_one (ps_ret (pv 2))))) pss_nil)
      (pss_cons (ps_set (i := 2) sc__law_draw.nd rfl (.inl rfl) pe_int)
      (pss_cons (ps_set (i := 3) sc__law_draw.nd rfl (.inl rfl) pe_int)
      (pss_cons (ps_while (passes_of rfl) (pt_cmpR op_lt (pv 3) (pv 1) (nomark _))
        (pss_cons (ps_set (i := 2) sc__law_draw.nd rfl (.inl rfl) (pe_op op_add (pe_op op_mul (pv 2) pe_int) (pe_callS (E := WE fun cls d _ H => E cls d H) (ok__law_mix T) (hr.mono (by decide)) (by rfl) T.g__law_mix T.F__law_mix.kp T.b__law_mix (fun σ => passAt tk σ) (pa_cons (pv 0) pa_nil))))
        (pss_one (ps_set (i := 3) sc__law_draw.nd rfl (.inl rfl) (pe_op op_mul (pv 3) pe_int)))))
      (pss_one (ps_ret (pe_op op_mod (pv 2) (pv 1)))))))), ?_⟩
    have cc : ∀ {i j : Int}, -(2 ^ 64) < j → j < 2 ^ 64 → CMul i j := fun h1 h2 => .inr ⟨h1, h2⟩
    refine seq_key (fun σ' H1 => ∃ (gs1 : List Int) (cur1 : Int), σ' = [some (.ref a), some (.int m), none, none] ∧ StH H1 a g c gs1 cur1 cs cnt ∧ (∀ g ∈ gs1, g ∈ gs) ∧ gs1.length ≤ gs.length ∧ 0 ≤ cur1 ∧ (∀ x, x ≠ a → x ≠ g → H1 x = H x)) ?rest fun key => ?main
    case main =>
      have k0 := key _ H ⟨gs, cur, rfl, st, (fun _ h => h), Nat.le_refl _, hcur, fun _ _ _ => rfl⟩
      refine ⟨_, rfl, a, _, 1, _, rfl, rfl, SqL.of st.ha, rfl, rfl, _, rfl, ite2 (fun e => ?_) (fun e => iteF k0)⟩
      refine ⟨_, rfl, a, _, 0, _, rfl, rfl, SqL.of st.ha, rfl, _, .inl ⟨_, SqL.of st.hg, rfl⟩, ite2 (fun e2 => ?_) (fun e2 => k0)⟩
      obtain ⟨x, gs, rfl⟩ : ∃ x gs', gs = x :: gs' := by
        cases gs with
        | nil => cases e2
        | cons x gs => exact ⟨x, gs, rfl⟩
      have st1 := st.setG (gs' := gs)
      refine ⟨_, rfl, a, _, 0, .ref g, rfl, rfl, SqL.of st.ha, rfl, .inl ⟨rfl, _, SqL.of st.hg⟩, g, _, 0, 0, .int x, rfl, rfl, st.hg, by decide, by decide, seqIndex_of (Int.le_refl 0) (by simp), rfl, _, rfl, a, _, 1, 1, rfl, rfl, st1.ha, rfl, ?_⟩
      exact key _ _ ⟨gs, x, rfl, st1.setA, (fun y hy => List.mem_cons_of_mem _ hy), Nat.le_succ _, Int.le_of_lt (hg x (by simp)), fun y h1 h2 => by rw [upd_ne h1, upd_ne h2]⟩
    case rest =>
      rintro _ H1 ⟨gs1, cur1, rfl, st1, hg1, hl1, hc1, oth1⟩
      refine ⟨_, rfl, a, _, 1, _, rfl, rfl, SqL.of st1.ha, rfl, _, _, rfl, rfl, _, rfl, ite2 (fun e => ?_) (fun e => ?_)⟩
      · have e : (0 : Int) < cur1 := of_decide_eq_true e
        refine ⟨_, rfl, a, _, 1, _, rfl, rfl, SqL.of st1.ha, rfl, _, rfl, _, _, rfl, rfl, hm0, _, rfl, a, _, 1, _, rfl, rfl, SqL.of st1.ha, rfl, _, rfl, _, _, rfl, rfl, wide_div hm0 (b := 300) (by omega) (by decide) (by decide), _, rfl, a, _, 1, 1, rfl, rfl, st1.ha, rfl, _, rfl, ?_⟩
        exact q _ gs1 (cur1 / m) cnt _ (Int.emod_nonneg _ (by omega)) (Int.emod_lt_of_pos _ hm0) st1.setA hg1 hl1 (Int.ediv_nonneg hc1 (by omega)) (Int.le_refl _) (by omega) (fun x h1 h2 => by rw [upd_ne h1]; exact oth1 x h1 h2)
      · refine ⟨fun i σ' H' => ∃ (told : Int) (j : Nat), σ' = [some (.ref a), some (.int m), some (.int told), some (.int (1000000007 ^ j))] ∧ i + j = 8 ∧ StH H' a g c gs1 cur1 cs (cnt + j) ∧ (∀ x, x ≠ a → x ≠ g → H' x = H x), ⟨8, 0, 0, rfl, rfl, by simpa using st1, oth1⟩, ?_⟩
        rintro i σ' H' ⟨told, j, rfl, hij, st2, oth2⟩
        refine ⟨_, rfl, _, rfl, _, _, rfl, rfl, _, rfl, ite2 (fun e => ?_) (fun e => ?_)⟩
        · have e : (1000000007 : Int) ^ j < m := of_decide_eq_true e
          have hj : j < 8 := pow_small e hm1
          have st3 := st2.setA (cur' := cur1) (cnt' := cnt + j + 1)
          refine ⟨fun σ' H' => ∃ (told : Int), σ' = [some (.ref a), some (.int m), some (.int told), some (.int (1000000007 ^ (j + 1)))] ∧ StH H' a g c gs1 cur1 cs (cnt + (j + 1 : Nat)) ∧ (∀ x, x ≠ a → x ≠ g → H' x = H x), fun σ' H' ⟨told', e1, e2, e3⟩ => ⟨i - 1, by omega, told', j + 1, e1, by omega, e2, e3⟩, ?_⟩
          refine ⟨_, rfl, _, _, rfl, rfl, cc (by decide) (by decide), _, rfl, a, g, c, gs1, cur1, cs, cnt + j, rfl, st2, by omega, by omega, fun r r0 r1 => ⟨_, _, rfl, rfl, _, rfl, _, _, rfl, rfl, cc (by decide) (by decide), ?_⟩⟩
          refine ⟨told * 1000000007 + r, by rw [Int.pow_succ]; rfl, ?_, fun x h1 h2 => by rw [upd_ne h1]; exact oth2 x h1 h2⟩
          have : cnt + ((j + 1 : Nat) : Int) = cnt + j + 1 := by omega
          rw [this]; exact st3
        · refine ⟨_, rfl, _, rfl, _, _, rfl, rfl, hm0, ?_⟩
          exact q _ gs1 cur1 (cnt + j) _ (Int.emod_nonneg _ (by omega)) (Int.emod_lt_of_pos _ hm0) st2 hg1 hl1 hc1 (by omega) (by omega) oth2
theorem ok_start0 (T : Txt K mg) : FnOk P w K mg base (L2.CX P w) 1 T.f__law_start T.d__law_start ["_law_script"] (spStart K) := by
  refine T.F__law_start.okX sc__law_start (fun vs H Q E h => ?_) (fun cdv A outer s H vs Q E hr h => ?_)
  · obtain ⟨a, ns, rfl, _⟩ := h
    rfl
  · obtain ⟨a, ns, rfl, hS, hl, q⟩ := h
    refine ⟨_, pss_cons (ps_setLc (i := 1) rfl sc__law_start.nd rfl rfl (sw_true rfl rfl rfl (by decide +kernel)) (pi_list (pv 0)) (@blkOk_by ["_law_script", "_law_great", "_law_cell"] (defScope s__law_start) _ [("_law_cell", 2)] (by decide +kernel)) (fun _ _ _ _ _ => pg_name (i := 2) sc__law_start.nd rfl (.inl rfl))
        (fun _ _ _ _ _ => pts_one (pt_cmpR op_ge (pv 2) (pe_op op_pow pe_int pe_int) (nomark _))) (fun _ _ _ _ _ => pv 2))
      (pss_one (ps_ret (pe_lst (pa_cons (pv 1) (pa_cons pe_int (pa_cons (pe_lc rfl sc__law_start.nd (pi_list (pv 0)) (@blkOk_by ["_law_script", "_law_great", "_law_cell"] (defScope s__law_start) _ [("_law_cell", 2)] (by decide +kernel)) (fun _ _ _ _ _ => pg_name (i := 2) sc__law_start.nd rfl (.inl rfl))
        (fun _ _ _ _ _ => pts_nil) (fun _ _ _ _ _ => pe_op op_mod (pv 2) pe_int)) (pa_cons pe_int pa_nil))))))), ?_⟩
    have sl : (sizeLine : Nat) = 16777216 := sizeLine_eq
    let f : Int → Bool := fun x => decide ((10 : Int) ^ 18 ≤ x)
    refine ⟨_, rfl, a, rfl, ⟨_, hS⟩, fun g ng => ?_⟩
    have sg : ∀ xs, Same H (upd H g (.lst xs)) := fun xs b x e => by
      rw [upd_ne (ne_of_none e ng)]; exact e
    refine lc_list (fun i H' => H' = upd H g (.lst (((ns.take i).filter f).map V.int))) rfl (fun i H' _ e => by rw [e]; exact (sg _).seq hS) (fun i x H' hx e => ?_) (fun H' e => ?_)
    · subst e
      rw [List.getElem?_map, Option.map_eq_some_iff] at hx
      obtain ⟨n, hn, rfl⟩ := hx
      have et : ns.take (i + 1) = ns.take i ++ [n] := by rw [List.take_add_one, hn]; rfl
      refine ⟨rfl, _, rfl, 10, 18, rfl, rfl, ⟨by decide, by decide, by decide⟩, n, 10 ^ 18, rfl, rfl, _, rfl, ite2 (fun e => ?_) (fun e => ?_)⟩
      · refine ⟨_, rfl, _, upd_same, ?_, ?_⟩
        · have h1 := List.length_filter_le f (ns.take i)
          rw [List.length_take] at h1
          rw [List.length_map]
          omega
        · have e : f n = true := e
          show _ = _
          rw [et, List.filter_append, List.filter_cons_of_pos e, upd_upd, List.map_append]
          rfl
      · have e : ¬ f n = true := e
        show _ = _
        rw [et, List.filter_append, List.filter_cons_of_neg e, List.filter_nil, List.append_nil]
    · subst e
      rw [List.length_map, List.take_length]
      have s1 := sg (((ns.filter f)).map V.int)
      refine ⟨_, rfl, _, rfl, a, rfl, ⟨_, s1.seq hS⟩, fun c nc => ?_⟩
      have gc : g ≠ c := fun z => by rw [← z, upd_same] at nc; cases nc
      have s2 : ∀ xs, Same (upd H g (.lst ((ns.filter f).map V.int))) (upd (upd H g (.lst ((ns.filter f).map V.int))) c (.lst xs)) := fun xs b x e => by
        rw [upd_ne (ne_of_none e nc)]; exact e
      refine lc_list (fun i H' => H' = upd (upd H g (.lst ((ns.filter f).map V.int))) c (.lst (((ns.take i).map (· % 2147483629)).map V.int))) rfl (fun i H' _ e => by rw [e]; exact (s2 _).seq (s1.seq hS)) (fun i x H' hx e => ?_) (fun H' e => ?_)
      · subst e
        rw [List.getElem?_map, Option.map_eq_some_iff] at hx
        obtain ⟨n, hn, rfl⟩ := hx
        have et : ns.take (i + 1) = ns.take i ++ [n] := by rw [List.take_add_one, hn]; rfl
        refine ⟨rfl, ?_⟩
        unfold tYes
        show ite (true = true) _ _
        rw [if_pos rfl]
        refine ⟨_, rfl, n, 2147483629, rfl, rfl, (by decide : (0 : Int) < 2147483629), _, upd_same, ?_, ?_⟩
        · rw [List.length_map, List.length_map, List.length_take]
          omega
        · show _ = _
          rw [et, List.map_append, upd_upd, List.map_append]
          rfl
      · subst e
        rw [List.length_map, List.take_length]
        refine ⟨by show 4 ≤ sizeLine; omega, fun st nst => ?_⟩
        have gs : g ≠ st := fun z => by rw [← z, upd_ne gc, upd_same] at nst; cases nst
        have cs : c ≠ st := fun z => by rw [← z, upd_same] at nst; cases nst
        have s3 : Same (upd (upd H g (.lst ((ns.filter f).map V.int))) c (.lst ((ns.map (· % 2147483629)).map V.int))) (upd (upd (upd H g (.lst ((ns.filter f).map V.int))) c (.lst ((ns.map (· % 2147483629)).map V.int))) st (.lst [.ref g, .int 0, .ref c, .int 0])) := fun b x e => by
          rw [upd_ne (ne_of_none e nst)]; exact e
        have nst' : H st = none := by
          rw [upd_ne (fun z => cs z.symm), upd_ne (fun z => gs z.symm)] at nst; exact nst
        have nc' : H c = none := by
          rw [upd_ne (fun z => gc z.symm)] at nc; exact nc
        refine q st g c (ns.filter f) (ns.map (· % 2147483629)) _ nst' ng nc' (s1.trans ((s2 _).trans s3)) ⟨fun z => gs z.symm, fun z => cs z.symm, gc, upd_same, by rw [upd_ne gs, upd_ne gc, upd_same], by rw [upd_ne cs, upd_same]⟩ (fun x hx => ?_) (Nat.le_trans (List.length_filter_le _ _) hl) (fun x hx => ?_) (by rw [List.length_map]; exact hl)
        · have h1 : (10 : Int) ^ 18 ≤ x := of_decide_eq_true (List.mem_filter.mp hx).2
          omega
        · obtain ⟨y, _, rfl⟩ := List.mem_map.mp hx
          exact ⟨Int.emod_nonneg _ (by decide), Int.emod_lt_of_pos _ (by decide)⟩

theorem ok__law_draw (T : Txt K mg) : FnOk P w K mg base (L2.CX P w) 2 T.f__law_draw T.d__law_draw ["_law_state", "_law_many"] (spOf ⟨K, mg, noG⟩ sp__law_draw) := (ok_draw0 T).imp fun _ _ _ _ h => draw_imp h
theorem dd__law_whole (T : Txt K mg) (cdv : Value) (A : Around) (outer : List Env) (s : Shared) (H : Hp) (E : XK) (hr : Room 0 (A.deeper (envOfC "_law_whole" (defScope s__law_whole) s.heap.objs.size T.f__law_whole cdv))) : PSsd (cxOf (L2.CX P w) P w K mg base ["_law_found"] "_law_whole" (defScope s__law_whole) T.f__law_whole cdv A outer s H E) noG (fun cls d _ H => E cls d H) (defBody s__law_whole) b__law_whole :=
  have tk : Takes (cxOf (L2.CX P w) P w K mg base ["_law_found"] "_law_whole" (defScope s__law_whole) T.f__law_whole cdv A outer s H E) (fun cls d _ H => E cls d H) := takes_of rfl rfl rfl rfl
  (z_one (z_ret (e_and (e_isi (T := "int") rfl (by unfold okT; decide +kernel) (by rfl) T.z_isinstance (by rfl) T.z_int (by decide +kernel) (e_var (pv 0))) (e_one (e_not (e_isi (T := "bool") rfl (by unfold okT; decide +kernel) (by rfl) T.z_isinstance (by rfl) T.z_bool (by decide +kernel) (e_var (pv 0))))))))
theorem ok__law_whole (T : Txt K mg) : FnOk P w K mg base (L2.CX P w) 1 T.f__law_whole T.d__law_whole ["_law_found"] (spOf ⟨K, mg, noG⟩ sp__law_whole) := fn_dt T.F__law_whole sc__law_whole (by intro os PP PX h; unfold sp__law_whole at h; first | exact h.elim | (split at h <;> first | rfl | exact h.elim)) (fun cdv A outer s H E hr => dd__law_whole T cdv A outer s H E hr) pf__law_whole
theorem dd__law_row (T : Txt K mg) (cdv : Value) (A : Around) (outer : List Env) (s : Shared) (H : Hp) (E : XK) (hr : Room 1 (A.deeper (envOfC "_law_row" (defScope s__law_row) s.heap.objs.size T.f__law_row cdv))) : PSsd (cxOf (L2.CX P w) P w K mg base ["_law_found", "_law_one"] "_law_row" (defScope s__law_row) T.f__law_row cdv A outer s H E) noG (fun cls d _ H => E cls d H) (defBody s__law_row) b__law_row :=
  have tk : Takes (cxOf (L2.CX P w) P w K mg base ["_law_found", "_law_one"] "_law_row" (defScope s__law_row) T.f__law_row cdv A outer s H E) (fun cls d _ H => E cls d H) := takes_of rfl rfl rfl rfl
  (z_one (z_ret (e_and (e_isi (T := "tuple") rfl (by unfold okT; decide +kernel) (by rfl) T.z_isinstance (by rfl) T.z_tuple (by decide +kernel) (e_var (pv 0))) (e_one (e_cb (cr_all rfl) s_all (by rfl) T.z_all (by decide +kernel) (a_cons (e_comp (own := [("_law_one", 1)]) rfl sc__law_row.nd (i_seq (e_frz (e_var (pv 0)))) (@blkOk_by ["_law_found", "_law_one"] (defScope s__law_row) _ _ (by decide +kernel)) (fun _ _ _ _ _ => (g_name (vs := ([("_law_one", 1)] : List (Str × Nat)).map (·.2)) sc__law_row.nd rfl (by first | exact .inl rfl | exact .inr rfl) (by decide))) (fun _ _ _ _ _ => ts_nil) (fun _ _ _ _ _ => (e_frz (e_call (ok__law_whole T) takes0 (hr.mono (by decide)) (by rfl) T.g__law_whole T.F__law_whole.kp T.b__law_whole (a_cons (e_frz (e_var (pv 1))) a_nil))))) a_nil))))))
theorem ok__law_row (T : Txt K mg) : FnOk P w K mg base (L2.CX P w) 2 T.f__law_row T.d__law_row ["_law_found"] (spOf ⟨K, mg, noG⟩ sp__law_row) := fn_dt T.F__law_row sc__law_row (by intro os PP PX h; unfold sp__law_row at h; first | exact h.elim | (split at h <;> first | rfl | exact h.elim)) (fun cdv A outer s H E hr => dd__law_row T cdv A outer s H E hr) pf__law_row
theorem dd__law_some_heap (T : Txt K mg) (cdv : Value) (A : Around) (outer : List Env) (s : Shared) (H : Hp) (E : XK) (hr : Room 2 (A.deeper (envOfC "_law_some_heap" (defScope s__law_some_heap) s.heap.objs.size T.f__law_some_heap cdv))) : PSsd (cxOf (L2.CX P w) P w K mg base ["_law_state", "_law_many", "_law_size", "_law_parts", "_law_k"] "_law_some_heap" (defScope s__law_some_heap) T.f__law_some_heap cdv A outer s H E) noG (fun cls d _ H => E cls d H) (defBody s__law_some_heap) b__law_some_heap :=
  have tk : Takes (cxOf (L2.CX P w) P w K mg base ["_law_state", "_law_many", "_law_size", "_law_parts", "_law_k"] "_law_some_heap" (defScope s__law_some_heap) T.f__law_some_heap cdv A outer s H E) (fun cls d _ H => E cls d H) := takes_of rfl rfl rfl rfl
  (z_cons (z_set (i := 1) sc__law_some_heap.nd rfl (by first | exact .inl rfl | exact .inr rfl) (e_ix (e_lst (a_cons e_int (a_cons e_int (a_cons e_int (a_cons e_int (a_cons e_int (a_cons e_int a_nil))))))) (e_callM (ok__law_draw T) tk (hr.mono (by decide)) (by rfl) T.g__law_draw T.F__law_draw.kp T.b__law_draw (a_cons (e_var (pv 0)) (a_cons e_int a_nil))))) (z_cons (z_set (i := 2) sc__law_some_heap.nd rfl (by first | exact .inl rfl | exact .inr rfl) (e_ix (e_lst (a_cons e_int (a_cons e_int (a_cons e_int (a_cons (e_frz (e_op op_pow s_pow e_int e_int)) a_nil))))) (e_callM (ok__law_draw T) tk (hr.mono (by decide)) (by rfl) T.g__law_draw T.F__law_draw.kp T.b__law_draw (a_cons (e_var (pv 0)) (a_cons e_int a_nil))))) (z_cons (z_setComp (j := 3) (hyl := rfl) (hy := rfl) (hsw := sw_true rfl rfl rfl (by decide +kernel)) (own := [("_law_k", 4)]) rfl sc__law_some_heap.nd (i_r1 (by rfl) T.z_range (a_cons (e_var (pv 1)) a_nil)) (@blkOk_by ["_law_state", "_law_many", "_law_size", "_law_parts", "_law_k"] (defScope s__law_some_heap) _ _ (by decide +kernel)) (fun _ _ _ _ _ => (g_name (vs := ([("_law_k", 4)] : List (Str × Nat)).map (·.2)) sc__law_some_heap.nd rfl (by first | exact .inl rfl | exact .inr rfl) (by decide))) (fun _ _ _ _ _ => ts_nil) (fun _ _ _ _ _ => (e_frz (e_op op_addD s_add e_int (e_callM (ok__law_draw T) takes0 (hr.mono (by decide)) (by rfl) T.g__law_draw T.F__law_draw.kp T.b__law_draw (a_cons (e_var (pv 0)) (a_cons (e_frz (e_var (pv 2))) a_nil))))))) (z_one (z_ret (e_cty call_tupleF s_tuple (by rfl) T.z_tuple (by decide +kernel) (a_cons (e_sortR (by rfl) T.z_sorted (a_cons (e_var (pv 3)) a_nil)) a_nil)))))))
theorem ok__law_some_heap (T : Txt K mg) : FnOk P w K mg base (L2.CX P w) 3 T.f__law_some_heap T.d__law_some_heap ["_law_state"] (spOf ⟨K, mg, noG⟩ sp__law_some_heap) := fn_dt T.F__law_some_heap sc__law_some_heap (by intro os PP PX h; unfold sp__law_some_heap at h; first | exact h.elim | (split at h <;> first | rfl | exact h.elim)) (fun cdv A outer s H E hr => dd__law_some_heap T cdv A outer s H E hr) pf__law_some_heap
theorem dd__law_text (T : Txt K mg) (cdv : Value) (A : Around) (outer : List Env) (s : Shared) (H : Hp) (E : XK) (hr : Room 0 (A.deeper (envOfC "_law_text" (defScope s__law_text) s.heap.objs.size T.f__law_text cdv))) : PSsd (cxOf (L2.CX P w) P w K mg base ["_law_heap", "_law_part"] "_law_text" (defScope s__law_text) T.f__law_text cdv A outer s H E) noG (fun cls d _ H => E cls d H) (defBody s__law_text) b__law_text :=
  have tk : Takes (cxOf (L2.CX P w) P w K mg base ["_law_heap", "_law_part"] "_law_text" (defScope s__law_text) T.f__law_text cdv A outer s H E) (fun cls d _ H => E cls d H) := takes_of rfl rfl rfl rfl
  (z_cons (z_if (t_cmp (op_eqD hr.units) s_eq (e_cb call_len s_len (by rfl) T.z_len (by decide +kernel) (a_cons (e_var (pv 0)) a_nil)) e_int (nomark _)) (z_one (z_ret e_str)) z_nil) (z_one (z_ret (e_mt PySem.F.plainAttrs_str PySem.F.slot_str_join PySem.F.type_str_join mt_join s_join e_str (a_cons (e_comp (own := [("_law_part", 1)]) rfl sc__law_text.nd (i_seq (e_frz (e_var (pv 0)))) (@blkOk_by ["_law_heap", "_law_part"] (defScope s__law_text) _ _ (by decide +kernel)) (fun _ _ _ _ _ => (g_name (vs := ([("_law_part", 1)] : List (Str × Nat)).map (·.2)) sc__law_text.nd rfl (by first | exact .inl rfl | exact .inr rfl) (by decide))) (fun _ _ _ _ _ => ts_nil) (fun _ _ _ _ _ => (e_cty call_str_int s_str (by rfl) T.z_str (by decide +kernel) (a_cons (e_var (pv 1)) a_nil)))) a_nil)))))
theorem ok__law_text (T : Txt K mg) : FnOk P w K mg base (L2.CX P w) 1 T.f__law_text T.d__law_text ["_law_heap"] (spOf ⟨K, mg, noG⟩ sp__law_text) := fn_dt T.F__law_text sc__law_text (by intro os PP PX h; unfold sp__law_text at h; first | exact h.elim | (split at h <;> first | rfl | exact h.elim)) (fun cdv A outer s H E hr => dd__law_text T cdv A outer s H E hr) pf__law_text
theorem dd_heap_text (T : Txt K mg) (cdv : Value) (A : Around) (outer : List Env) (s : Shared) (H : Hp) (E : XK) (hr : Room 0 (A.deeper (envOfC "heap_text" (defScope s_heap_text) s.heap.objs.size T.f_heap_text cdv))) : PSsd (cxOf (L2.CX P w) P w K mg base ["heap", "part"] "heap_text" (defScope s_heap_text) T.f_heap_text cdv A outer s H E) noG (fun cls d _ H => E cls d H) (defBody s_heap_text) b_heap_text :=
  have tk : Takes (cxOf (L2.CX P w) P w K mg base ["heap", "part"] "heap_text" (defScope s_heap_text) T.f_heap_text cdv A outer s H E) (fun cls d _ H => E cls d H) := takes_of rfl rfl rfl rfl
  (z_cons (z_if (t_not (t_tru (e_var (pv 0)))) (z_one (z_ret e_str)) z_nil) (z_one (z_ret (e_mt PySem.F.plainAttrs_str PySem.F.slot_str_join PySem.F.type_str_join mt_join s_join e_str (a_cons (e_comp (own := [("part", 1)]) rfl sc_heap_text.nd (i_seq (e_frz (e_var (pv 0)))) (@blkOk_by ["heap", "part"] (defScope s_heap_text) _ _ (by decide +kernel)) (fun _ _ _ _ _ => (g_name (vs := ([("part", 1)] : List (Str × Nat)).map (·.2)) sc_heap_text.nd rfl (by first | exact .inl rfl | exact .inr rfl) (by decide))) (fun _ _ _ _ _ => ts_nil) (fun _ _ _ _ _ => (e_cty call_str_int s_str (by rfl) T.z_str (by decide +kernel) (a_cons (e_var (pv 1)) a_nil)))) a_nil)))))
theorem ok_heap_text (T : Txt K mg) : FnOk P w K mg base (L2.CX P w) 1 T.f_heap_text T.d_heap_text ["heap"] (spOf ⟨K, mg, noG⟩ sp_heap_text) := fn_dt T.F_heap_text sc_heap_text (by intro os PP PX h; unfold sp_heap_text at h; first | exact h.elim | (split at h <;> first | rfl | exact h.elim)) (fun cdv A outer s H E hr => dd_heap_text T cdv A outer s H E hr) pf_heap_text
theorem dd_read_part (T : Txt K mg) (cdv : Value) (A : Around) (outer : List Env) (s : Shared) (H : Hp) (E : XK) (hr : Room 0 (A.deeper (envOfC "read_part" (defScope s_read_part) s.heap.objs.size T.f_read_part cdv))) : PSsd (cxOf (L2.CX P w) P w K mg base ["word", "sign"] "read_part" (defScope s_read_part) T.f_read_part cdv A outer s H E) noG (fun cls d _ H => E cls d H) (defBody s_read_part) b_read_part :=
  have tk : Takes (cxOf (L2.CX P w) P w K mg base ["word", "sign"] "read_part" (defScope s_read_part) T.f_read_part cdv A outer s H E) (fun cls d _ H => E cls d H) := takes_of rfl rfl rfl rfl
  (z_cons (z_if (pt_of_pw (t_or (t_cmp (op_eqD hr.units) s_eq (e_var (pv 0)) e_str (nomark _)) (t_or (t_cmp (op_eqD hr.units) s_eq (e_ix (e_var (pv 0)) e_int) e_str (nomark _)) (t_or1 (t_cmp (op_gtD hr.units) s_gt (e_cb call_len s_len (by rfl) T.z_len (by decide +kernel) (a_cons (e_var (pv 0)) a_nil)) (e_globI (by rfl) T.c_MOST_SIGNS.choose_spec) (nomark _)))))) (z_one (z_raise (n := 3) T.xf rfl tk (by decide) (by decide) rfl (by rfl))) z_nil) (z_stp (z_cons (z_for (passes_of rfl) rfl (i_str (e_var (pv 0))) (g_name (vs := [1]) sc_read_part.nd rfl (by first | exact .inl rfl | exact .inr rfl) (by decide)) (z_one (z_if (t_cmp (op_notInD hr.units) s_notIn (e_var (pv 1)) (e_globS (by rfl) T.c_FIGURES.choose_spec) (by rfl)) (z_one (z_raise (n := 3) T.xf rfl tk (by decide) (by decide) rfl (by rfl))) z_nil))) (z_stp (z_one (z_ret (e_cty call_intD s_int (by rfl) T.z_int (by decide +kernel) (a_cons (e_var (pv 0)) a_nil))))))))
theorem ok_read_part (T : Txt K mg) : FnOk P w K mg base (L2.CX P w) 1 T.f_read_part T.d_read_part ["word"] (spOf ⟨K, mg, noG⟩ sp_read_part) := fn_dt T.F_read_part sc_read_part (by intro os PP PX h; unfold sp_read_part at h; first | exact h.elim | (split at h <;> first | rfl | exact h.elim)) (fun cdv A outer s H E hr => dd_read_part T cdv A outer s H E hr) pf_read_part
theorem dd_read_heap (T : Txt K mg) (cdv : Value) (A : Around) (outer : List Env) (s : Shared) (H : Hp) (E : XK) (hr : Room 1 (A.deeper (envOfC "read_heap" (defScope s_read_heap) s.heap.objs.size T.f_read_heap cdv))) : PSsd (cxOf (L2.CX P w) P w K mg base ["text", "words", "parts", "word", "part", "later"] "read_heap" (defScope s_read_heap) T.f_read_heap cdv A outer s H E) noG (fun cls d _ H => E cls d H) (defBody s_read_heap) b_read_heap :=
  have tk : Takes (cxOf (L2.CX P w) P w K mg base ["text", "words", "parts", "word", "part", "later"] "read_heap" (defScope s_read_heap) T.f_read_heap cdv A outer s H E) (fun cls d _ H => E cls d H) := takes_of rfl rfl rfl rfl
  (z_cons (z_if (t_cmp (op_eqD hr.units) s_eq (e_var (pv 0)) e_str (nomark _)) (z_one (z_ret (e_tup a_nil))) z_nil) (z_cons (z_set (i := 1) sc_read_heap.nd rfl (by first | exact .inl rfl | exact .inr rfl) (e_mt PySem.F.plainAttrs_str PySem.F.slot_str_split PySem.F.type_str_split mt_split s_split (e_var (pv 0)) (a_cons e_str a_nil))) (z_stp (z_cons (z_if (t_cmp (op_gtD hr.units) s_gt (e_cb call_len s_len (by rfl) T.z_len (by decide +kernel) (a_cons (e_var (pv 1)) a_nil)) (e_globI (by rfl) T.c_MOST_PARTS.choose_spec) (nomark _)) (z_one (z_raise (n := 3) T.xf rfl tk (by decide) (by decide) rfl (by rfl))) z_nil) (z_stp (z_cons (z_setCompX (j := 2) (hyl := rfl) (hy := rfl) (hsw := sw_true rfl rfl rfl (by decide +kernel)) (own := [("word", 3)]) rfl rfl tk rfl sc_read_heap.nd (i_seq (e_frz (e_var (pv 1)))) (@blkOk_by ["text", "words", "parts", "word", "part", "later"] (defScope s_read_heap) _ _ (by decide +kernel)) ⟨fun _ _ _ _ _ _ => (g_name (vs := ([("word", 3)] : List (Str × Nat)).map (·.2)) sc_read_heap.nd rfl (by first | exact .inl rfl | exact .inr rfl) (by decide)), fun _ _ _ _ _ _ => ts_nil, fun _ _ _ _ _ _ _ tkb => (e_frz (e_call (ok_read_part T) tkb (hr.mono (by decide)) (by rfl) T.g_read_part T.F_read_part.kp T.b_read_part (a_cons (e_frz (e_var (pv 3))) a_nil)))⟩) (z_stp (z_cons (z_for (passes_of rfl) rfl (i_zip (by rfl) T.z_zip (a_cons (e_frz (e_var (pv 2))) (a_cons (e_frz (e_sl (e_var (pv 2)) (o_some e_int) o_none)) a_nil))) (g_tup rfl (g_cons (g_name (vs := [4, 5]) sc_read_heap.nd rfl (by first | exact .inl rfl | exact .inr rfl) (by decide)) (g_cons (g_name (vs := [4, 5]) sc_read_heap.nd rfl (by first | exact .inl rfl | exact .inr rfl) (by decide)) g_nil)) rfl) (z_one (z_if (t_cmp (op_gtD hr.units) s_gt (e_var (pv 5)) (e_var (pv 4)) (nomark _)) (z_one (z_raise (n := 3) T.xf rfl tk (by decide) (by decide) rfl (by rfl))) z_nil))) (z_stp (z_one (z_ret (e_cty call_tupleF s_tuple (by rfl) T.z_tuple (by decide +kernel) (a_cons (e_var (pv 2)) a_nil)))))))))))))
theorem ok_read_heap (T : Txt K mg) : FnOk P w K mg base (L2.CX P w) 2 T.f_read_heap T.d_read_heap ["text"] (spOf ⟨K, mg, noG⟩ sp_read_heap) := fn_dt T.F_read_heap sc_read_heap (by intro os PP PX h; unfold sp_read_heap at h; first | exact h.elim | (split at h <;> first | rfl | exact h.elim)) (fun cdv A outer s H E hr => dd_read_heap T cdv A outer s H E hr) pf_read_heap
theorem dd_law (T : Txt K mg) (cdv : Value) (A : Around) (outer : List Env) (s : Shared) (H : Hp) (E : XK) (hr : Room 3 (A.deeper (envOfC "law" (defScope s_law) s.heap.objs.size T.f_law cdv))) : PSsd (cxOf (L2.CX P w) P w K mg base ["_law_script", "_law_state", "_law_one", "_law_other", "_law_heap", "_law_due", "_law_found", "_law_told"] "law" (defScope s_law) T.f_law cdv A outer s H E) noG (fun cls d _ H => E cls d H) (defBody s_law).tail b_law :=
  have tk : Takes (cxOf (L2.CX P w) P w K mg base ["_law_script", "_law_state", "_law_one", "_law_other", "_law_heap", "_law_due", "_law_found", "_law_told"] "law" (defScope s_law) T.f_law cdv A outer s H E) (fun cls d _ H => E cls d H) := takes_of rfl rfl rfl rfl
  (z_cons (z_set (i := 2) sc_law.nd rfl (by first | exact .inl rfl | exact .inr rfl) (e_callM (ok__law_some_heap T) tk (hr.mono (by decide)) (by rfl) T.g__law_some_heap T.F__law_some_heap.kp T.b__law_some_heap (a_cons (e_var (pv 1)) a_nil))) (z_cons (z_set (i := 3) sc_law.nd rfl (by first | exact .inl rfl | exact .inr rfl) (e_callM (ok__law_some_heap T) tk (hr.mono (by decide)) (by rfl) T.g__law_some_heap T.F__law_some_heap.kp T.b__law_some_heap (a_cons (e_var (pv 1)) a_nil))) (z_cons (z_if (t_cmp (op_eqD hr.units) s_eq (e_callM (ok__law_draw T) tk (hr.mono (by decide)) (by rfl) T.g__law_draw T.F__law_draw.kp T.b__law_draw (a_cons (e_var (pv 1)) (a_cons e_int a_nil))) e_int (nomark _)) (z_one (z_set (i := 2) sc_law.nd rfl (by first | exact .inl rfl | exact .inr rfl) (e_op op_addD s_add (e_tup (a_cons (e_frz (e_op op_sub s_sub (e_op op_pow s_pow e_int e_int) e_int)) a_nil)) (e_sl (e_var (pv 2)) o_none (o_some e_int))))) z_nil) (z_stp (z_cons (z_for (passes_of rfl) rfl (i_seq (e_tup (a_cons (e_frz (e_var (pv 2))) (a_cons (e_frz (e_var (pv 3))) (a_cons (e_frz (e_var (pv 2))) a_nil))))) (g_name (vs := [4]) sc_law.nd rfl (by first | exact .inl rfl | exact .inr rfl) (by decide)) (z_cons (z_if (t_cmp (op_neD hr.units) s_ne (e_call (ok_heap_text T) tk (hr.mono (by decide)) (by rfl) T.g_heap_text T.F_heap_text.kp T.b_heap_text (a_cons (e_frz (e_var (pv 4))) a_nil)) (e_call (ok__law_text T) tk (hr.mono (by decide)) (by rfl) T.g__law_text T.F__law_text.kp T.b__law_text (a_cons (e_frz (e_var (pv 4))) a_nil)) (nomark _)) (z_one (z_ret e_bl)) z_nil) (z_stp (z_cons (z_if (t_cmp (op_gtD hr.units) s_gt (e_sl (e_var (pv 4)) o_none (o_some e_int)) (e_tup (a_cons (e_frz (e_op op_pow s_pow e_int e_int)) a_nil)) (nomark _)) (z_one (z_set (i := 4) sc_law.nd rfl (by first | exact .inl rfl | exact .inr rfl) (e_sl (e_var (pv 4)) o_none (o_some e_int)))) z_nil) (z_stp (z_cons (z_set (i := 5) sc_law.nd rfl (by first | exact .inl rfl | exact .inr rfl) (e_call (ok__law_text T) tk (hr.mono (by decide)) (by rfl) T.g__law_text T.F__law_text.kp T.b__law_text (a_cons (e_frz (e_var (pv 4))) a_nil))) (z_cons (z_set (i := 6) sc_law.nd rfl (by first | exact .inl rfl | exact .inr rfl) (e_call (ok_heap_text T) tk (hr.mono (by decide)) (by rfl) T.g_heap_text T.F_heap_text.kp T.b_heap_text (a_cons (e_frz (e_var (pv 4))) a_nil))) (z_cons (z_if (pt_of_pw (t_or (t_not (t_tru (e_isi (T := "str") rfl (by unfold okT; decide +kernel) (by rfl) T.z_isinstance (by rfl) T.z_str (by decide +kernel) (e_var (pv 6))))) (t_or1 (t_cmp (op_neD hr.units) s_ne (e_var (pv 6)) (e_var (pv 5)) (nomark _))))) (z_one (z_ret e_bl)) z_nil) (z_stp (z_cons (z_set (i := 7) sc_law.nd rfl (by first | exact .inl rfl | exact .inr rfl) (e_call (ok_read_heap T) tk (hr.mono (by decide)) (by rfl) T.g_read_heap T.F_read_heap.kp T.b_read_heap (a_cons (e_frz (e_var (pv 5))) a_nil))) (z_one (z_if (pt_of_pw (t_or (t_not (t_tru (e_call (ok__law_row T) tk (hr.mono (by decide)) (by rfl) T.g__law_row T.F__law_row.kp T.b__law_row (a_cons (e_frz (e_var (pv 7))) a_nil)))) (t_or1 (t_cmp (op_neD hr.units) s_ne (e_var (pv 7)) (e_var (pv 4)) (nomark _))))) (z_one (z_ret e_bl)) z_nil)))))))))))) (z_one (z_ret e_bl)))))))
theorem ok_law (T : Txt K mg) : FnOk P w K mg base (L2.CX P w) 4 T.f_law T.d_law ["_law_script"] (spLaw K) := by
  refine T.F_law.okX sc_law (fun vs H Q E h => ?_) (fun cdv A outer s H vs Q E hr h => ?_)
  · obtain ⟨a, ns, rfl, _⟩ := h
    rfl
  · obtain ⟨a, ns, rfl, hS, hl, q⟩ := h
    have tk : Takes (cxOf (L2.CX P w) P w K mg base ["_law_script", "_law_state", "_law_one", "_law_other", "_law_heap", "_law_due", "_law_found", "_law_told"] "law" (defScope s_law) T.f_law cdv A outer s H E) (fun cls d _ H => E cls d H) := takes_of rfl rfl rfl rfl
    refine ⟨_, pss_cons (ps_set (i := 1) sc_law.nd rfl (by first | exact .inl rfl | exact .inr rfl) (pe_callS (E := WE fun cls d _ H => E cls d H) (ok_start0 T) (hr.mono (by decide)) (by rfl) T.g__law_start T.F__law_start.kp T.b__law_start (fun σ => passAt tk σ) (pa_cons (pv 0) pa_nil))) (dd_law T cdv A outer s H E hr), ?_⟩
    exact ⟨_, rfl, a, ns, rfl, hS, hl, law_cont (n := 8) (by decide) pf_law q rfl⟩
end
theorem all_mk {l : PySem.W.OpenLaw} {w : World} {K : PySem.W.Frag} {h : Heap} {mg : Str → Option Value} {fa : Addr} (X : K.In h) (G : h.Ns mainGlobals mg) (hfa : mg "law" = some (.ref fa))
    {f0 : Addr} {od0 an0 : Option Addr} {sl0 : Array (Option Value)} {oc0 kV0 dc0 pm0 cd0 ct0 : Value} {f1 : Addr} {od1 an1 : Option Addr} {sl1 : Array (Option Value)} {oc1 kV1 dc1 pm1 cd1 ct1 : Value} {f2 : Addr} {od2 an2 : Option Addr} {sl2 : Array (Option Value)} {oc2 kV2 dc2 pm2 cd2 ct2 : Value} {f3 : Addr} {od3 an3 : Option Addr} {sl3 : Array (Option Value)} {oc3 kV3 dc3 pm3 cd3 ct3 : Value} {f4 : Addr} {od4 an4 : Option Addr} {sl4 : Array (Option Value)} {oc4 kV4 dc4 pm4 cd4 ct4 : Value} {f5 : Addr} {od5 an5 : Option Addr} {sl5 : Array (Option Value)} {oc5 kV5 dc5 pm5 cd5 ct5 : Value} {f6 : Addr} {od6 an6 : Option Addr} {sl6 : Array (Option Value)} {oc6 kV6 dc6 pm6 cd6 ct6 : Value} {f7 : Addr} {od7 an7 : Option Addr} {sl7 : Array (Option Value)} {oc7 kV7 dc7 pm7 cd7 ct7 : Value} {f8 : Addr} {od8 an8 : Option Addr} {sl8 : Array (Option Value)} {oc8 kV8 dc8 pm8 cd8 ct8 : Value} {f9 : Addr} {od9 an9 : Option Addr} {sl9 : Array (Option Value)} {oc9 kV9 dc9 pm9 cd9 ct9 : Value} {f10 : Addr} {od10 an10 : Option Addr} {sl10 : Array (Option Value)} {oc10 kV10 dc10 pm10 cd10 ct10 : Value} {u0 : Addr} {u3 : Addr} {tFIGURES : Tok} {tMOST_PARTS : Tok} {tMOST_SIGNS : Tok}
    (a0 : PySem.W.nsIn K mainGlobals "_law_mix" = some (some (.ref f0))) (l0 : K.lookup f0 = some ⟨oc0, od0, .func (PySem.W.fnOf "_law_mix" "_law_mix" (defArgs s__law_mix) (defBody s__law_mix) (defScope s__law_mix) .none kV0 dc0 pm0 an0 cd0 ct0), sl0⟩) (c0 : PySem.W.codeIn K cd0 "_law_mix" = true) (k0 : PySem.W.keepIn K (.ref f0) = true) (a1 : PySem.W.nsIn K mainGlobals "_law_draw" = some (some (.ref f1))) (l1 : K.lookup f1 = some ⟨oc1, od1, .func (PySem.W.fnOf "_law_draw" "_law_draw" (defArgs s__law_draw) (defBody s__law_draw) (defScope s__law_draw) .none kV1 dc1 pm1 an1 cd1 ct1), sl1⟩) (c1 : PySem.W.codeIn K cd1 "_law_draw" = true) (k1 : PySem.W.keepIn K (.ref f1) = true) (a2 : PySem.W.nsIn K mainGlobals "_law_whole" = some (some (.ref f2))) (l2 : K.lookup f2 = some ⟨oc2, od2, .func (PySem.W.fnOf "_law_whole" "_law_whole" (defArgs s__law_whole) (defBody s__law_whole) (defScope s__law_whole) .none kV2 dc2 pm2 an2 cd2 ct2), sl2⟩) (c2 : PySem.W.codeIn K cd2 "_law_whole" = true) (k2 : PySem.W.keepIn K (.ref f2) = true) (a3 : PySem.W.nsIn K mainGlobals "_law_row" = some (some (.ref f3))) (l3 : K.lookup f3 = some ⟨oc3, od3, .func (PySem.W.fnOf "_law_row" "_law_row" (defArgs s__law_row) (defBody s__law_row) (defScope s__law_row) .none kV3 dc3 pm3 an3 cd3 ct3), sl3⟩) (c3 : PySem.W.codeIn K cd3 "_law_row" = true) (k3 : PySem.W.keepIn K (.ref f3) = true) (a4 : PySem.W.nsIn K mainGlobals "_law_some_heap" = some (some (.ref f4))) (l4 : K.lookup f4 = some ⟨oc4, od4, .func (PySem.W.fnOf "_law_some_heap" "_law_some_heap" (defArgs s__law_some_heap) (defBody s__law_some_heap) (defScope s__law_some_heap) .none kV4 dc4 pm4 an4 cd4 ct4), sl4⟩) (c4 : PySem.W.codeIn K cd4 "_law_some_heap" = true) (k4 : PySem.W.keepIn K (.ref f4) = true) (a5 : PySem.W.nsIn K mainGlobals "_law_start" = some (some (.ref f5))) (l5 : K.lookup f5 = some ⟨oc5, od5, .func (PySem.W.fnOf "_law_start" "_law_start" (defArgs s__law_start) (defBody s__law_start) (defScope s__law_start) .none kV5 dc5 pm5 an5 cd5 ct5), sl5⟩) (c5 : PySem.W.codeIn K cd5 "_law_start" = true) (k5 : PySem.W.keepIn K (.ref f5) = true) (a6 : PySem.W.nsIn K mainGlobals "_law_text" = some (some (.ref f6))) (l6 : K.lookup f6 = some ⟨oc6, od6, .func (PySem.W.fnOf "_law_text" "_law_text" (defArgs s__law_text) (defBody s__law_text) (defScope s__law_text) .none kV6 dc6 pm6 an6 cd6 ct6), sl6⟩) (c6 : PySem.W.codeIn K cd6 "_law_text" = true) (k6 : PySem.W.keepIn K (.ref f6) = true) (a7 : PySem.W.nsIn K mainGlobals "heap_text" = some (some (.ref f7))) (l7 : K.lookup f7 = some ⟨oc7, od7, .func (PySem.W.fnOf "heap_text" "heap_text" (defArgs s_heap_text) (defBody s_heap_text) (defScope s_heap_text) .none kV7 dc7 pm7 an7 cd7 ct7), sl7⟩) (c7 : PySem.W.codeIn K cd7 "heap_text" = true) (k7 : PySem.W.keepIn K (.ref f7) = true) (a8 : PySem.W.nsIn K mainGlobals "read_part" = some (some (.ref f8))) (l8 : K.lookup f8 = some ⟨oc8, od8, .func (PySem.W.fnOf "read_part" "read_part" (defArgs s_read_part) (defBody s_read_part) (defScope s_read_part) .none kV8 dc8 pm8 an8 cd8 ct8), sl8⟩) (c8 : PySem.W.codeIn K cd8 "read_part" = true) (k8 : PySem.W.keepIn K (.ref f8) = true) (a9 : PySem.W.nsIn K mainGlobals "read_heap" = some (some (.ref f9))) (l9 : K.lookup f9 = some ⟨oc9, od9, .func (PySem.W.fnOf "read_heap" "read_heap" (defArgs s_read_heap) (defBody s_read_heap) (defScope s_read_heap) .none kV9 dc9 pm9 an9 cd9 ct9), sl9⟩) (c9 : PySem.W.codeIn K cd9 "read_heap" = true) (k9 : PySem.W.keepIn K (.ref f9) = true) (a10 : PySem.W.nsIn K mainGlobals "law" = some (some (.ref f10))) (l10 : K.lookup f10 = some ⟨oc10, od10, .func (PySem.W.fnOf "law" "law" (defArgs s_law) (defBody s_law) (defScope s_law) .none kV10 dc10 pm10 an10 cd10 ct10), sl10⟩) (c10 : PySem.W.codeIn K cd10 "law" = true) (k10 : PySem.W.keepIn K (.ref f10) = true) (x0 : PySem.W.nsIn K mainGlobals "ShutError" = some (some (.ref u0))) (x3 : PySem.W.nsIn K mainGlobals "NoText" = some (some (.ref u3))) (xc : xchk K [(0, u0), (3, u3)] = true) (zall : PySem.W.nsIn K mainGlobals "all" = some none) (zbool : PySem.W.nsIn K mainGlobals "bool" = some none) (zint : PySem.W.nsIn K mainGlobals "int" = some none) (zisinstance : PySem.W.nsIn K mainGlobals "isinstance" = some none) (zlen : PySem.W.nsIn K mainGlobals "len" = some none) (zrange : PySem.W.nsIn K mainGlobals "range" = some none) (zsorted : PySem.W.nsIn K mainGlobals "sorted" = some none) (zstr : PySem.W.nsIn K mainGlobals "str" = some none) (ztuple : PySem.W.nsIn K mainGlobals "tuple" = some none) (zzip : PySem.W.nsIn K mainGlobals "zip" = some none) (yFIGURES : PySem.W.nsIn K mainGlobals "FIGURES" = some (some (.str "0123456789" tFIGURES))) (yMOST_PARTS : PySem.W.nsIn K mainGlobals "MOST_PARTS" = some (some (.int 60 tMOST_PARTS))) (yMOST_SIGNS : PySem.W.nsIn K mainGlobals "MOST_SIGNS" = some (some (.int 60 tMOST_SIGNS))) :
    ∃ fd : FuncData, (∀ (s : Shared) (v : Value), BindsTo s fd ⟨[v], []⟩ [("_law_script", v)]) ∧ ∀ base : Heap, K.In base → base.Ns mainGlobals mg → FnOk l.prog w K mg base (L2.CX l.prog w) 4 fa fd ["_law_script"] (spLaw K) := by
  have e := hfa.symm.trans (PySem.W.mg_of X G a10)
  cases e
  let T : Txt K mg := { f__law_mix := f0, d__law_mix := (PySem.W.fnOf "_law_mix" "_law_mix" (defArgs s__law_mix) (defBody s__law_mix) (defScope s__law_mix) .none kV0 dc0 pm0 an0 cd0 ct0), F__law_mix := fun_mk (st := s__law_mix) l0 c0 k0, b__law_mix := (fun_mk (st := s__law_mix) l0 c0 k0).binds (ps := ["_law_state"]) (fun _ _ _ _ _ _ us hl => match us, hl with | [_], _ => rfl), g__law_mix := PySem.W.mg_of X G a0, f__law_draw := f1, d__law_draw := (PySem.W.fnOf "_law_draw" "_law_draw" (defArgs s__law_draw) (defBody s__law_draw) (defScope s__law_draw) .none kV1 dc1 pm1 an1 cd1 ct1), F__law_draw := fun_mk (st := s__law_draw) l1 c1 k1, b__law_draw := (fun_mk (st := s__law_draw) l1 c1 k1).binds (ps := ["_law_state", "_law_many"]) (fun _ _ _ _ _ _ us hl => match us, hl with | [_, _], _ => rfl), g__law_draw := PySem.W.mg_of X G a1, f__law_whole := f2, d__law_whole := (PySem.W.fnOf "_law_whole" "_law_whole" (defArgs s__law_whole) (defBody s__law_whole) (defScope s__law_whole) .none kV2 dc2 pm2 an2 cd2 ct2), F__law_whole := fun_mk (st := s__law_whole) l2 c2 k2, b__law_whole := (fun_mk (st := s__law_whole) l2 c2 k2).binds (ps := ["_law_found"]) (fun _ _ _ _ _ _ us hl => match us, hl with | [_], _ => rfl), g__law_whole := PySem.W.mg_of X G a2, f__law_row := f3, d__law_row := (PySem.W.fnOf "_law_row" "_law_row" (defArgs s__law_row) (defBody s__law_row) (defScope s__law_row) .none kV3 dc3 pm3 an3 cd3 ct3), F__law_row := fun_mk (st := s__law_row) l3 c3 k3, b__law_row := (fun_mk (st := s__law_row) l3 c3 k3).binds (ps := ["_law_found"]) (fun _ _ _ _ _ _ us hl => match us, hl with | [_], _ => rfl), g__law_row := PySem.W.mg_of X G a3, f__law_some_heap := f4, d__law_some_heap := (PySem.W.fnOf "_law_some_heap" "_law_some_heap" (defArgs s__law_some_heap) (defBody s__law_some_heap) (defScope s__law_some_heap) .none kV4 dc4 pm4 an4 cd4 ct4), F__law_some_heap := fun_mk (st := s__law_some_heap) l4 c4 k4, b__law_some_heap := (fun_mk (st := s__law_some_heap) l4 c4 k4).binds (ps := ["_law_state"]) (fun _ _ _ _ _ _ us hl => match us, hl with | [_], _ => rfl), g__law_some_heap := PySem.W.mg_of X G a4, f__law_start := f5, d__law_start := (PySem.W.fnOf "_law_start" "_law_start" (defArgs s__law_start) (defBody s__law_start) (defScope s__law_start) .none kV5 dc5 pm5 an5 cd5 ct5), F__law_start := fun_mk (st := s__law_start) l5 c5 k5, b__law_start := (fun_mk (st := s__law_start) l5 c5 k5).binds (ps := ["_law_script"]) (fun _ _ _ _ _ _ us hl => match us, hl with | [_], _ => rfl), g__law_start := PySem.W.mg_of X G a5, f__law_text := f6, d__law_text := (PySem.W.fnOf "_law_text" "_law_text" (defArgs s__law_text) (defBody s__law_text) (defScope s__law_text) .none kV6 dc6 pm6 an6 cd6 ct6), F__law_text := fun_mk (st := s__law_text) l6 c6 k6, b__law_text := (fun_mk (st := s__law_text) l6 c6 k6).binds (ps := ["_law_heap"]) (fun _ _ _ _ _ _ us hl => match us, hl with | [_], _ => rfl), g__law_text := PySem.W.mg_of X G a6, f_heap_text := f7, d_heap_text := (PySem.W.fnOf "heap_text" "heap_text" (defArgs s_heap_text) (defBody s_heap_text) (defScope s_heap_text) .none kV7 dc7 pm7 an7 cd7 ct7), F_heap_text := fun_mk (st := s_heap_text) l7 c7 k7, b_heap_text := (fun_mk (st := s_heap_text) l7 c7 k7).binds (ps := ["heap"]) (fun _ _ _ _ _ _ us hl => match us, hl with | [_], _ => rfl), g_heap_text := PySem.W.mg_of X G a7, f_read_part := f8, d_read_part := (PySem.W.fnOf "read_part" "read_part" (defArgs s_read_part) (defBody s_read_part) (defScope s_read_part) .none kV8 dc8 pm8 an8 cd8 ct8), F_read_part := fun_mk (st := s_read_part) l8 c8 k8, b_read_part := (fun_mk (st := s_read_part) l8 c8 k8).binds (ps := ["word"]) (fun _ _ _ _ _ _ us hl => match us, hl with | [_], _ => rfl), g_read_part := PySem.W.mg_of X G a8, f_read_heap := f9, d_read_heap := (PySem.W.fnOf "read_heap" "read_heap" (defArgs s_read_heap) (defBody s_read_heap) (defScope s_read_heap) .none kV9 dc9 pm9 an9 cd9 ct9), F_read_heap := fun_mk (st := s_read_heap) l9 c9 k9, b_read_heap := (fun_mk (st := s_read_heap) l9 c9 k9).binds (ps := ["text"]) (fun _ _ _ _ _ _ us hl => match us, hl with | [_], _ => rfl), g_read_heap := PySem.W.mg_of X G a9, f_law := fa, d_law := (PySem.W.fnOf "law" "law" (defArgs s_law) (defBody s_law) (defScope s_law) .none kV10 dc10 pm10 an10 cd10 ct10), F_law := fun_mk (st := s_law) l10 c10 k10, b_law := (fun_mk (st := s_law) l10 c10 k10).binds (ps := ["_law_script"]) (fun _ _ _ _ _ _ us hl => match us, hl with | [_], _ => rfl), g_law := PySem.W.mg_of X G a10, ca := (fun n => match n with | 0 => u0 | 3 => u3 | _ => u0), xf := XF.mk_of (ks := [0, 3]) (ca := (fun n => match n with | 0 => u0 | 3 => u3 | _ => u0)) (List.forall_mem_cons.mpr ⟨PySem.W.mg_of X G x0, List.forall_mem_cons.mpr ⟨PySem.W.mg_of X G x3, by simp⟩⟩) xc, z_all := PySem.W.mg_none_of X G zall, z_bool := PySem.W.mg_none_of X G zbool, z_int := PySem.W.mg_none_of X G zint, z_isinstance := PySem.W.mg_none_of X G zisinstance, z_len := PySem.W.mg_none_of X G zlen, z_range := PySem.W.mg_none_of X G zrange, z_sorted := PySem.W.mg_none_of X G zsorted, z_str := PySem.W.mg_none_of X G zstr, z_tuple := PySem.W.mg_none_of X G ztuple, z_zip := PySem.W.mg_none_of X G zzip, c_FIGURES := ⟨_, PySem.W.mg_of X G yFIGURES⟩, c_MOST_PARTS := ⟨_, PySem.W.mg_of X G yMOST_PARTS⟩, c_MOST_SIGNS := ⟨_, PySem.W.mg_of X G yMOST_SIGNS⟩ }
  exact ⟨T.d_law, fun s v => .of_eq rfl, fun base _ _ => ok_law T⟩
end K06
open PySem PySem.W PyProof.Rows
set_option maxHeartbeats 0 in
theorem PySem.Challenge.cw_shutpairs_k06_heaps_as_texts_holds : PySem.Challenge.rw_shutpairs_k06_heaps_as_texts.Holds := by
  w_on; o_law; k_head; (case hw => w_witness2)
  k_fill
  refine L2.walk_of (l := PySem.Challenge.rw_shutpairs_k06_heaps_as_texts) (n := 63) (k := 4) (x := "_law_script") (CX := fun w => L2.CX PySem.Challenge.rw_shutpairs_k06_heaps_as_texts.prog w) (sp := fun w => Dt.spLaw _) rfl (by decide) rfl ⟨rfl, by decide, by decide⟩ (fun w h Y => PySem.W.kIn_of Y) ?F (fun _ _ a ns hl _ hS => ⟨a, ns, rfl, hS, hl, fun _ => rfl⟩) (fun _ _ _ _ _ h => by obtain ⟨_, _, _, _, _, _, _, _, _, _, _, _, z⟩ := h; exact z.elim)
  case F =>
    intro w mg fa h KX G hmg
    refine' K06.all_mk KX G hmg ?a0 ?l0 ?c0 ?k0 ?a1 ?l1 ?c1 ?k1 ?a2 ?l2 ?c2 ?k2 ?a3 ?l3 ?c3 ?k3 ?a4 ?l4 ?c4 ?k4 ?a5 ?l5 ?c5 ?k5 ?a6 ?l6 ?c6 ?k6 ?a7 ?l7 ?c7 ?k7 ?a8 ?l8 ?c8 ?k8 ?a9 ?l9 ?c9 ?k9 ?a10 ?l10 ?c10 ?k10 ?x0 ?x3 ?xc ?zall ?zbool ?zint ?zisinstance ?zlen ?zrange ?zsorted ?zstr ?ztuple ?zzip ?yFIGURES ?yMOST_PARTS ?yMOST_SIGNS
    (case a0 => k_is); (case l0 => k_is); (case c0 => k_is); (case k0 => k_is); (case a1 => k_is); (case l1 => k_is); (case c1 => k_is); (case k1 => k_is); (case a2 => k_is); (case l2 => k_is); (case c2 => k_is); (case k2 => k_is); (case a3 => k_is); (case l3 => k_is); (case c3 => k_is); (case k3 => k_is); (case a4 => k_is); (case l4 => k_is); (case c4 => k_is); (case k4 => k_is); (case a5 => k_is); (case l5 => k_is); (case c5 => k_is); (case k5 => k_is); (case a6 => k_is); (case l6 => k_is); (case c6 => k_is); (case k6 => k_is); (case a7 => k_is); (case l7 => k_is); (case c7 => k_is); (case k7 => k_is); (case a8 => k_is); (case l8 => k_is); (case c8 => k_is); (case k8 => k_is); (case a9 => k_is); (case l9 => k_is); (case c9 => k_is); (case k9 => k_is); (case a10 => k_is); (case l10 => k_is); (case c10 => k_is); (case k10 => k_is); (case x0 => k_is); (case x3 => k_is); (case xc => kernel_rfl); (case zall => k_is); (case zbool => k_is); (case zint => k_is); (case zisinstance => k_is); (case zlen => k_is); (case zrange => k_is); (case zsorted => k_is); (case zstr => k_is); (case ztuple => k_is); (case zzip => k_is); (case yFIGURES => k_is); (case yMOST_PARTS => k_is); (case yMOST_SIGNS => k_is)
