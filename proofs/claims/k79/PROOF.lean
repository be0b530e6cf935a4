import PyProof.Rows.All
import Wide.All
import OpenK.AllK
import Wide.FinOn
import HandS.TupMul
import HandS.TupAny
import HandS.Style
import HandS.Conv
import HandS.ForMost
import HandS.ForExc
import HandS.Wide
import HandS.Deep
import HandS.IsInst
import PyProof.NeKinds
import PyProof.P3In
import KE.KTupSum
import PyProof.ReprRoads
import PyProof.CallFns
import PyProof.FString4
import HandS.SortInts
import HandS.CallSlots
import KE.GoesNew
import KE.GoesMore
import KE.GoesEnum
import HandS.Zip
import HandS.SetFor
import KE.DataFind
import HandS.ExcInit
import KE.KExcSuper
import HandS.TryMany
import HandS.ExcField
import KE.KTryMore
import HandS.Ends
import PySem.Challenge.RW_pumphouse_k79_whole_crews_count_as_state
set_option Elab.async false
set_option linter.all false
set_option maxRecDepth 100000
set_option maxHeartbeats 4000000
namespace Lt
open PySem PySem.Spec PyProof.Rows L2
open PySem.SeqAt
open PySem.AutoSeq1 (wpAny_loadPart')
open PySem.MeetsSeq PySem.MeetsSeq2 PySem.MeetsSeq3
theorem tuple_mul1 (l : Addr) (items : Array Value) (n : Nat) (dd : Option Addr) (sl : Array (Option Value)) (x : Int) (u : Tok) (c0 : (decide (x < -(2 ^ 63)) || decide (x ≥ 2 ^ 63)) = false) (c1 : (items.isEmpty || x == 1) = true) :
    Meets (Builtin.«tuple.__mul__» ⟨[.ref l, .int x u], []⟩) (fun _ R s => s.heap.get? l = some { cls := .type "tuple", dict := dd, data := .seq items n, slots := sl } ∧
      R (.ok (.ret (.ref l))) s) :=
  .of_wp fun prog w A R s h => by
    obtain ⟨hp, g, d, tk, os⟩ := s
    obtain ⟨hl, h⟩ := h
    have f1 := AutoSeq1.idx_int
    wp_walk using wpAny_loadPart' hl
    repeat (first
      | (refine wpAny_ite_false (decide_eq_false (by rw [c0]; exact Bool.false_ne_true)) ?_; wp_walk using wpAny_loadPart' hl)
      | (refine wpAny_ite_true (decide_eq_true c1) ?_; wp_walk using wpAny_loadPart' hl))
    exact ⟨_, rfl, h⟩
theorem tuple_mul0 (l : Addr) (items : Array Value) (n : Nat) (dd : Option Addr) (sl : Array (Option Value)) (x : Int) (u : Tok) (c0 : (decide (x < -(2 ^ 63)) || decide (x ≥ 2 ^ 63)) = false) (c1 : (items.isEmpty || x == 1) = false) (c2 : (decide (x ≤ 0) || items.isEmpty) = true) :
    Meets (Builtin.«tuple.__mul__» ⟨[.ref l, .int x u], []⟩) (fun _ R s => s.heap.get? l = some { cls := .type "tuple", dict := dd, data := .seq items n, slots := sl } ∧
      R (.ok (.ret (Value.ref s.heap.objs.size))) { s with heap := s.heap.push { cls := Value.type "tuple", data := Data.seq #[] }, toks := s.toks }) :=
  .of_wp fun prog w A R s h => by
    obtain ⟨hp, g, d, tk, os⟩ := s
    obtain ⟨hl, h⟩ := h
    have f1 := AutoSeq1.idx_int
    wp_walk using wpAny_loadPart' hl
    repeat (first
      | (refine wpAny_ite_false (decide_eq_false (by rw [c0]; exact Bool.false_ne_true)) ?_; wp_walk using wpAny_loadPart' hl)
      | (refine wpAny_ite_false (decide_eq_false (by rw [c1]; exact Bool.false_ne_true)) ?_; wp_walk using wpAny_loadPart' hl)
      | (refine wpAny_ite_true (decide_eq_true c2) ?_; wp_walk using wpAny_loadPart' hl))
    exact ⟨_, rfl, h⟩
def rRep1 (K : PySem.W.Frag) : R2 := fun x y H Q => ∃ l k xs, x = .ref l ∧ y = .int k ∧ SqT K H l xs ∧ -(2 ^ 63) ≤ k ∧ k < 2 ^ 63 ∧ (xs = [] ∨ k = 1) ∧ Q (.ref l) H
def rRep0 (K : PySem.W.Frag) : R2 := fun x y H Q => ∃ l k xs, x = .ref l ∧ y = .int k ∧ SqT K H l xs ∧ xs ≠ [] ∧ -(2 ^ 63) ≤ k ∧ k ≤ 0 ∧ ∀ p o, H p = none → o.dict = none → Q (.ref p) (upd H p (.frz o (.tup [])))
section
variable {X : Cx}
theorem op_rep1 : OpR X (binaryOp .Mult) (rRep1 X.K) := by
  intro pins s σ H x y v u Q I rx ry h
  obtain ⟨l, k, xs, rfl, rfl, hT, h1, h2, hk, q⟩ := h
  cases rx
  obtain ⟨t, rfl⟩ := ry
  obtain ⟨its, r, ⟨⟨cls, dd, data, sl⟩, ho, hc, n, hd⟩, hs⟩ := I.tuple hT
  simp only at hc hd
  subst hc hd
  have hle : its.length = xs.length := r.length.symm
  have c0 : (decide (k < -(2 ^ 63)) || decide (k ≥ 2 ^ 63)) = false := by
    rw [decide_eq_false (by omega), decide_eq_false (by omega)] <;> rfl
  have c1 : (its.toArray.isEmpty || k == 1) = true := by
    rcases hk with hk | hk
    · rw [hk] at hle
      rw [List.eq_nil_of_length_eq_zero hle]; rfl
    · rw [hk]; simp
  refine wpAny_binaryOp_repeat_ref (T := "tuple") (U := "int") (by decide) ⟨_, ho, rfl⟩ (fun s' => typeIs_int s' k t) noFill_tuple_mul F.fills_int_mul F.slot_int_rmul repeat_tuple F.slot_int_index.lookup
    (call_meets F.slot_int_rmul (typeIs_int s k t) F.entry_int_rmul (F.args_int_rmul_2 _ _) (int_rmul_tuple k t l its.toArray n dd sl)
      ⟨ho, rfl, ⟨_, ho, rfl⟩, call_meets F.slot_tuple_mul ⟨_, ho, rfl⟩ F.entry_tuple_mul (F.args_tuple_mul_2 _ _) (tuple_mul1 l its.toArray n dd sl k t c0 c1) ⟨ho, ?_⟩⟩)
  exact ⟨.ref l, _, I, rfl, q⟩
/-- a new tuple, whose object is known to be bare -/
def NT (H : Hp) (Q : VK) (xs : List V) : Prop := ∀ p o, H p = none → o.dict = none → Q (.ref p) (upd H p (.frz o (.tup xs)))
theorem laidT {pins : List (Addr × Obj)} {σ : L2.St} {H : Hp} {s : Shared} (I : Inv X pins σ H s) {xs : List V} {its : List Value} (r : Vals xs its) (hz : xs.length ≤ sizeLine) :
    Inv X pins σ (upd H s.heap.objs.size (.frz { cls := .type "tuple", data := .seq its.toArray } (.tup xs))) { s with heap := s.heap.push { cls := .type "tuple", data := .seq its.toArray } } :=
  I.laid (t' := s.toks) (fun b ob q => Heap.get?_push_of_some _ q) (Nat.le_refl _) ⟨Heap.get?_push_size _ rfl, hz, its, r, IsTup.new _ _⟩
theorem op_rep0 : OpR X (binaryOp .Mult) (rRep0 X.K) := by
  intro pins s σ H x y v u Q I rx ry h
  obtain ⟨l, k, xs, rfl, rfl, hT, hne, h1, h2, q⟩ := h
  cases rx
  obtain ⟨t, rfl⟩ := ry
  obtain ⟨its, r, ⟨⟨cls, dd, data, sl⟩, ho, hc, n, hd⟩, hs⟩ := I.tuple hT
  simp only at hc hd
  subst hc hd
  have hle : its.length = xs.length := r.length.symm
  have hi : its.toArray.isEmpty = false := by
    cases its with
    | nil => exact absurd (List.eq_nil_of_length_eq_zero hle.symm) hne
    | cons a b => rfl
  have c0 : (decide (k < -(2 ^ 63)) || decide (k ≥ 2 ^ 63)) = false := by
    rw [decide_eq_false (by omega), decide_eq_false (by omega)] <;> rfl
  have c1 : (its.toArray.isEmpty || k == 1) = false := by
    rw [hi, Bool.false_or]
    exact beq_eq_false_iff_ne.mpr (by omega)
  have c2 : (decide (k ≤ 0) || its.toArray.isEmpty) = true := by
    rw [decide_eq_true h2]; rfl
  refine wpAny_binaryOp_repeat_ref (T := "tuple") (U := "int") (by decide) ⟨_, ho, rfl⟩ (fun s' => typeIs_int s' k t) noFill_tuple_mul F.fills_int_mul F.slot_int_rmul repeat_tuple F.slot_int_index.lookup
    (call_meets F.slot_int_rmul (typeIs_int s k t) F.entry_int_rmul (F.args_int_rmul_2 _ _) (int_rmul_tuple k t l its.toArray n dd sl)
      ⟨ho, rfl, ⟨_, ho, rfl⟩, call_meets F.slot_tuple_mul ⟨_, ho, rfl⟩ F.entry_tuple_mul (F.args_tuple_mul_2 _ _) (tuple_mul0 l its.toArray n dd sl k t c0 c1 c2) ⟨ho, ?_⟩⟩)
  exact ⟨.ref s.heap.objs.size, _, laidT I (xs := []) (its := []) .nil (Nat.zero_le _), rfl, q _ _ (I.hok.fresh (Nat.le_refl _)) rfl⟩
/-- t * k -/
def rRepB (K : PySem.W.Frag) : R2 := fun x y H Q => ∃ l k xs, x = .ref l ∧ y = .int k ∧ SqT K H l xs ∧ xs ≠ [] ∧ 2 ≤ k ∧ k ≤ 1000 ∧ xs.length ≤ 1000 ∧ NT H Q (List.replicate k.toNat xs).flatten
theorem op_repB : OpR X (binaryOp .Mult) (rRepB X.K) := by
  intro pins s σ H x y v u Q I rx ry ⟨l, k, xs, e1, e2, hT, hne, k2, k3, hz, q⟩
  subst e1 e2
  cases rx
  obtain ⟨t, rfl⟩ := ry
  obtain ⟨its, r, ⟨⟨c, dd, dt, sl⟩, ho, hc, n, hd⟩, hs⟩ := I.tuple hT
  simp only at hc hd
  subst hc hd
  have len : its.length = xs.length := r.length.symm
  have emp : its.toArray.isEmpty = false := by
    cases its with
    | nil => exact absurd (List.eq_nil_of_length_eq_zero len.symm) hne
    | cons _ _ => rfl
  have sz : its.toArray.size = xs.length := by rw [List.size_toArray, len]
  have most : ((its.toArray.size : Nat) : Int) * k ≤ 1000000 := by
    rw [sz]
    have := Int.mul_le_mul_of_nonneg_right (show ((xs.length : Nat) : Int) ≤ 1000 by omega) (show 0 ≤ k by omega)
    omega
  have fl : ∀ {α : Type} (zs : List α), zs.length = xs.length → (List.replicate k.toNat zs).flatten.length ≤ sizeLine := fun zs e => by
    rw [PyProof.Rows.lm_len_rep_flat, e, sizeLine_eq]
    have := Nat.mul_le_mul (show k.toNat ≤ 1000 by omega) hz
    omega
  have d0 : (decide (k < -(2 ^ 63)) || decide (k ≥ 2 ^ 63)) = false := by
    rw [decide_eq_false (by omega), decide_eq_false (by omega)] <;> rfl
  have d1 : (its.toArray.isEmpty || k == 1) = false := by
    rw [emp, Bool.false_or]; exact beq_eq_false_iff_ne.mpr (by omega)
  have d2 : (decide (k ≤ 0) || its.toArray.isEmpty) = false := by
    rw [emp, Bool.or_false]; exact decide_eq_false (by omega)
  have d4 : Builtin.Tuple.tupleTooMany (((its.toArray.size : Nat) : Int) * k) = false := by
    unfold Builtin.Tuple.tupleTooMany
    rw [sizeLine_eq]; exact decide_eq_false (by omega)
  refine wpAny_binaryOp_repeat_ref (T := "tuple") (U := "int") (by decide) ⟨_, ho, rfl⟩ (fun s' => typeIs_int s' k t) noFill_tuple_mul F.fills_int_mul F.slot_int_rmul repeat_tuple F.slot_int_index.lookup
    (call_meets F.slot_int_rmul (typeIs_int s k t) F.entry_int_rmul (F.args_int_rmul_2 _ _) (int_rmul_tuple k t l its.toArray n dd sl)
      ⟨ho, rfl, ⟨_, ho, rfl⟩, call_meets F.slot_tuple_mul ⟨_, ho, rfl⟩ F.entry_tuple_mul (F.args_tuple_mul_2 _ _) (tuple_mulW l its.toArray n dd sl k t d0 d1 d2 (by omega) d4 (by rw [size_rep, List.size_toArray]; exact fl its len)) ⟨ho, ?_⟩⟩)
  rw [size_rep]
  exact ⟨.ref s.heap.objs.size, _, laidT I (r.rep k.toNat) (fl xs rfl), rfl, q _ _ (I.hok.fresh (Nat.le_refl _)) rfl⟩
/-- t + u -/
def rCatB (K : PySem.W.Frag) : R2 := fun x y H Q => ∃ a b xs ys, x = .ref a ∧ y = .ref b ∧ SqT K H a xs ∧ SqT K H b ys ∧ xs.length + ys.length ≤ sizeLine ∧
  (xs = [] → Q (.ref b) H) ∧ (xs ≠ [] → ys = [] → Q (.ref a) H) ∧ (xs ≠ [] → ys ≠ [] → NT H Q (xs ++ ys))
theorem op_catB : OpR X (binaryOp .Add) (rCatB X.K) := by
  intro pins s σ H x y v u Q I rx ry h
  obtain ⟨a, b, xs, ys, rfl, rfl, ha, hb, hz, q0, q1, q2⟩ := h
  cases rx
  cases ry
  obtain ⟨its, r1, p1, _⟩ := I.tuple ha
  obtain ⟨its2, r2, p2, _⟩ := I.tuple hb
  by_cases hx : xs = []
  · subst hx
    cases r1
    exact cat_tup0 p1 p2 ⟨.ref b, H, I, rfl, q0 rfl⟩
  · refine HT.cat_tup p1 p2 (fun z => hx (r1.nil_iff.mp z)) (fun z => ⟨.ref a, H, I, rfl, q1 hx (r2.nil_iff.mp z)⟩) (fun z => ?_) (by rw [← r1.length, ← r2.length]; exact hz)
    exact ⟨.ref s.heap.objs.size, _, laidT I (r1.append r2) (by rw [List.length_append]; exact hz), rfl, q2 hx (fun w => z (r2.nil_iff.mpr w)) _ _ (I.hok.fresh (Nat.le_refl _)) rfl⟩
/-- t[lo:hi] -/
def rSlB (K : PySem.W.Frag) : V → Option Int → Option Int → Hp → VK → Prop := fun x lo hi H Q => ∃ a xs, x = .ref a ∧ SqT K H a xs ∧
  (HT.sIx xs.length 0 lo = 0 ∧ HT.sIx xs.length xs.length hi = xs.length → Q (.ref a) H) ∧ (¬ (HT.sIx xs.length 0 lo = 0 ∧ HT.sIx xs.length xs.length hi = xs.length) → NT H Q (cutV xs lo hi))
theorem sl_tupB : SlR X (rSlB X.K) := by
  intro pins s σ H x v vl vu lo hi sl Q I rx hs pl pu h
  obtain ⟨a, xs, rfl, hx, q1, q2⟩ := h
  cases rx
  obtain ⟨its, r, ht, hz⟩ := I.tuple hx
  have hlen : its.toArray.size = xs.length := by rw [List.size_toArray]; exact r.length.symm
  refine ⟨"tuple", _, PyProof.Rows.slot_tuple_getitem.lookup, ht.typeIs, ?_⟩
  by_cases hw : HT.sIx xs.length 0 lo = 0 ∧ HT.sIx xs.length xs.length hi = xs.length
  · exact getItem_tuple_whole ht hs pl pu (by rw [hlen]; exact hw) ⟨.ref a, H, I, rfl, q1 hw⟩
  · refine HT.getItem_tuple_cut ht hs pl pu (by rw [hlen]; exact hw) ?_ (by rw [hlen]; exact hz)
    rw [hlen]
    exact ⟨.ref s.heap.objs.size, _, laidT I ((r.drop (HT.sIx xs.length 0 lo)).take (HT.sIx xs.length xs.length hi - HT.sIx xs.length 0 lo)) (Nat.le_trans (cutV_length xs lo hi) hz), rfl, q2 hw _ _ (I.hok.fresh (Nat.le_refl _)) rfl⟩
/-- (.., ..) -/
def tTupB (t : TA) : TE := fun σ H Q => t σ H fun xs H1 => xs.length ≤ sizeLine ∧ NT H1 Q xs
theorem pe_tupB {x1 : Nat} {es : List Expr} {t : TA} {pos : Pos} (h : PA X es t) : PE X (.Tuple es x1 pos) (tTupB t) := by
  refine ⟨fun pins s σ H Q I hq => ?_⟩
  refine wpAny_Tuple_spliced (thn (h.run pos pins s σ H _ I hq) fun us s1 ⟨xs, H1, I1, r, z, q⟩ => ⟨by rw [← r.length]; exact z, ?_⟩)
  exact ⟨.ref s1.heap.objs.size, _, laidT I1 r z, rfl, q _ _ (I1.hok.fresh (Nat.le_refl _)) rfl⟩
/-- tuple(x) -/
def rTupB (K : PySem.W.Frag) : List V → Hp → VK → Prop := fun xs H Q => ∃ p ys, xs = [.ref p] ∧ ((SqL K H p ys ∧ NT H Q ys) ∨ (SqT K H p ys ∧ Q (.ref p) H))
theorem call_tupleB : CallR X (.type "tuple") (rTupB X.K) := by
  intro pins s σ H xs us Q I r h
  obtain ⟨p, ys, rfl, h⟩ := h
  obtain ⟨u, rfl, rx⟩ := vals1 r
  cases rx
  rcases h with ⟨hq, q⟩ | ⟨hq, q⟩
  · obtain ⟨its, r', pl, hz⟩ := I.list hq
    have hlen := r'.length
    refine call_tuple_list pl.isList (fun h' kp => ?_) (by simp only [List.size_toArray] <;> omega)
    have I1 : Inv X pins σ H { s with heap := h' } := I.kept (t' := s.toks) kp
    exact ⟨.ref h'.objs.size, _, laidT I1 r' hz, rfl, q _ _ (I1.hok.fresh (Nat.le_refl _)) rfl⟩
  · obtain ⟨its, r', pl, hz⟩ := I.tuple hq
    exact call_tuple_same pl ⟨.ref p, H, I, rfl, q⟩
/-- tuple(range(..)) -/
def tTupRgB (te : L2.St → Hp → (Int → Int → Hp → Prop) → Prop) : TE := fun σ H Q => te σ H fun a b H1 => RgOk a b ∧ NT H1 Q (rgV a b)
theorem pe_tupRgB {e : Expr} {te : L2.St → Hp → (Int → Int → Hp → Prop) → Prop} {p pos : Pos} (hc : X.calm = true) (hg : Gl X "tuple") (hm : X.mg "tuple" = none) (he : PRg X e te) (na : starEach [e] X.env = (false, eval e X.env) :: starEach [] X.env := by rfl) : PE X (.Call (.Name "tuple" p) [e] [] pos) (tTupRgB te) := by
  refine ⟨fun pins s σ H Q I h => ?_⟩
  refine Call_ (ld_blt I hg hm boot_tuple (PyProof.Rows.callWith_type1 (args_cons (thn (he pins s σ H _ I h) fun x s1 ⟨r, a, b, t, u, v, H1, ex, hr, I1, ok, q⟩ => args_nil ?_) na) na))
  subst ex
  obtain ⟨b1, b2, b3, b4, b5⟩ := ok
  refine call_tuple_range (n := (b - a).toNat) (I1.ok.hd hc) hr (small_one b1 b2 b3 b4) (rangeSize_nat a b) b5 fun h' tk acc hk hi => ?_
  have I2 : Inv X pins σ H1 { s1 with heap := h', toks := tk } := I1.kept hk
  refine ⟨.ref h'.objs.size, _, laidT I2 (vals_rg hi) (by rw [rgV_length, sizeLine_eq]; omega), rfl, q _ _ (I2.hok.fresh (Nat.le_refl _)) rfl⟩
end
end Lt
set_option maxHeartbeats 1000000
/-! LtA: values, slots, results; what represents them; steps. -/
namespace Lt
open PySem PySem.Spec L2
open PyProof.Rows hiding St

/-- a value that is never changed from now on -/
inductive PV where
  | non | bl (b : Bool) | int (i : Int) | str (x : Str)
  | tup (xs : List PV) | tmp (xs : List PV) | lst (xs : List PV) | dic (ks vs : List PV)
  | glb (x : Str)
  | ex0 (c : Str) | ex1 (c k : Str) (p : PV)
deriving Inhabited

/-- what a slot holds: a value, or an object of its own -/
inductive SV where
  | v (p : PV) | l (xs : List PV) | d (kvs : List (PV × PV)) | r (kvs : List (Str × SV)) | o (c : Str) (fs : List (Str × SV))
deriving Inhabited

abbrev Loc := List (Option SV)
/-- an exception: its class, its fields -/
structure Xn where
  c : Str
  fs : List (Str × PV)
inductive Rs (α : Type) where
  | ok (a : α) (ρ : Loc) | ex (x : Xn) (ρ : Loc) | no

/-- what never changes at an address -/
def isFz : HO → Prop
  | .tup _ => True
  | .frz _ _ => True
  | .own _ => True
  | _ => False

mutual
def RV (mg : Str → Option Value) (H : Hp) : PV → V → Prop
  | .non, x => x = .non
  | .bl b, x => x = .bl b
  | .int i, x => x = .int i
  | .str s, x => x = .str s
  | .tup xs, x => ∃ a o vs, x = .ref a ∧ H a = some (.frz o (.tup vs)) ∧ o.dict = none ∧ RVs mg H xs vs
  | .tmp xs, x => ∃ a vs, x = .ref a ∧ H a = some (.tup vs) ∧ RVs mg H xs vs
  | .lst xs, x => ∃ a o vs, x = .ref a ∧ H a = some (.frz o (.lst vs)) ∧ RVs mg H xs vs
  | .dic _ _, _ => False
  | .glb s, x => ∃ a, mg s = some (.ref a) ∧ x = .ref a
  | .ex0 c, x => ∃ a C o, x = .ref a ∧ mg c = some (.ref C) ∧ H a = some (.frz o (.own a)) ∧ o.cls = .ref C ∧ o.dict = none ∧ ∃ vs, o.data = .fields vs
  | .ex1 c k p, x => ∃ a C o d od y, x = .ref a ∧ mg c = some (.ref C) ∧ H a = some (.frz o (.own a)) ∧ o.cls = .ref C ∧ o.dict = some d ∧ (∃ vs, o.data = .fields vs) ∧ H d = some (.frz od (.xd [(k, y)])) ∧ RV mg H p y
def RVs (mg : Str → Option Value) (H : Hp) : List PV → List V → Prop
  | [], xs => xs = []
  | p :: ps, xs => ∃ y ys, xs = y :: ys ∧ RV mg H p y ∧ RVs mg H ps ys
end

variable {mg : Str → Option Value} {H H' H1 H2 H3 : Hp}

mutual
theorem RV.stay (h : ∀ b o, H b = some o → isFz o → H' b = some o) : ∀ {p : PV} {x : V}, RV mg H p x → RV mg H' p x
  | .non, _, e => e
  | .bl _, _, e => e
  | .int _, _, e => e
  | .str _, _, e => e
  | .tup _, _, ⟨a, o, vs, e, e2, e3, r⟩ => ⟨a, o, vs, e, h _ _ e2 trivial, e3, RVs.stay h r⟩
  | .tmp _, _, ⟨a, vs, e, e2, r⟩ => ⟨a, vs, e, h _ _ e2 trivial, RVs.stay h r⟩
  | .lst _, _, ⟨a, o, vs, e, e2, r⟩ => ⟨a, o, vs, e, h _ _ e2 trivial, RVs.stay h r⟩
  | .dic _ _, _, e => e.elim
  | .glb _, _, e => e
  | .ex0 _, _, ⟨a, C, o, e, e1, e2, e3⟩ => ⟨a, C, o, e, e1, h _ _ e2 trivial, e3⟩
  | .ex1 _ _ _, _, ⟨a, C, o, d, od, y, e, e1, e2, e3, e4, e5, e6, r⟩ => ⟨a, C, o, d, od, y, e, e1, h _ _ e2 trivial, e3, e4, e5, h _ _ e6 trivial, RV.stay h r⟩
theorem RVs.stay (h : ∀ b o, H b = some o → isFz o → H' b = some o) : ∀ {p : List PV} {x : List V}, RVs mg H p x → RVs mg H' p x
  | [], _, e => e
  | _ :: _, _, ⟨y, ys, e, a, b⟩ => ⟨y, ys, e, RV.stay h a, RVs.stay h b⟩
end

theorem RVs.length : ∀ {ps : List PV} {xs : List V}, RVs mg H ps xs → xs.length = ps.length
  | [], _, e => by rw [show _ = _ from e]; rfl
  | _ :: _, _, ⟨y, ys, e, _, b⟩ => by rw [e, List.length_cons, List.length_cons, RVs.length b]
theorem RVs.cons {p : PV} {ps : List PV} {x : V} {xs : List V} (a : RV mg H p x) (b : RVs mg H ps xs) : RVs mg H (p :: ps) (x :: xs) := ⟨x, xs, rfl, a, b⟩
theorem RVs.nil : RVs mg H [] [] := rfl
theorem RVs.append : ∀ {ps qs : List PV} {xs ys : List V}, RVs mg H ps xs → RVs mg H qs ys → RVs mg H (ps ++ qs) (xs ++ ys)
  | [], _, _, _, e, r => by rw [show _ = _ from e]; exact r
  | _ :: _, _, _, _, ⟨y, ys, e, a, b⟩, r => by rw [e]; exact ⟨y, _, rfl, a, RVs.append b r⟩
theorem RVs.get : ∀ {ps : List PV} {xs : List V} {i : Nat} {p : PV}, RVs mg H ps xs → ps[i]? = some p → ∃ x, xs[i]? = some x ∧ RV mg H p x
  | [], _, _, _, _, e => by simp at e
  | _ :: _, _, 0, _, ⟨y, ys, e, a, b⟩, h => by simp at h; subst h; exact ⟨y, by rw [e]; rfl, a⟩
  | _ :: _, _, i + 1, _, ⟨y, ys, e, a, b⟩, h => by
    obtain ⟨x, h1, h2⟩ := RVs.get (i := i) b (by simpa using h)
    exact ⟨x, by rw [e]; simpa using h1, h2⟩
theorem RVs.getX : ∀ {ps : List PV} {xs : List V} {i : Nat} {x : V}, RVs mg H ps xs → xs[i]? = some x → ∃ p, ps[i]? = some p ∧ RV mg H p x := by
  intro ps xs i x r e
  have hl := r.length
  have hi : i < ps.length := by rw [← hl]; exact (List.getElem?_eq_some_iff.mp e).1
  obtain ⟨y, h1, h2⟩ := r.get (List.getElem?_eq_getElem hi)
  rw [e] at h1
  cases h1
  exact ⟨_, List.getElem?_eq_getElem hi, h2⟩
theorem RVs.take : ∀ {ps : List PV} {xs : List V} (n : Nat), RVs mg H ps xs → RVs mg H (ps.take n) (xs.take n)
  | _, _, 0, _ => by simp; exact RVs.nil
  | [], _, _ + 1, e => by rw [show _ = _ from e]; exact RVs.nil
  | _ :: _, _, n + 1, ⟨y, ys, e, a, b⟩ => by rw [e]; exact ⟨y, _, rfl, a, RVs.take n b⟩
theorem RVs.drop : ∀ {ps : List PV} {xs : List V} (n : Nat), RVs mg H ps xs → RVs mg H (ps.drop n) (xs.drop n)
  | _, _, 0, r => by simpa using r
  | [], _, _ + 1, e => by rw [show _ = _ from e]; exact RVs.nil
  | _ :: _, _, n + 1, ⟨y, ys, e, a, b⟩ => by rw [e]; simpa using RVs.drop n b
theorem RVs.reverse : ∀ {ps : List PV} {xs : List V}, RVs mg H ps xs → RVs mg H ps.reverse xs.reverse
  | [], _, e => by rw [show _ = _ from e]; exact RVs.nil
  | _ :: _, _, ⟨y, ys, e, a, b⟩ => by
    rw [e, List.reverse_cons, List.reverse_cons]
    exact RVs.append (RVs.reverse b) ⟨y, [], rfl, a, rfl⟩
theorem RVs.set : ∀ {ps : List PV} {xs : List V} {p : PV} {x : V} (n : Nat), RVs mg H ps xs → RV mg H p x → RVs mg H (ps.set n p) (xs.set n x)
  | [], _, _, _, _, e, _ => by rw [show _ = _ from e]; exact RVs.nil
  | _ :: _, _, _, _, 0, ⟨y, ys, e, a, b⟩, r => by rw [e]; exact ⟨_, _, rfl, r, b⟩
  | _ :: _, _, _, _, n + 1, ⟨y, ys, e, a, b⟩, r => by rw [e]; exact ⟨_, _, rfl, a, RVs.set n b r⟩
theorem RVs.replicate {p : PV} {x : V} (r : RV mg H p x) : ∀ n : Nat, RVs mg H (List.replicate n p) (List.replicate n x)
  | 0 => RVs.nil
  | n + 1 => ⟨_, _, rfl, r, RVs.replicate r n⟩

/-! ### slots -/
mutual
inductive RS (mg : Str → Option Value) (H : Hp) : SV → V → List Addr → Prop where
  | v {p : PV} {x : V} : RV mg H p x → RS mg H (.v p) x []
  | l {a : Addr} {xs : List PV} {vs : List V} : H a = some (.lst vs) → RVs mg H xs vs → RS mg H (.l xs) (.ref a) [a]
  | d {a : Addr} : H a = some (.dK []) → RS mg H (.d []) (.ref a) [a]
  | r {a : Addr} {kvs : List (Str × SV)} {kws : List (Str × V)} {L : List Addr} : H a = some (.dK (kws.map fun p => (Sum.inr p.1, p.2))) → RF mg H kvs kws L → a ∉ L → (kvs.map (·.1)).Nodup → RS mg H (.r kvs) (.ref a) (a :: L)
  | o {a C dx : Addr} {c : Str} {kvs : List (Str × SV)} {kws : List (Str × V)} {L : List Addr} : mg c = some (.ref C) → H a = some (.ins C dx kws) → H dx = some (.own a) → RF mg H kvs kws L → a ∉ L → RS mg H (.o c kvs) (.ref a) (a :: L)
inductive RF (mg : Str → Option Value) (H : Hp) : List (Str × SV) → List (Str × V) → List Addr → Prop where
  | nil : RF mg H [] [] []
  | cons {k : Str} {s : SV} {x : V} {kvs : List (Str × SV)} {kws : List (Str × V)} {L1 L2 : List Addr} : RS mg H s x L1 → RF mg H kvs kws L2 → (∀ a ∈ L1, a ∉ L2) → RF mg H ((k, s) :: kvs) ((k, x) :: kws) (L1 ++ L2)
end

/-- what may be owned -/
theorem RS.there {s : SV} {x : V} {L : List Addr} (r : RS mg H s x L) : ∀ a ∈ L, ∃ o, H a = some o ∧ ¬ isFz o := by
  refine RS.rec (motive_1 := fun s x L _ => ∀ a ∈ L, ∃ o, H a = some o ∧ ¬ isFz o) (motive_2 := fun s x L _ => ∀ a ∈ L, ∃ o, H a = some o ∧ ¬ isFz o) ?_ ?_ ?_ ?_ ?_ ?_ ?_ r
  · intro p x _ a h; exact nomatch h
  · intro a xs vs e _ b h
    rw [List.mem_singleton.mp h]; exact ⟨_, e, fun z => z⟩
  · intro a e b h
    rw [List.mem_singleton.mp h]; exact ⟨_, e, fun z => z⟩
  · intro a kvs kws L e _ _ _ ih b h
    rcases List.mem_cons.mp h with rfl | h
    · exact ⟨_, e, fun z => z⟩
    · exact ih b h
  · intro a C dx c kvs kws L _ e _ _ _ ih b h
    rcases List.mem_cons.mp h with rfl | h
    · exact ⟨_, e, fun z => z⟩
    · exact ih b h
  · intro a h; exact nomatch h
  · intro k s x kvs kws L1 L2 _ _ _ i1 i2 a h
    rcases List.mem_append.mp h with h | h
    · exact i1 a h
    · exact i2 a h
theorem RS.stay {s : SV} {x : V} {L : List Addr} (r : RS mg H s x L) (h : ∀ b o, H b = some o → isFz o → H' b = some o) (h2 : ∀ b ∈ L, ∀ o, H b = some o → H' b = some o) : RS mg H' s x L := by
  refine RS.rec (motive_1 := fun s x L _ => (∀ b ∈ L, ∀ o, H b = some o → H' b = some o) → RS mg H' s x L) (motive_2 := fun s x L _ => (∀ b ∈ L, ∀ o, H b = some o → H' b = some o) → RF mg H' s x L) ?_ ?_ ?_ ?_ ?_ ?_ ?_ r h2
  · intro p x r _; exact .v (r.stay h)
  · intro a xs vs e r k; exact .l (k a (List.mem_singleton.mpr rfl) _ e) (r.stay h)
  · intro a e k; exact .d (k a (List.mem_singleton.mpr rfl) _ e)
  · intro a kvs kws L e _ n nd ih k; exact .r (k a List.mem_cons_self _ e) (ih fun b hb => k b (List.mem_cons_of_mem _ hb)) n nd
  · intro a C dx c kvs kws L m e e2 _ n ih k; exact .o m (k a List.mem_cons_self _ e) (h _ _ e2 trivial) (ih fun b hb => k b (List.mem_cons_of_mem _ hb)) n
  · intro _; exact .nil
  · intro k s x kvs kws L1 L2 _ _ n i1 i2 q
    exact .cons (i1 fun b hb => q b (List.mem_append_left _ hb)) (i2 fun b hb => q b (List.mem_append_right _ hb)) n

/-- the slots -/
inductive RL (mg : Str → Option Value) (H : Hp) : Loc → St → List Addr → Prop where
  | nil : RL mg H [] [] []
  | no {y : Option V} {ρ : Loc} {σ : St} {L : List Addr} : RL mg H ρ σ L → RL mg H (none :: ρ) (y :: σ) L
  | cons {s : SV} {x : V} {ρ : Loc} {σ : St} {L1 L2 : List Addr} : RS mg H s x L1 → RL mg H ρ σ L2 → (∀ a ∈ L1, a ∉ L2) → RL mg H (some s :: ρ) (some x :: σ) (L1 ++ L2)

theorem RL.there {ρ : Loc} {σ : St} {L : List Addr} (r : RL mg H ρ σ L) : ∀ a ∈ L, ∃ o, H a = some o ∧ ¬ isFz o := by
  induction r with
  | nil => intro a h; exact nomatch h
  | no _ ih => exact ih
  | cons r _ _ ih => intro a h; rcases List.mem_append.mp h with h | h; exact r.there a h; exact ih a h
theorem RL.stay {ρ : Loc} {σ : St} {L : List Addr} (r : RL mg H ρ σ L) (h : ∀ b o, H b = some o → isFz o → H' b = some o) (h2 : ∀ b ∈ L, ∀ o, H b = some o → H' b = some o) : RL mg H' ρ σ L := by
  induction r with
  | nil => exact .nil
  | no _ ih => exact .no (ih h2)
  | cons r _ n ih => exact .cons (r.stay h fun b hb => h2 b (List.mem_append_left _ hb)) (ih fun b hb => h2 b (List.mem_append_right _ hb)) n
theorem RL.length {ρ : Loc} {σ : St} {L : List Addr} (r : RL mg H ρ σ L) : σ.length = ρ.length := by
  induction r with
  | nil => rfl
  | no _ ih => simp [ih]
  | cons _ _ _ ih => simp [ih]
/-- the slot i, and the others without it -/
theorem RL.get {ρ : Loc} {σ : St} {L : List Addr} (r : RL mg H ρ σ L) : ∀ {i : Nat} {s : SV}, ρ[i]? = some (some s) → ∃ x Ls Lr, σ[i]? = some (some x) ∧ RS mg H s x Ls ∧ RL mg H (ρ.set i none) σ Lr ∧ (∀ a ∈ Ls, a ∉ Lr) ∧ (∀ a, a ∈ L ↔ a ∈ Ls ∨ a ∈ Lr) := by
  induction r with
  | nil => intro i s h; simp at h
  | no r ih =>
    intro i s h
    cases i with
    | zero => simp at h
    | succ i =>
      obtain ⟨x, Ls, Lr, h1, h2, h3, h4, h5⟩ := ih (i := i) (s := s) (by simpa using h)
      exact ⟨x, Ls, Lr, by simpa using h1, h2, .no h3, h4, h5⟩
  | @cons s0 x0 ρ0 σ0 L1 L2 r0 r n ih =>
    intro i s h
    cases i with
    | zero =>
      simp at h; subst h
      exact ⟨x0, L1, L2, rfl, r0, .no r, n, fun a => List.mem_append⟩
    | succ i =>
      obtain ⟨x, Ls, Lr, h1, h2, h3, h4, h5⟩ := ih (i := i) (s := s) (by simpa using h)
      refine ⟨x, Ls, L1 ++ Lr, by simpa using h1, h2, .cons r0 h3 fun a ha hb => n a ha ((h5 a).mpr (.inr hb)), fun a ha hb => ?_, fun a => ?_⟩
      · rcases List.mem_append.mp hb with hb | hb
        · exact n a hb ((h5 a).mpr (.inl ha))
        · exact h4 a ha hb
      · rw [List.mem_append, List.mem_append, h5]; constructor
        · rintro (h | h | h)
          · exact .inr (.inl h)
          · exact .inl h
          · exact .inr (.inr h)
        · rintro (h | h | h)
          · exact .inr (.inl h)
          · exact .inl h
          · exact .inr (.inr h)
/-- a slot is forgotten -/
theorem RL.forget {ρ : Loc} {σ : St} {L : List Addr} (r : RL mg H ρ σ L) : ∀ (i : Nat), ∃ Lr, RL mg H (ρ.set i none) σ Lr ∧ ∀ a ∈ Lr, a ∈ L := by
  intro i
  cases e : ρ[i]? with
  | none => exact ⟨L, by rw [List.set_eq_of_length_le (List.getElem?_eq_none_iff.mp e)]; exact r, fun _ h => h⟩
  | some o =>
    cases o with
    | none =>
      refine ⟨L, ?_, fun _ h => h⟩
      rw [show ρ.set i none = ρ from by
        apply List.ext_getElem?; intro j
        by_cases h : i = j
        · subst h
          rw [List.getElem?_set_self (List.getElem?_eq_some_iff.mp e).1, e]
        · rw [List.getElem?_set_ne h]]
      exact r
    | some s =>
      obtain ⟨x, Ls, Lr, _, _, h3, _, h5⟩ := r.get e
      exact ⟨Lr, h3, fun a ha => (h5 a).mpr (.inr ha)⟩
/-- a slot that holds nothing is filled (σ has the value there) -/
theorem RL.fill {ρ : Loc} {σ : St} {L : List Addr} (r : RL mg H ρ σ L) : ∀ {i : Nat} {s : SV} {x : V} {Ls : List Addr}, ρ[i]? = some none → RS mg H s x Ls → (∀ a ∈ Ls, a ∉ L) → ∃ L', RL mg H (ρ.set i (some s)) (σ.set i (some x)) L' ∧ ∀ a, a ∈ L' ↔ a ∈ Ls ∨ a ∈ L := by
  induction r with
  | nil => intro i s x Ls h; simp at h
  | no r ih =>
    intro i s x Ls h rs n
    cases i with
    | zero => exact ⟨_, .cons rs r n, fun a => List.mem_append⟩
    | succ i =>
      obtain ⟨L', h1, h2⟩ := ih (i := i) (by simpa using h) rs n
      exact ⟨L', .no h1, h2⟩
  | @cons s0 x0 ρ0 σ0 L1 L2 r0 r n0 ih =>
    intro i s x Ls h rs n
    cases i with
    | zero => simp at h
    | succ i =>
      obtain ⟨L', h1, h2⟩ := ih (i := i) (by simpa using h) rs fun a ha hb => n a ha (List.mem_append_right _ hb)
      refine ⟨_, .cons r0 h1 fun a ha hb => ?_, fun a => ?_⟩
      · rcases (h2 a).mp hb with hb | hb
        · exact n a hb (List.mem_append_left _ ha)
        · exact n0 a ha hb
      · rw [List.mem_append, List.mem_append, h2]; constructor
        · rintro (h | h | h)
          · exact .inr (.inl h)
          · exact .inl h
          · exact .inr (.inr h)
        · rintro (h | h | h)
          · exact .inr (.inl h)
          · exact .inl h
          · exact .inr (.inr h)
/-- a slot is set -/
theorem RL.set {ρ : Loc} {σ : St} {L : List Addr} (r : RL mg H ρ σ L) {i : Nat} {s : SV} {x : V} {Ls : List Addr} (hi : i < ρ.length) (rs : RS mg H s x Ls) (n : ∀ a ∈ Ls, a ∉ L) :
    ∃ L', RL mg H (ρ.set i (some s)) (σ.set i (some x)) L' ∧ ∀ a ∈ L', a ∈ Ls ∨ a ∈ L := by
  obtain ⟨Lr, h1, h2⟩ := r.forget i
  obtain ⟨L', h3, h4⟩ := h1.fill (i := i) (by rw [List.getElem?_set_self hi]) rs fun a ha hb => n a ha (h2 a hb)
  rw [List.set_set] at h3
  exact ⟨L', h3, fun a ha => ((h4 a).mp ha).imp id (h2 a)⟩
/-- a slot is given back, changed -/
theorem RL.back {ρ : Loc} {σ : St} {Lr : List Addr} {i : Nat} {s : SV} {x : V} {Ls : List Addr} (hi : i < ρ.length) (r : RL mg H (ρ.set i none) σ Lr) (hx : σ[i]? = some (some x)) (rs : RS mg H s x Ls) (n : ∀ a ∈ Ls, a ∉ Lr) :
    ∃ L', RL mg H (ρ.set i (some s)) σ L' ∧ ∀ a, a ∈ L' ↔ a ∈ Ls ∨ a ∈ Lr := by
  obtain ⟨L', h3, h4⟩ := r.fill (i := i) (by rw [List.getElem?_set_self hi]) rs n
  rw [List.set_set, show σ.set i (some x) = σ from by
    apply List.ext_getElem?; intro j
    by_cases h : i = j
    · subst h
      rw [List.getElem?_set_self (List.getElem?_eq_some_iff.mp hx).1, hx]
    · rw [List.getElem?_set_ne h]] at h3
  exact ⟨L', h3, h4⟩

/-! ### steps -/
/-- from H to H', where L was owned; m: whether what is owned may have changed -/
def Stp (m : Bool) (H H' : Hp) (L : List Addr) : Prop := ∀ b o, H b = some o → (isFz o ∨ b ∉ L ∨ m = false) → H' b = some o
def Sub (L' L : List Addr) (H : Hp) : Prop := ∀ a ∈ L', a ∈ L ∨ H a = none
theorem Stp.refl {m : Bool} {L : List Addr} : Stp m H H L := fun _ _ h _ => h
theorem Sub.refl {L : List Addr} : Sub L L H := fun _ h => .inl h
theorem Stp.mono {m m' : Bool} {L : List Addr} (h : Stp m H H' L) (e : m = true → m' = true) : Stp m' H H' L := fun b o q c => h b o q (by
  rcases c with c | c | c
  · exact .inl c
  · exact .inr (.inl c)
  · refine .inr (.inr ?_)
    cases m with
    | false => rfl
    | true => rw [e rfl] at c; cases c)
theorem Stp.fz {m : Bool} {L : List Addr} (h : Stp m H H' L) : ∀ b o, H b = some o → isFz o → H' b = some o := fun b o q c => h b o q (.inl c)
theorem Stp.trans {m : Bool} {L L1 : List Addr} (a : Stp m H H1 L) (s : Sub L1 L H) (b : Stp m H1 H2 L1) : Stp m H H2 L := fun c o q k => by
  refine b c o (a c o q k) ?_
  rcases k with k | k | k
  · exact .inl k
  · refine .inr (.inl fun z => ?_)
    rcases s c z with z | z
    · exact k z
    · rw [q] at z; cases z
  · exact .inr (.inr k)
theorem Sub.trans {m : Bool} {L L1 L2 : List Addr} (st : Stp m H H1 L) (a : Sub L1 L H) (b : Sub L2 L1 H1) : Sub L2 L H := fun c hc => by
  rcases b c hc with z | z
  · exact a c z
  · by_cases k : c ∈ L
    · exact .inl k
    · cases q : H c with
      | none => exact .inr rfl
      | some o =>
        have := st c o q (.inr (.inl k))
        rw [z] at this; cases this
theorem RS.step {m : Bool} {s : SV} {x : V} {L Ls : List Addr} (r : RS mg H s x Ls) (st : Stp m H H' L) (n : ∀ a ∈ Ls, a ∉ L) : RS mg H' s x Ls := r.stay st.fz fun b hb o q => st b o q (.inr (.inl (n b hb)))
theorem RV.step {m : Bool} {p : PV} {x : V} {L : List Addr} (r : RV mg H p x) (st : Stp m H H' L) : RV mg H' p x := r.stay st.fz
theorem RVs.step {m : Bool} {p : List PV} {x : List V} {L : List Addr} (r : RVs mg H p x) (st : Stp m H H' L) : RVs mg H' p x := r.stay st.fz
/-- temps stay apart from what the next step owns -/
theorem stayApart {L L1 Ls : List Addr} (r : ∀ a ∈ Ls, ∃ o, H a = some o) (n : ∀ a ∈ Ls, a ∉ L) (s : Sub L1 L H) : ∀ a ∈ Ls, a ∉ L1 := fun a ha hb => by
  rcases s a hb with z | z
  · exact n a ha z
  · obtain ⟨o, e⟩ := r a ha
    rw [z] at e; cases e
theorem RS.apart {s : SV} {x : V} {L L1 Ls : List Addr} (r : RS mg H s x Ls) (n : ∀ a ∈ Ls, a ∉ L) (sb : Sub L1 L H) : ∀ a ∈ Ls, a ∉ L1 :=
  stayApart (fun a ha => let ⟨ob, e, _⟩ := r.there a ha; ⟨ob, e⟩) n sb
/-- a new object -/
theorem Stp.alloc {m : Bool} {L : List Addr} {p : Addr} {o : HO} (h : H p = none) : Stp m H (upd H p o) L := fun b u q _ => by rw [upd_ne (ne_of_none q h)]; exact q
/-- an owned one is changed -/
theorem Stp.write {L : List Addr} {p : Addr} {o : HO} (h : p ∈ L) (hf : ∀ u, H p = some u → ¬ isFz u) : Stp true H (upd H p o) L := fun b u q k => by
  by_cases e : b = p
  · subst e
    rcases k with k | k | k
    · exact absurd k (hf u q)
    · exact absurd h k
    · cases k
  · rw [upd_ne e]; exact q

/-- the state behind a step -/
structure Aft (mg : Str → Option Value) (m : Bool) (H : Hp) (L : List Addr) (ρ' : Loc) (σ' : St) (H' : Hp) (L' : List Addr) : Prop where
  rl : RL mg H' ρ' σ' L'
  st : Stp m H H' L
  sb : Sub L' L H
theorem Aft.refl {m : Bool} {ρ : Loc} {σ : St} {L : List Addr} (r : RL mg H ρ σ L) : Aft mg m H L ρ σ H L := ⟨r, .refl, .refl⟩
theorem Aft.trans {m : Bool} {L L1 L2 : List Addr} {ρ1 ρ2 : Loc} {σ1 σ2 : St} (a : Aft mg m H L ρ1 σ1 H1 L1) (b : Aft mg m H1 L1 ρ2 σ2 H2 L2) : Aft mg m H L ρ2 σ2 H2 L2 := ⟨b.rl, a.st.trans a.sb b.st, .trans a.st a.sb b.sb⟩
theorem Aft.mono {m m' : Bool} {L L1 : List Addr} {ρ1 : Loc} {σ1 : St} (a : Aft mg m H L ρ1 σ1 H1 L1) (e : m = true → m' = true) : Aft mg m' H L ρ1 σ1 H1 L1 := ⟨a.rl, a.st.mono e, a.sb⟩
/-- .. and a new object behind it -/
theorem Aft.alloc {m : Bool} {L L1 : List Addr} {ρ1 : Loc} {σ1 : St} (a : Aft mg m H L ρ1 σ1 H1 L1) {p : Addr} {o : HO} (h : H1 p = none) : Aft mg m H L ρ1 σ1 (upd H1 p o) L1 :=
  a.trans ⟨a.rl.stay (Stp.alloc (m := m) (L := L1) h).fz fun b _ o q => (Stp.alloc (m := false) (L := L1) h) b o q (.inr (.inr rfl)), .alloc h, .refl⟩
end Lt
set_option maxHeartbeats 1000000
/-! LtB: freezing; operands; the judgements. -/
namespace Lt
open PySem PySem.Spec L2
open PyProof.Rows hiding St

/-- what can be frozen -/
def canFz : HO → Prop
  | .lst _ => True
  | .dK _ => True
  | .ext _ => True
  | _ => False
theorem canFz.not {u : HO} (h : canFz u) : ¬ isFz u := by cases u <;> first | exact fun z => z | exact h.elim
section
variable {X : Cx} {pins : List (Addr × Obj)} {σ : St} {H : Hp} {s : Shared}
theorem Inv.freeze {a : Addr} {u : HO} (I : Inv X pins σ H s) (e : H a = some u) (c : canFz u) : ∃ o, Inv X pins σ (upd H a (.frz o u)) s := by
  obtain ⟨o, ho⟩ : ∃ o, s.heap.get? a = some o := by
    have k := I.hok a u e
    cases u with
    | lst xs => obtain ⟨_, _, _, _, q⟩ := k; exact ⟨_, q⟩
    | dK kvs => obtain ⟨_, _, _, _, o, _, _, q, _⟩ := k; exact ⟨o, q⟩
    | ext φ => exact k.2.1
    | _ => exact c.elim
  have ne : ∀ b v, H b = some v → ¬ canFz v → b ≠ a := fun b v q n z => by
    subst z; rw [e] at q; cases q; exact n c
  have hn : ∀ b, H b = none → upd H a (.frz o u) b = none := fun b q => by
    rw [upd_ne (Ne.symm (ne_of_none e q))]; exact q
  refine ⟨o, I.ok, I.os, I.bare, ⟨I.base.keep, I.base.slot, fun b ob q n hx => hn b (I.base.free b ob q n hx), I.base.there, fun b xs q => ?_, fun b ob v q => ?_, fun b ps q => ?_⟩, I.loc, I.cell, hn _ I.free, fun x cc q => hn _ (I.freeC x cc q), fun p hp => ?_, fun b v q => ?_, I.len⟩
  · have q' := I.base.tups b xs q
    rw [upd_ne (ne b _ q' fun z => z)]; exact q'
  · have q' := I.base.frzs b ob v q
    rw [upd_ne (ne b _ q' fun z => z)]; exact q'
  · obtain ⟨more, q'⟩ := I.base.tbls b ps q
    exact ⟨more, by rw [upd_ne (ne b _ q' fun z => z)]; exact q'⟩
  · obtain ⟨p1, p2, p3⟩ := I.pin p hp
    exact ⟨p1, hn _ p2, p3⟩
  · have st : ∀ {b : Addr} {v : HO}, ObjOk X.prog X.w H s.heap b v → ObjOk X.prog X.w (upd H a (.frz o u)) s.heap b v := fun h =>
      h.stay (fun _ _ _ q => q) (fun b' q => by rw [upd_ne (ne _ _ q fun z => z)]; exact q) fun b' xs q => by rw [upd_ne (ne _ _ q fun z => z)]; exact q
    by_cases hb : b = a
    · subst hb
      rw [upd_same] at q; cases q
      exact ⟨ho, st (I.hok b u e)⟩
    · rw [upd_ne hb] at q
      exact st (I.hok b v q)
end

/-! ### operands -/
inductive OV where
  | tm (s : SV) | sl (i : Nat) | fd (i : Nat) (k : Str)
def OV.get (ρ : Loc) : OV → Option SV
  | .tm s => some s
  | .sl i => match ρ[i]? with
    | some (some s) => some s
    | _ => none
  | .fd i k => match ρ[i]? with
    | some (some (.r kvs)) => kvs.lookup k
    | some (some (.o _ kvs)) => kvs.lookup k
    | _ => none
/-- a record's pairs as a dict's -/
def keyed (kws : List (Str × V)) : List (Key × V) := kws.map fun p => (Sum.inr p.1, p.2)
def RO (mg : Str → Option Value) (H : Hp) (σ : St) : OV → V → List Addr → Prop
  | .tm s, x, Lt => RS mg H s x Lt
  | .sl i, x, Lt => σ[i]? = some (some x) ∧ Lt = []
  | .fd i k, x, Lt => Lt = [] ∧ ∃ a, σ[i]? = some (some (.ref a)) ∧ ((∃ kws, H a = some (.dK (keyed kws)) ∧ kws.lookup k = some x) ∨ ∃ C dx kws, H a = some (.ins C dx kws) ∧ kws.lookup k = some x)
variable {mg : Str → Option Value} {H H' H1 H2 H3 : Hp}
theorem keyed_inj : ∀ {a b : List (Str × V)}, keyed a = keyed b → a = b
  | [], [], _ => rfl
  | [], _ :: _, e => by simp [keyed] at e
  | _ :: _, [], e => by simp [keyed] at e
  | (k, x) :: r, (k', x') :: r', e => by
    simp only [keyed, List.map_cons, List.cons.injEq, Prod.mk.injEq, Sum.inr.injEq] at e
    rw [e.1.1, e.1.2, keyed_inj (a := r) (b := r') e.2]
theorem RF.lookup {kvs : List (Str × SV)} {kws : List (Str × V)} {L : List Addr} (r : RF mg H kvs kws L) : ∀ {k : Str} {s : SV}, kvs.lookup k = some s → ∃ x Ls, kws.lookup k = some x ∧ RS mg H s x Ls ∧ ∀ a ∈ Ls, a ∈ L := by
  refine RF.rec (motive_1 := fun _ _ _ _ => True) (motive_2 := fun kvs kws L _ => ∀ {k : Str} {s : SV}, kvs.lookup k = some s → ∃ x Ls, kws.lookup k = some x ∧ RS mg H s x Ls ∧ ∀ a ∈ Ls, a ∈ L) ?_ ?_ ?_ ?_ ?_ ?_ ?_ r
  · intros; trivial
  · intros; trivial
  · intros; trivial
  · intros; trivial
  · intros; trivial
  · intro k s h; simp at h
  · intro k0 s0 x0 kvs kws L1 L2 r0 _ _ _ ih k s h
    rw [List.lookup_cons] at h ⊢
    by_cases e : k == k0
    · rw [e] at h ⊢
      cases h
      exact ⟨x0, L1, rfl, r0, fun a ha => List.mem_append_left _ ha⟩
    · simp only [Bool.not_eq_true] at e
      rw [e] at h ⊢
      obtain ⟨x, Ls, h1, h2, h3⟩ := ih h
      exact ⟨x, Ls, h1, h2, fun a ha => List.mem_append_right _ (h3 a ha)⟩
theorem RO.stay {m : Bool} {σ : St} {ov : OV} {x : V} {L Lt : List Addr} (r : RO mg H σ ov x Lt) (st : Stp m H H' L) (n : ∀ a ∈ Lt, a ∉ L) (hf : m = true → ∀ i k, ov ≠ .fd i k) : RO mg H' σ ov x Lt := by
  cases ov with
  | tm s => exact RS.step r st n
  | sl i => exact r
  | fd i k =>
    cases m with
    | true => exact absurd rfl (hf rfl i k)
    | false =>
      obtain ⟨e, a, h1, h2⟩ := r
      refine ⟨e, a, h1, ?_⟩
      rcases h2 with ⟨kws, h2, h3⟩ | ⟨C, dx, kws, h2, h3⟩
      · exact .inl ⟨kws, st _ _ h2 (.inr (.inr rfl)), h3⟩
      · exact .inr ⟨C, dx, kws, st _ _ h2 (.inr (.inr rfl)), h3⟩
theorem RO.get {ρ : Loc} {σ : St} {ov : OV} {x : V} {L Lt : List Addr} {s : SV} (r : RO mg H σ ov x Lt) (rl : RL mg H ρ σ L) (e : ov.get ρ = some s) : ∃ Ls, RS mg H s x Ls ∧ ∀ a ∈ Ls, a ∈ Lt ∨ a ∈ L := by
  cases ov with
  | tm s' => cases e; exact ⟨Lt, r, fun a ha => .inl ha⟩
  | sl i =>
    obtain ⟨hx, _⟩ := r
    have q : ρ[i]? = some (some s) := by
      simp only [OV.get] at e
      split at e
      · rename_i h; cases e; exact h
      · cases e
    obtain ⟨y, Ls, Lr, h1, h2, _, _, h5⟩ := rl.get q
    rw [hx] at h1; cases h1
    exact ⟨Ls, h2, fun a ha => .inr ((h5 a).mpr (.inl ha))⟩
  | fd i k =>
    obtain ⟨_, a, hx, h⟩ := r
    simp only [OV.get] at e
    split at e
    · rename_i kvs q
      obtain ⟨y, Ls, Lr, h1, h2, _, _, h5⟩ := rl.get q
      rw [hx] at h1; cases h1
      cases h2 with
      | r e2 rf _ _ =>
        obtain ⟨x', Ls', g1, g2, g3⟩ := rf.lookup e
        rcases h with ⟨kws, h2, h3⟩ | ⟨C, dx, kws, h2, h3⟩
        · rw [e2] at h2
          have := keyed_inj (HO.dK.inj (Option.some.inj h2))
          subst this
          rw [h3] at g1; cases g1
          exact ⟨Ls', g2, fun b hb => .inr ((h5 b).mpr (.inl (List.mem_cons_of_mem _ (g3 b hb))))⟩
        · rw [e2] at h2; cases h2
    · rename_i c kvs q
      obtain ⟨y, Ls, Lr, h1, h2, _, _, h5⟩ := rl.get q
      rw [hx] at h1; cases h1
      cases h2 with
      | o _ e2 _ rf _ =>
        obtain ⟨x', Ls', g1, g2, g3⟩ := rf.lookup e
        rcases h with ⟨kws, h2, h3⟩ | ⟨C, dx, kws, h2, h3⟩
        · rw [e2] at h2; cases h2
        · rw [e2] at h2; cases h2
          rw [h3] at g1; cases g1
          exact ⟨Ls', g2, fun b hb => .inr ((h5 b).mpr (.inl (List.mem_cons_of_mem _ (g3 b hb))))⟩
    · cases e

/-! ### the judgements -/
/-- an exception as it flies -/
def RX (mg : Str → Option Value) (H : Hp) (x : Xn) (cls : Value) (d : Option Addr) : Prop :=
  ∃ C, mg x.c = some (.ref C) ∧ cls = .ref C ∧ ((x.fs = [] ∧ d = none) ∨ ∃ k p y a od, x.fs = [(k, p)] ∧ d = some a ∧ H a = some (.frz od (.xd [(k, y)])) ∧ RV mg H p y)
/-- what is wanted of an outcome -/
def PoO (mg : Str → Option Value) (m : Bool) (W : WX) (H : Hp) (L : List Addr) (ρ : Loc) (σ : St) (Q : VK) : Rs OV → Prop
  | .ok ov ρ' => ∀ v H' Lt L', RO mg H' σ ov v Lt → Aft mg m H L ρ' σ H' L' → (∀ a ∈ Lt, a ∉ L') → Sub Lt L H → (m = false → ρ' = ρ) → Q v H'
  | .ex x ρ' => ∀ cls d H' L', RX mg H' x cls d → Aft mg m H L ρ' σ H' L' → W cls d σ H'
  | .no => False
def PoV (mg : Str → Option Value) (m : Bool) (W : WX) (H : Hp) (L : List Addr) (ρ : Loc) (σ : St) (Q : VK) : Rs SV → Prop
  | .ok s ρ' => ∀ v H' Lt L', RS mg H' s v Lt → Aft mg m H L ρ' σ H' L' → (∀ a ∈ Lt, a ∉ L') → Sub Lt L H → (m = false → ρ' = ρ) → Q v H'
  | .ex x ρ' => ∀ cls d H' L', RX mg H' x cls d → Aft mg m H L ρ' σ H' L' → W cls d σ H'
  | .no => False
def PoT (mg : Str → Option Value) (m : Bool) (W : WX) (H : Hp) (L : List Addr) (ρ : Loc) (σ : St) (Q : Bool → Hp → Prop) : Rs Bool → Prop
  | .ok b ρ' => ∀ H' L', Aft mg m H L ρ' σ H' L' → (m = false → ρ' = ρ) → Q b H'
  | .ex x ρ' => ∀ cls d H' L', RX mg H' x cls d → Aft mg m H L ρ' σ H' L' → W cls d σ H'
  | .no => False
/-- an expression as an operand; as a value to be kept; as a test -/
def GO (m : Bool) (X : Cx) (W : WX) (e : Expr) (c : Loc → Rs OV) : Prop :=
  ∃ t, PE X e t ∧ ∀ ρ σ H L Q, RL X.mg H ρ σ L → PoO X.mg m W H L ρ σ Q (c ρ) → t σ H Q
def GV (m : Bool) (X : Cx) (W : WX) (e : Expr) (c : Loc → Rs SV) : Prop :=
  ∃ t, PE X e t ∧ ∀ ρ σ H L Q, RL X.mg H ρ σ L → PoV X.mg m W H L ρ σ Q (c ρ) → t σ H Q
def GT (m : Bool) (X : Cx) (W : WX) (e : Expr) (c : Loc → Rs Bool) : Prop :=
  ∃ t, PT X e t ∧ ∀ ρ σ H L Q, RL X.mg H ρ σ L → PoT X.mg m W H L ρ σ Q (c ρ) → t σ H Q
variable {X : Cx} {W : WX} {e : Expr} {m m' : Bool}
theorem RX.step {m : Bool} {x : Xn} {cls : Value} {d : Option Addr} {L : List Addr} (r : RX mg H x cls d) (st : Stp m H H' L) (n : ∀ a, d = some a → a ∉ L) : RX mg H' x cls d := by
  obtain ⟨C, h1, h2, h3⟩ := r
  refine ⟨C, h1, h2, ?_⟩
  rcases h3 with h3 | ⟨k, p, y, a, od, g1, g2, g3, g4⟩
  · exact .inl h3
  · exact .inr ⟨k, p, y, a, od, g1, g2, st _ _ g3 (.inl trivial), g4.step st⟩
theorem PoO.mono {H : Hp} {L : List Addr} {ρ : Loc} {σ : St} {Q : VK} {r : Rs OV} (e : m = true → m' = true) (h : PoO mg m' W H L ρ σ Q r) : PoO mg m W H L ρ σ Q r := by
  cases r with
  | ok ov ρ' => exact fun v H' Lt L' a b c d f => h v H' Lt L' a (b.mono e) c d fun z => f (by cases m with | false => rfl | true => rw [e rfl] at z; cases z)
  | ex x ρ' => exact fun cls d H' L' a b => h cls d H' L' a (b.mono e)
  | no => exact h
theorem PoV.mono {H : Hp} {L : List Addr} {ρ : Loc} {σ : St} {Q : VK} {r : Rs SV} (e : m = true → m' = true) (h : PoV mg m' W H L ρ σ Q r) : PoV mg m W H L ρ σ Q r := by
  cases r with
  | ok ov ρ' => exact fun v H' Lt L' a b c d f => h v H' Lt L' a (b.mono e) c d fun z => f (by cases m with | false => rfl | true => rw [e rfl] at z; cases z)
  | ex x ρ' => exact fun cls d H' L' a b => h cls d H' L' a (b.mono e)
  | no => exact h
theorem PoT.mono {H : Hp} {L : List Addr} {ρ : Loc} {σ : St} {Q : Bool → Hp → Prop} {r : Rs Bool} (e : m = true → m' = true) (h : PoT mg m' W H L ρ σ Q r) : PoT mg m W H L ρ σ Q r := by
  cases r with
  | ok ov ρ' => exact fun H' L' b f => h H' L' (b.mono e) fun z => f (by cases m with | false => rfl | true => rw [e rfl] at z; cases z)
  | ex x ρ' => exact fun cls d H' L' a b => h cls d H' L' a (b.mono e)
  | no => exact h
theorem GO.mono {c : Loc → Rs OV} (h : GO m X W e c) (k : m = true → m' = true) : GO m' X W e c := let ⟨t, p, g⟩ := h; ⟨t, p, fun ρ σ H L Q r q => g ρ σ H L Q r (q.mono k)⟩
theorem GV.mono {c : Loc → Rs SV} (h : GV m X W e c) (k : m = true → m' = true) : GV m' X W e c := let ⟨t, p, g⟩ := h; ⟨t, p, fun ρ σ H L Q r q => g ρ σ H L Q r (q.mono k)⟩
theorem GT.mono {c : Loc → Rs Bool} (h : GT m X W e c) (k : m = true → m' = true) : GT m' X W e c := let ⟨t, p, g⟩ := h; ⟨t, p, fun ρ σ H L Q r q => g ρ σ H L Q r (q.mono k)⟩
end Lt
set_option maxHeartbeats 1000000
/-! LtC: expressions by operands: one, two, keeping values, argument lists. -/
namespace Lt
open PySem PySem.Spec L2
open PyProof.Rows hiding St

def bindR {α β : Type} (c : Loc → Rs α) (k : α → Loc → Rs β) : Loc → Rs β := fun ρ => match c ρ with
  | .ok a ρ' => k a ρ'
  | .ex x ρ' => .ex x ρ'
  | .no => .no
/-- never a field by its name -/
def NoFd (c : Loc → Rs OV) : Prop := ∀ ρ ov ρ', c ρ = .ok ov ρ' → ∀ i k, ov ≠ .fd i k
def opt {α : Type} : Option α → (α → Rs OV) → Rs OV
  | some s, k => k s
  | none, _ => .no
/-- one operand, its value handed to f -/
def un1 (f : SV → Option SV) (c : Loc → Rs OV) : Loc → Rs OV := bindR c fun x ρ => opt (x.get ρ) fun p => opt (f p) fun s => .ok (.tm s) ρ
def bin2 (f : SV → SV → Option SV) (ca cb : Loc → Rs OV) : Loc → Rs OV := bindR ca fun x => bindR cb fun y ρ =>
  opt (x.get ρ) fun p => opt (y.get ρ) fun q => opt (f p q) fun s => .ok (.tm s) ρ

variable {mg : Str → Option Value} {X : Cx} {W : WX} {e a b : Expr} {m mb m' : Bool}

/-- what an operation on values does at the heap: it lays new objects alone -/
def Does (mg : Str → Option Value) (H : Hp) (s : SV) (Q : VK) : Prop := ∀ v H' Lt, RS mg H' s v Lt → (∀ b o, H b = some o → H' b = some o) → (∀ a ∈ Lt, H a = none) → Q v H'
def Un1 (mg : Str → Option Value) (f : SV → Option SV) (r : V → Hp → VK → Prop) : Prop := ∀ p s x H L Q, RS mg H p x L → f p = some s → Does mg H s Q → r x H Q
def Bin2 (mg : Str → Option Value) (f : SV → SV → Option SV) (r : R2) : Prop := ∀ p q s x y H Lp Lq Q, RS mg H p x Lp → RS mg H q y Lq → f p q = some s → Does mg H s Q → r x y H Q

/-- behind an operation: its value is the outcome -/
theorem does_of {H H1 : Hp} {L L1 : List Addr} {ρ ρ1 : Loc} {σ : St} {s : SV} {Q : VK} (aft : Aft mg m H L ρ1 σ H1 L1) (hρ : m = false → ρ1 = ρ) (q : PoO mg m W H L ρ σ Q (.ok (.tm s) ρ1)) : Does mg H1 s Q := by
  intro v H' Lt rs kp nw
  refine q v H' Lt L1 rs ⟨aft.rl.stay (fun b o e _ => kp b o e) fun b _ o e => kp b o e, fun b o e c => kp b o (aft.st b o e c), aft.sb⟩ (fun c hc hd => ?_) (fun c hc => ?_) hρ
  · obtain ⟨o, z, _⟩ := aft.rl.there c hd
    rw [nw c hc] at z; cases z
  · by_cases k : c ∈ L
    · exact .inl k
    · cases z : H c with
      | none => exact .inr rfl
      | some o =>
        have := aft.st c o z (.inr (.inl k))
        rw [nw c hc] at this; cases this
theorem no_opt {α : Type} {H : Hp} {L : List Addr} {ρ : Loc} {σ : St} {Q : VK} {o : Option α} {k : α → Rs OV} (h : PoO mg m W H L ρ σ Q (opt o k)) : ∃ s, o = some s ∧ PoO mg m W H L ρ σ Q (k s) := by
  cases o with
  | none => exact h.elim
  | some s => exact ⟨s, rfl, h⟩
/-- the exceptional ends compose -/
theorem ex_then {H H1 : Hp} {L L1 : List Addr} {ρ ρ1 ρ2 : Loc} {σ : St} {x : Xn} {Q : VK} (aft : Aft mg m H L ρ1 σ H1 L1) (hm : mb = true → m = true) (q : PoO mg m W H L ρ σ Q (.ex x ρ2)) {Q' : VK} : PoO mg mb W H1 L1 ρ1 σ Q' (.ex x ρ2) :=
  fun cls d H' L' r a2 => q cls d H' L' r (aft.trans (a2.mono hm))

/-- an operand's reading -/
def DO (m : Bool) (mg : Str → Option Value) (W : WX) (c : Loc → Rs OV) (t : TE) : Prop := ∀ ρ σ H L Q, RL mg H ρ σ L → PoO mg m W H L ρ σ Q (c ρ) → t σ H Q
theorem gO_un1 {ca : Loc → Rs OV} {f : SV → Option SV} {r : V → Hp → VK → Prop} (mk : ∀ ta, PE X a ta → PE X e (tUn r ta)) (hs : Un1 X.mg f r) (ha : GO m X W a ca) : GO m X W e (un1 f ca) := by
  obtain ⟨ta, pa, ga⟩ := ha
  refine ⟨_, mk ta pa, fun ρ σ H L Q rl po => ga ρ σ H L _ rl ?_⟩
  unfold un1 bindR at po
  cases hc : ca ρ with
  | no => rw [hc] at po; exact po
  | ex x ρ1 => rw [hc] at po; exact po
  | ok ov ρ1 =>
    rw [hc] at po
    intro v H1 Lt L1 ro aft dj sb hρ
    obtain ⟨p, e1, po⟩ := no_opt po
    obtain ⟨s, e2, po⟩ := no_opt po
    obtain ⟨Ls, rs, _⟩ := ro.get aft.rl e1
    exact hs p s v H1 Ls Q rs e2 (does_of aft hρ po)

theorem dO_bin2 {ca cb : Loc → Rs OV} {f : SV → SV → Option SV} {r : R2} {ta tb : TE} (hs : Bin2 mg f r) (ga : DO m mg W ca ta) (gb : DO mb mg W cb tb) (hm : mb = true → m = true) (hf : mb = true → NoFd ca) : DO m mg W (bin2 f ca cb) (tOp r ta tb) := by
  refine fun ρ σ H L Q rl po => ga ρ σ H L _ rl ?_
  unfold bin2 at po
  unfold bindR at po
  cases hc : ca ρ with
  | no => rw [hc] at po; exact po
  | ex x ρ1 => rw [hc] at po; exact po
  | ok ov ρ1 =>
    rw [hc] at po
    intro v H1 Lt L1 ro aft dj sb hρ
    refine gb ρ1 σ H1 L1 _ aft.rl ?_
    dsimp only at po
    cases hd : cb ρ1 with
    | no => rw [hd] at po; exact po
    | ex x ρ2 => rw [hd] at po; exact ex_then aft hm po
    | ok ov2 ρ2 =>
      rw [hd] at po
      intro y H2 Lt2 L2 ro2 aft2 dj2 sb2 hρ2
      obtain ⟨p, e1, po⟩ := no_opt po
      obtain ⟨q, e2, po⟩ := no_opt po
      obtain ⟨s, e3, po⟩ := no_opt po
      have ro' := ro.stay aft2.st dj fun z i k => hf z ρ ov ρ1 hc i k
      obtain ⟨Ls, rs, _⟩ := ro'.get aft2.rl e1
      obtain ⟨Ls2, rs2, _⟩ := ro2.get aft2.rl e2
      exact hs p q s v y H2 Ls Ls2 Q rs rs2 e3 (does_of (aft.trans (aft2.mono hm)) (fun z => by
        rw [hρ2 (by cases mb with | false => rfl | true => rw [hm rfl] at z; cases z)]; exact hρ z) po)

theorem gO_bin2 {ca cb : Loc → Rs OV} {f : SV → SV → Option SV} {r : R2} (mk : ∀ ta tb, PE X a ta → PE X b tb → PE X e (tOp r ta tb)) (hs : Bin2 X.mg f r) (ha : GO m X W a ca) (hb : GO mb X W b cb) (hm : mb = true → m = true) (hf : mb = true → NoFd ca) : GO m X W e (bin2 f ca cb) :=
  let ⟨ta, pa, ga⟩ := ha
  let ⟨tb, pb, gb⟩ := hb
  ⟨_, mk ta tb pa pb, dO_bin2 hs ga gb hm hf⟩

/-! ### argument lists -/
def isStar : Expr → Bool
  | .Starred _ _ => true
  | _ => false
theorem starEach_cons {e : Expr} {es : List Expr} {env : Env} (h : isStar e = false) : starEach (e :: es) env = (false, eval e env) :: starEach es env := by
  cases e <;> first | rfl | exact Bool.noConfusion h
theorem star_plain {pos : Pos} {env : Env} : ∀ {es : List Expr}, es.all (fun e => !isStar e) = true → (backTo pos (starEach es env)).any (·.1) = false
  | [], _ => rfl
  | e :: es, h => by
    simp only [List.all_cons, Bool.and_eq_true, Bool.not_eq_true'] at h
    rw [starEach_cons h.1]
    show (false || (backTo pos (starEach es env)).any (·.1)) = false
    rw [star_plain h.2]; rfl
inductive ROs (mg : Str → Option Value) (H : Hp) (σ : St) : List OV → List V → List Addr → Prop where
  | nil : ROs mg H σ [] [] []
  | cons {ov : OV} {v : V} {ovs : List OV} {vs : List V} {L1 L2 : List Addr} : RO mg H σ ov v L1 → ROs mg H σ ovs vs L2 → (∀ a ∈ L1, a ∉ L2) → ROs mg H σ (ov :: ovs) (v :: vs) (L1 ++ L2)
def PoA (mg : Str → Option Value) (m : Bool) (W : WX) (H : Hp) (L : List Addr) (ρ : Loc) (σ : St) (Q : List V → Hp → Prop) : Rs (List OV) → Prop
  | .ok ov ρ' => ∀ v H' Lt L', ROs mg H' σ ov v Lt → Aft mg m H L ρ' σ H' L' → (∀ a ∈ Lt, a ∉ L') → Sub Lt L H → (m = false → ρ' = ρ) → Q v H'
  | .ex x ρ' => ∀ cls d H' L', RX mg H' x cls d → Aft mg m H L ρ' σ H' L' → W cls d σ H'
  | .no => False
def GA (m : Bool) (X : Cx) (W : WX) (es : List Expr) (c : Loc → Rs (List OV)) : Prop :=
  ∃ t, PA X es t ∧ ∀ ρ σ H L Q, RL X.mg H ρ σ L → PoA X.mg m W H L ρ σ Q (c ρ) → t σ H Q
def seqO : List (Loc → Rs OV) → Loc → Rs (List OV)
  | [] => fun ρ => .ok [] ρ
  | c :: cs => bindR c fun x => bindR (seqO cs) fun xs ρ => .ok (x :: xs) ρ
theorem RO.there {H : Hp} {σ : St} {ov : OV} {v : V} {L : List Addr} (r : RO mg H σ ov v L) : ∀ a ∈ L, ∃ o, H a = some o := by
  intro c hc
  cases ov with
  | tm s => obtain ⟨o, e, _⟩ := RS.there r c hc; exact ⟨o, e⟩
  | sl i => rw [r.2] at hc; exact nomatch hc
  | fd i k => rw [r.1] at hc; exact nomatch hc
theorem gA_nil : GA m X W [] (seqO []) := ⟨_, pa_nil, fun ρ σ H L Q rl po => po [] H [] L .nil (.refl rl) (fun _ h => nomatch h) (fun _ h => nomatch h) fun _ => rfl⟩
theorem gA_cons {c : Loc → Rs OV} {cs : List (Loc → Rs OV)} {es : List Expr} (ha : GO m X W e c) (hb : GA mb X W es (seqO cs)) (hm : mb = true → m = true) (hf : mb = true → NoFd c) (hst : isStar e = false) : GA m X W (e :: es) (seqO (c :: cs)) := by
  obtain ⟨ta, pa, ga⟩ := ha
  obtain ⟨tb, pb, gb⟩ := hb
  refine ⟨_, pa_cons pa pb (starEach_cons hst), fun ρ σ H L Q rl po => ga ρ σ H L _ rl ?_⟩
  unfold seqO at po
  unfold bindR at po
  cases hc : c ρ with
  | no => rw [hc] at po; exact po
  | ex x ρ1 => rw [hc] at po; exact po
  | ok ov ρ1 =>
    rw [hc] at po
    intro v H1 Lt L1 ro aft dj sb hρ
    refine gb ρ1 σ H1 L1 _ aft.rl ?_
    dsimp only at po
    cases hd : seqO cs ρ1 with
    | no => rw [hd] at po; exact po
    | ex x ρ2 => rw [hd] at po; exact fun cls d H' L' r a2 => po cls d H' L' r (aft.trans (a2.mono hm))
    | ok ov2 ρ2 =>
      rw [hd] at po
      intro y H2 Lt2 L2 ro2 aft2 dj2 sb2 hρ2
      have ro' := ro.stay aft2.st dj fun z i k => hf z ρ ov ρ1 hc i k
      have ap := stayApart ro.there dj aft2.sb
      have ap2 := stayApart ro.there dj sb2
      refine po (v :: y) H2 (Lt ++ Lt2) L2 (.cons ro' ro2 ap2) (aft.trans (aft2.mono hm)) (fun c hc => ?_) (fun c hc => ?_) (fun z => by
        rw [hρ2 (by cases mb with | false => rfl | true => rw [hm rfl] at z; cases z)]; exact hρ z)
      · rcases List.mem_append.mp hc with hc | hc
        · exact ap c hc
        · exact dj2 c hc
      · rcases List.mem_append.mp hc with hc | hc
        · exact sb c hc
        · exact Sub.trans aft.st aft.sb sb2 c hc
/-- a built-in call by values, laying new objects alone -/
def getAll (ρ : Loc) : List OV → Option (List SV)
  | [] => some []
  | x :: xs => match x.get ρ, getAll ρ xs with
    | some s, some ss => some (s :: ss)
    | _, _ => none
def callB (f : List SV → Option SV) (c : Loc → Rs (List OV)) : Loc → Rs OV := bindR c fun xs ρ => opt (getAll ρ xs) fun ps => opt (f ps) fun s => .ok (.tm s) ρ
inductive RSs (mg : Str → Option Value) (H : Hp) : List SV → List V → Prop where
  | nil : RSs mg H [] []
  | cons {s : SV} {v : V} {ss : List SV} {vs : List V} {L : List Addr} : RS mg H s v L → RSs mg H ss vs → RSs mg H (s :: ss) (v :: vs)
def CallS (mg : Str → Option Value) (f : List SV → Option SV) (r : List V → Hp → VK → Prop) : Prop := ∀ ps s vs H Q, RSs mg H ps vs → f ps = some s → Does mg H s Q → r vs H Q
theorem ROs.get {H : Hp} {ρ : Loc} {σ : St} {L : List Addr} (rl : RL mg H ρ σ L) : ∀ {ovs : List OV} {vs : List V} {Lt : List Addr} {ps : List SV}, ROs mg H σ ovs vs Lt → getAll ρ ovs = some ps → RSs mg H ps vs
  | _, _, _, _, .nil, e => by cases e; exact .nil
  | _, _, _, _, .cons (ov := ov) (ovs := ovs) r rs n, e => by
    simp only [getAll] at e
    cases h1 : ov.get ρ with
    | none => rw [h1] at e; cases e
    | some s =>
      cases h2 : getAll ρ ovs with
      | none => rw [h1, h2] at e; cases e
      | some ss =>
        rw [h1, h2] at e; cases e
        obtain ⟨Ls, q, _⟩ := r.get rl h1
        exact .cons q (ROs.get rl rs h2)
theorem gO_callB {cs : Loc → Rs (List OV)} {es : List Expr} {f : List SV → Option SV} {r : List V → Hp → VK → Prop} (mk : ∀ t, PA X es t → PE X e (tCB r t)) (hs : CallS X.mg f r) (ha : GA m X W es cs) : GO m X W e (callB f cs) := by
  obtain ⟨ta, pa, ga⟩ := ha
  refine ⟨_, mk ta pa, fun ρ σ H L Q rl po => ga ρ σ H L _ rl ?_⟩
  unfold callB bindR at po
  cases hc : cs ρ with
  | no => rw [hc] at po; exact po
  | ex x ρ1 => rw [hc] at po; exact po
  | ok ov ρ1 =>
    rw [hc] at po
    intro v H1 Lt L1 ro aft dj sb hρ
    obtain ⟨p, e1, po⟩ := no_opt po
    obtain ⟨s, e2, po⟩ := no_opt po
    exact hs p s v H1 Q (ro.get aft.rl e1) e2 (does_of aft hρ po)

/-! ### a value that is kept -/
theorem pe_fz {t : TE} (h : PE X e t) : PE X e (fun σ H Q => t σ H fun v H1 => Q v H1 ∨ ∃ a u, H1 a = some u ∧ canFz u ∧ ∀ o, Q v (upd H1 a (.frz o u))) :=
  ⟨fun pins s σ H Q I q => thn (h.run pins s σ H _ I q) fun v s' ⟨x, H', I', r, k⟩ => by
    rcases k with k | ⟨a, u, e1, c, k⟩
    · exact ⟨x, H', I', r, k⟩
    · obtain ⟨o, I2⟩ := Inv.freeze I' e1 c
      exact ⟨x, _, I2, r, k o⟩⟩
/-- into a container: a value -/
def keepP (c : Loc → Rs OV) : Loc → Rs PV := bindR c fun ov ρ => match ov with
  | .tm (.v p) => .ok p ρ
  | .tm (.l xs) => .ok (.lst xs) ρ
  | .sl i => match ρ[i]? with
    | some (some (.v p)) => .ok p ρ
    | some (some (.l xs)) => .ok (.lst xs) (ρ.set i (some (.v (.lst xs))))
    | _ => .no
  | .fd i k => match (OV.fd i k).get ρ with
    | some (.v p) => .ok p ρ
    | _ => .no
  | _ => .no
/-- into a slot: a value, or an object of its own -/
def keepS (c : Loc → Rs OV) : Loc → Rs SV := bindR c fun ov ρ => match ov with
  | .tm s => .ok s ρ
  | .sl i => match ρ[i]? with
    | some (some (.v p)) => .ok (.v p) ρ
    | some (some (.l xs)) => .ok (.v (.lst xs)) (ρ.set i (some (.v (.lst xs))))
    | _ => .no
  | .fd i k => match (OV.fd i k).get ρ with
    | some (.v p) => .ok (.v p) ρ
    | _ => .no
def PoP (mg : Str → Option Value) (m : Bool) (W : WX) (H : Hp) (L : List Addr) (ρ : Loc) (σ : St) (Q : VK) : Rs PV → Prop
  | .ok p ρ' => ∀ v H' L', RV mg H' p v → Aft mg m H L ρ' σ H' L' → Q v H'
  | .ex x ρ' => ∀ cls d H' L', RX mg H' x cls d → Aft mg m H L ρ' σ H' L' → W cls d σ H'
  | .no => False
def GP (X : Cx) (W : WX) (e : Expr) (c : Loc → Rs PV) : Prop :=
  ∃ t, PE X e t ∧ ∀ ρ σ H L Q, RL X.mg H ρ σ L → PoP X.mg true W H L ρ σ Q (c ρ) → t σ H Q
/-- an owned list is frozen -/
theorem fz_slot {H : Hp} {ρ : Loc} {σ : St} {L : List Addr} {i : Nat} {xs : List PV} (rl : RL mg H ρ σ L) (e : ρ[i]? = some (some (.l xs))) :
    ∃ a vs, σ[i]? = some (some (.ref a)) ∧ H a = some (.lst vs) ∧ a ∈ L ∧ ∀ o, RV mg (upd H a (.frz o (.lst vs))) (.lst xs) (.ref a) ∧ ∃ L', Aft mg true H L (ρ.set i (some (.v (.lst xs)))) σ (upd H a (.frz o (.lst vs))) L' := by
  obtain ⟨x, Ls, Lr, h1, h2, h3, h4, h5⟩ := rl.get e
  cases h2 with
  | @l a _ vs ea rv =>
    have inL : a ∈ L := (h5 a).mpr (.inl (List.mem_singleton.mpr rfl))
    refine ⟨a, vs, h1, ea, inL, fun o => ?_⟩
    have st : Stp true H (upd H a (.frz o (.lst vs))) L := Stp.write inL fun u q z => by rw [ea] at q; cases q; exact z
    have rv' : RV mg (upd H a (.frz o (.lst vs))) (.lst xs) (.ref a) := ⟨a, o, vs, rfl, upd_same, rv.step st⟩
    have r3 : RL mg (upd H a (.frz o (.lst vs))) (ρ.set i none) σ Lr := h3.stay st.fz fun b hb ob q => by
      rw [upd_ne (show b ≠ a from fun z => h4 a (List.mem_singleton.mpr rfl) (z ▸ hb))]; exact q
    obtain ⟨L', g1, g2⟩ := RL.back (List.getElem?_eq_some_iff.mp e).1 r3 h1 (RS.v rv') (fun _ h => nomatch h)
    exact ⟨rv', L', g1, st, fun b hb => .inl ((h5 b).mpr (((g2 b).mp hb).imp (fun h => nomatch h) id))⟩
/-- a temp list is frozen -/
theorem fz_tmp {H H1 : Hp} {ρ1 : Loc} {σ : St} {L L1 Ls : List Addr} {xs : List PV} {v : V} (aft : Aft mg m H L ρ1 σ H1 L1) (r : RS mg H1 (.l xs) v Ls) (dj : ∀ a ∈ Ls, a ∉ L1) (sb : Sub Ls L H) :
    ∃ a vs, v = .ref a ∧ H1 a = some (.lst vs) ∧ ∀ o, RV mg (upd H1 a (.frz o (.lst vs))) (.lst xs) (.ref a) ∧ Aft mg true H L ρ1 σ (upd H1 a (.frz o (.lst vs))) L1 := by
  cases r with
  | @l a _ vs ea rv =>
    refine ⟨a, vs, rfl, ea, fun o => ?_⟩
    have na : a ∉ L1 := dj a (List.mem_singleton.mpr rfl)
    have nf : ∀ b ob, H1 b = some ob → isFz ob → b ≠ a := fun b ob q z e => by subst e; rw [ea] at q; cases q; exact z
    have fz : ∀ b ob, H1 b = some ob → isFz ob → upd H1 a (.frz o (.lst vs)) b = some ob := fun b ob q z => by rw [upd_ne (nf b ob q z)]; exact q
    refine ⟨⟨a, o, vs, rfl, upd_same, rv.stay fz⟩, aft.rl.stay fz fun b hb ob q => by rw [upd_ne (show b ≠ a from fun z => na (z ▸ hb))]; exact q, fun b ob q c => ?_, aft.sb⟩
    have q1 := aft.st.mono (m' := true) (fun _ => rfl) b ob q c
    by_cases z : b = a
    · subst z
      exfalso
      rcases c with c | c | c
      · exact nf b ob q1 c rfl
      · rcases sb b (List.mem_singleton.mpr rfl) with k | k
        · exact c k
        · rw [q] at k; cases k
      · cases c
    · rw [upd_ne z]; exact q1
theorem gP_keep {c : Loc → Rs OV} (h : GO m X W e c) : GP X W e (keepP c) := by
  obtain ⟨t, p, g⟩ := h
  refine ⟨_, pe_fz p, fun ρ σ H L Q rl po => g ρ σ H L _ rl ?_⟩
  unfold keepP bindR at po
  cases hc : c ρ with
  | no => rw [hc] at po; exact po
  | ex x ρ1 => rw [hc] at po; exact fun cls d H' L' r a => po cls d H' L' r (a.mono fun _ => rfl)
  | ok ov ρ1 =>
    rw [hc] at po
    intro v H1 Lt L1 ro aft dj sb hρ
    have aft' : Aft X.mg true H L ρ1 σ H1 L1 := aft.mono fun _ => rfl
    dsimp only at po
    cases ov with
    | tm s =>
      cases s with
      | v q => cases ro with | v r => exact .inl (po v H1 L1 r aft')
      | l xs =>
        obtain ⟨a, vs, e1, e2, k⟩ := fz_tmp aft ro dj sb
        exact .inr ⟨a, _, e2, trivial, fun o => by rw [e1]; exact po _ _ _ (k o).1 (k o).2⟩
      | d _ => exact po.elim
      | r _ => exact po.elim
      | o _ _ => exact po.elim
    | sl i =>
      obtain ⟨hx, _⟩ := ro
      dsimp only at po
      cases hr : ρ1[i]? with
      | none => rw [hr] at po; exact po.elim
      | some o =>
        cases o with
        | none => rw [hr] at po; exact po.elim
        | some s =>
          rw [hr] at po
          obtain ⟨x, Ls, Lr, h1, h2, _⟩ := aft.rl.get hr
          rw [hx] at h1; cases h1
          cases s with
          | v q => cases h2 with | v r => exact .inl (po v H1 L1 r aft')
          | l xs =>
            obtain ⟨a, vs, e1, e2, _, k⟩ := fz_slot aft.rl hr
            rw [hx] at e1; cases e1
            exact .inr ⟨a, _, e2, trivial, fun o => let ⟨k1, L', k2⟩ := k o; po _ _ _ k1 (aft'.trans k2)⟩
          | d _ => exact po.elim
          | r _ => exact po.elim
          | o _ _ => exact po.elim
    | fd i k =>
      dsimp only at po
      cases hr : (OV.fd i k).get ρ1 with
      | none => rw [hr] at po; exact po.elim
      | some s =>
        rw [hr] at po
        obtain ⟨Ls, rs, _⟩ := ro.get aft.rl hr
        cases s with
        | v q => cases rs with | v r => exact .inl (po v H1 L1 r aft')
        | l _ => exact po.elim
        | d _ => exact po.elim
        | r _ => exact po.elim
        | o _ _ => exact po.elim
theorem gV_keep {c : Loc → Rs OV} (h : GO m X W e c) : GV true X W e (keepS c) := by
  obtain ⟨t, p, g⟩ := h
  refine ⟨_, pe_fz p, fun ρ σ H L Q rl po => g ρ σ H L _ rl ?_⟩
  unfold keepS bindR at po
  cases hc : c ρ with
  | no => rw [hc] at po; exact po
  | ex x ρ1 => rw [hc] at po; exact fun cls d H' L' r a => po cls d H' L' r (a.mono fun _ => rfl)
  | ok ov ρ1 =>
    rw [hc] at po
    intro v H1 Lt L1 ro aft dj sb hρ
    have aft' : Aft X.mg true H L ρ1 σ H1 L1 := aft.mono fun _ => rfl
    dsimp only at po
    cases ov with
    | tm s => exact .inl (po v H1 Lt L1 ro aft' dj sb (fun z => nomatch z))
    | sl i =>
      obtain ⟨hx, _⟩ := ro
      dsimp only at po
      cases hr : ρ1[i]? with
      | none => rw [hr] at po; exact po.elim
      | some o =>
        cases o with
        | none => rw [hr] at po; exact po.elim
        | some s =>
          rw [hr] at po
          obtain ⟨x, Ls, Lr, h1, h2, _⟩ := aft.rl.get hr
          rw [hx] at h1; cases h1
          cases s with
          | v q => cases h2 with | v r => exact .inl (po v H1 [] L1 (.v r) aft' (fun _ h => nomatch h) (fun _ h => nomatch h) (fun z => nomatch z))
          | l xs =>
            obtain ⟨a, vs, e1, e2, _, k⟩ := fz_slot aft.rl hr
            rw [hx] at e1; cases e1
            exact .inr ⟨a, _, e2, trivial, fun o => let ⟨k1, L', k2⟩ := k o; po _ _ [] _ (.v k1) (aft'.trans k2) (fun _ h => nomatch h) (fun _ h => nomatch h) (fun z => nomatch z)⟩
          | d _ => exact po.elim
          | r _ => exact po.elim
          | o _ _ => exact po.elim
    | fd i k =>
      dsimp only at po
      cases hr : (OV.fd i k).get ρ1 with
      | none => rw [hr] at po; exact po.elim
      | some s =>
        rw [hr] at po
        obtain ⟨Ls, rs, _⟩ := ro.get aft.rl hr
        cases s with
        | v q => cases rs with | v r => exact .inl (po v H1 [] L1 (.v r) aft' (fun _ h => nomatch h) (fun _ h => nomatch h) (fun z => nomatch z))
        | l _ => exact po.elim
        | d _ => exact po.elim
        | r _ => exact po.elim
        | o _ _ => exact po.elim
end Lt
set_option maxHeartbeats 1000000
/-! LtD: operators on values. -/
namespace Lt
open PySem PySem.Spec L2
open PyProof.Rows hiding St
variable {mg : Str → Option Value} {X : Cx} {W : WX} {e a b : Expr} {m mb m' : Bool} {H : Hp}

def asL : SV → Option (List PV)
  | .l xs => some xs
  | .v (.lst xs) => some xs
  | _ => none
theorem RS.list {s : SV} {x : V} {L : List Addr} {xs : List PV} (r : RS mg H s x L) (e : asL s = some xs) : ∃ a vs, x = .ref a ∧ Rd H a (.lst vs) ∧ RVs mg H xs vs := by
  cases r with
  | v q =>
    rename_i p
    cases p <;> first | cases e; done | skip
    rename_i ys
    cases e
    obtain ⟨a, o, vs, rfl, h, r⟩ := q
    exact ⟨a, vs, rfl, .inr ⟨o, h⟩, r⟩
  | l h r => cases e; exact ⟨_, _, rfl, .inl h, r⟩
  | d _ => cases e
  | r _ _ _ _ => cases e
  | o _ _ _ _ _ => cases e
theorem RS.val {p : PV} {x : V} {L : List Addr} (r : RS mg H (.v p) x L) : RV mg H p x := by cases r with | v q => exact q
section
variable {pins : List (Addr × Obj)} {σ : St} {s : Shared} {l : Addr} {xs : List V}
theorem Inv.lstR (I : Inv X pins σ H s) (hH : Rd H l (.lst xs)) : xs.length ≤ sizeLine ∧ ∃ (its : List Value) (n : Nat), Vals xs its ∧ xs.length = its.length ∧ s.heap.get? l = some { cls := .type "list", data := .seq its.toArray n } := by
  obtain ⟨z, its, n, r, e⟩ := hH.ok I.hok
  exact ⟨z, its, n, r, r.length, e⟩
end
/-- a new thing -/
theorem does_new {s : SV} {Q : VK} {o : HO} (h : Does mg H s Q) (r : ∀ p, H p = none → RS mg (upd H p o) s (.ref p) [] ∨ RS mg (upd H p o) s (.ref p) [p]) : ∀ p, H p = none → Q (.ref p) (upd H p o) := fun p hp => by
  rcases r p hp with r | r
  · exact h _ _ [] r (fun b u q => by rw [upd_ne (ne_of_none q hp)]; exact q) (fun _ h => nomatch h)
  · exact h _ _ [p] r (fun b u q => by rw [upd_ne (ne_of_none q hp)]; exact q) (fun b hb => by rw [List.mem_singleton.mp hb]; exact hp)
theorem does_tup {xs : List PV} {vs : List V} {Q : VK} (r : RVs mg H xs vs) (h : Does mg H (.v (.tup xs)) Q) : NT H Q vs := fun p o hp ho =>
  does_new h (fun p hp => .inl (.v ⟨p, o, vs, rfl, upd_same, ho, r.stay fun b u q _ => by rw [upd_ne (ne_of_none q hp)]; exact q⟩)) p hp
theorem does_lst {xs : List PV} {vs : List V} {Q : VK} (r : RVs mg H xs vs) (h : Does mg H (.l xs) Q) : ∀ p, H p = none → Q (.ref p) (upd H p (.lst vs)) :=
  does_new h fun p hp => .inr (.l upd_same (r.stay fun b u q _ => by rw [upd_ne (ne_of_none q hp)]; exact q))
theorem does_val {p : PV} {x : V} {Q : VK} (r : RV mg H p x) (h : Does mg H (.v p) Q) : Q x H := h x H [] (.v r) (fun _ _ q => q) (fun _ h => nomatch h)
theorem does_int {i : Int} {Q : VK} (h : Does mg H (.v (.int i)) Q) : Q (.int i) H := does_val (p := .int i) rfl h
theorem does_bl {i : Bool} {Q : VK} (h : Does mg H (.v (.bl i)) Q) : Q (.bl i) H := does_val (p := .bl i) rfl h
theorem does_str {i : Str} {Q : VK} (h : Does mg H (.v (.str i)) Q) : Q (.str i) H := does_val (p := .str i) rfl h

/-! ### + -/
def rCatR : R2 := fun x y H Q => ∃ l b xs zs, x = .ref l ∧ y = .ref b ∧ Rd H l (.lst xs) ∧ Rd H b (.lst zs) ∧ xs.length + zs.length ≤ sizeLine ∧ ∀ p, H p = none → Q (.ref p) (upd H p (.lst (xs ++ zs)))
theorem op_catR : OpR X (binaryOp .Add) rCatR := by
  intro pins s σ H x y v u Q I rx ry h
  obtain ⟨l, b, xs, zs, rfl, rfl, hH, hB, hz, q⟩ := h
  cases rx
  cases ry
  obtain ⟨z, its, n, r, hl, e⟩ := Inv.lstR I hH
  obtain ⟨z2, its2, n2, r2, hl2, e2⟩ := Inv.lstR I hB
  refine PySem.P.add_list e e2 ?_ (by rw [List.size_toArray, List.size_toArray]; omega)
  have ea : its.toArray ++ its2.toArray = (its ++ its2).toArray := by simp
  rw [ea]
  exact ⟨.ref _, _, I.lnew (t' := s.toks) (r.append r2) (by rw [List.length_append]; omega), rfl, q _ I.fresh⟩
def sAdd (p q : SV) : Option SV := match p, q with
  | .v (.int i), .v (.int j) => some (.v (.int (i + j)))
  | .v (.tup xs), .v (.tup ys) => if xs.length + ys.length ≤ sizeLine then some (.v (.tup (xs ++ ys))) else none
  | .v (.str x), .v (.str y) => if x.length + y.length ≤ sizeLine then some (.v (.str (x ++ y))) else none
  | p, q => match asL p, asL q with
    | some xs, some ys => if xs.length + ys.length ≤ sizeLine then some (.l (xs ++ ys)) else none
    | _, _ => none
def rAdd4 (K : PySem.W.Frag) : R2 := fun x y H Q => ((rI0 (fun i j => .int (i + j))) x y H Q ∨ rCatB K x y H Q) ∨ (rCatR x y H Q ∨ ∃ i j, x = .str i ∧ y = .str j ∧ i.length + j.length ≤ sizeLine ∧ Q (.str (i ++ j)) H)
theorem op_add4 : OpR X (binaryOp .Add) (rAdd4 X.K) := (op_add.or op_catB).or (op_catR.or op_add_str)
theorem sAdd_ok {K : PySem.W.Frag} : Bin2 mg sAdd (rAdd4 K) := by
  intro p q s x y H Lp Lq Q rp rq e h
  unfold sAdd at e
  split at e
  · rename_i i j
    cases e
    have e1 := rp.val; have e2 := rq.val
    exact .inl (.inl ⟨i, j, e1, e2, does_int h⟩)
  · rename_i xs ys
    split at e
    · rename_i hz
      cases e
      obtain ⟨a, oa, vs, rfl, ha, da, ra⟩ := rp.val
      obtain ⟨b, ob, ws, rfl, hb, db, rb⟩ := rq.val
      have l1 := ra.length; have l2 := rb.length
      refine .inl (.inr ⟨a, b, vs, ws, rfl, rfl, .inl (.inr ⟨oa, ha⟩), .inl (.inr ⟨ob, hb⟩), by omega, fun z => ?_, fun z z' => ?_, fun _ _ => does_tup (ra.append rb) h⟩)
      · subst z
        have : xs = [] := List.eq_nil_of_length_eq_zero (by simpa using l1.symm)
        subst this
        exact does_val (p := .tup ys) ⟨b, ob, ws, rfl, hb, db, rb⟩ h
      · subst z'
        have : ys = [] := List.eq_nil_of_length_eq_zero (by simpa using l2.symm)
        subst this
        rw [List.append_nil] at h
        exact does_val (p := .tup xs) ⟨a, oa, vs, rfl, ha, da, ra⟩ h
    · cases e
  · rename_i i j
    split at e
    · rename_i hz
      cases e
      exact .inr (.inr ⟨i, j, rp.val, rq.val, hz, does_str h⟩)
    · cases e
  · split at e
    · rename_i xs ys e1 e2
      split at e
      · rename_i hz
        cases e
        obtain ⟨a, vs, rfl, ha, ra⟩ := rp.list e1
        obtain ⟨b, ws, rfl, hb, rb⟩ := rq.list e2
        have l1 := ra.length; have l2 := rb.length
        exact .inr (.inl ⟨a, b, vs, ws, rfl, rfl, ha, hb, by omega, does_lst (ra.append rb) h⟩)
      · cases e
    · cases e
/-! ### - * // % ** -/
def sSub (p q : SV) : Option SV := match p, q with
  | .v (.int i), .v (.int j) => some (.v (.int (i - j)))
  | _, _ => none
theorem sSub_ok : Bin2 mg sSub (rI0 fun i j => .int (i - j)) := by
  intro p q s x y H Lp Lq Q rp rq e h
  unfold sSub at e
  split at e
  · cases e; exact ⟨_, _, rp.val, rq.val, does_int h⟩
  · cases e
def inW (i : Int) : Bool := decide (-(2 ^ 64) < i ∧ i < 2 ^ 64)
def sMul (p q : SV) : Option SV := match p, q with
  | .v (.int i), .v (.int j) => if inW i || inW j then some (.v (.int (i * j))) else none
  | .v (.tup xs), .v (.int k) => if k ≤ 1000 ∧ -1000 ≤ k ∧ xs.length ≤ 1000 then some (.v (.tup (List.replicate k.toNat xs).flatten)) else none
  | p, .v (.int k) => match asL p with
    | some xs => if k ≤ 1000 ∧ -1000 ≤ k ∧ xs.length ≤ 1000 then some (.l (List.replicate k.toNat xs).flatten) else none
    | none => none
  | _, _ => none
def rRepR : R2 := fun x y H Q => ∃ l k xs, x = .ref l ∧ y = .int k ∧ Rd H l (.lst xs) ∧ -(2 ^ 63) ≤ k ∧ k < 2 ^ 63 ∧ xs.length * k.toNat ≤ sizeLine ∧
  ∀ p, H p = none → Q (.ref p) (upd H p (.lst (List.replicate k.toNat xs).flatten))
theorem op_repR : OpR X (binaryOp .Mult) rRepR := by
  intro pins s σ H x y v u Q I rx ry h
  obtain ⟨l, k, xs, rfl, rfl, hH, h1, h2, hz, q⟩ := h
  cases rx
  obtain ⟨t, rfl⟩ := ry
  obtain ⟨z, its, n, r, hl, e⟩ := Inv.lstR I hH
  have hlen : its.toArray.size * k.toNat ≤ sizeLine := by rw [List.size_toArray, ← hl]; exact hz
  have hcap : ¬ its.toArray.size * k.toNat > (2 ^ 63 - 1) / 8 := by
    have : (sizeLine : Nat) ≤ (2 ^ 63 - 1) / 8 := by decide
    omega
  have hfit : ¬ (!Builtin.List.listFitsIndex k) = true := by
    rw [fitsIndex_both h1 h2]
    exact Bool.false_ne_true
  have hlong : ¬ Builtin.List.listTooLong (its.toArray.size * k.toNat) = true := by
    rw [notLongL hlen]
    exact Bool.false_ne_true
  have hnew : List.foldl (fun x1 x2 => x1 ++ x2) #[] (List.replicate (if its.toArray.isEmpty = true then 0 else k.toNat) its.toArray) = (List.replicate k.toNat its).flatten.toArray := by
    have f0 : ∀ m : Nat, List.foldl (fun x1 x2 => x1 ++ x2) #[] (List.replicate m its.toArray) = (List.replicate m its).flatten.toArray := fun m => by
      have := foldl_rep its m []
      rw [List.nil_append] at this
      exact this
    rw [f0]
    cases its with
    | nil => simp
    | cons a r' => rw [if_neg (by simp)]
  refine wpAny_binaryOp_repeat_ref (T := "list") (U := "int") (by decide) ⟨_, e, rfl⟩ (fun s' => typeIs_int s' k t) noFill_list_mul F.fills_int_mul F.slot_int_rmul repeat_list F.slot_int_index.lookup
    (call_meets F.slot_int_rmul (typeIs_int s k t) F.entry_int_rmul (F.args_int_rmul_2 _ _) (int___rmul___int_list k t l its.toArray n)
      ⟨e, rfl, ⟨_, e, rfl⟩, call_meets F.slot_list_mul ⟨_, e, rfl⟩ F.entry_list_mul (F.args_list_mul_2 _ _) (AutoListH.list___mul___list_int_3 l its.toArray n k t hfit hcap hlong) ⟨e, ?_⟩⟩)
  rw [hnew]
  exact ⟨.ref _, _, I.lnew (t' := s.toks) (r.rep k.toNat) (by rw [PyProof.Rows.lm_len_rep_flat, Nat.mul_comm]; exact hz), rfl, q _ I.fresh⟩
def rMul5 (K : PySem.W.Frag) : R2 := fun x y H Q => ((rI CMul (fun i j => .int (i * j))) x y H Q ∨ (rRepB K x y H Q ∨ rRep1 K x y H Q)) ∨ (rRep0 K x y H Q ∨ rRepR x y H Q)
theorem op_mul5 : OpR X (binaryOp .Mult) (rMul5 X.K) := (op_mul.or (op_repB.or op_rep1)).or (op_rep0.or op_repR)
theorem RVs.rep {ps : List PV} {xs : List V} (r : RVs mg H ps xs) : ∀ n : Nat, RVs mg H (List.replicate n ps).flatten (List.replicate n xs).flatten
  | 0 => RVs.nil
  | n + 1 => by
    rw [List.replicate_succ, List.replicate_succ, List.flatten_cons, List.flatten_cons]
    exact r.append (RVs.rep r n)
theorem flat_nil {α : Type} : ∀ n : Nat, (List.replicate n ([] : List α)).flatten = []
  | 0 => rfl
  | n + 1 => by rw [List.replicate_succ, List.flatten_cons, flat_nil n]; rfl
theorem sMul_ok {K : PySem.W.Frag} : Bin2 mg sMul (rMul5 K) := by
  intro p q s x y H Lp Lq Q rp rq e h
  unfold sMul at e
  split at e
  · rename_i i j
    split at e
    · rename_i hw
      cases e
      refine .inl (.inl ⟨i, j, rp.val, rq.val, ?_, does_int h⟩)
      rw [Bool.or_eq_true] at hw
      exact hw.imp of_decide_eq_true of_decide_eq_true
    · cases e
  · rename_i xs k
    split at e
    · rename_i hk
      cases e
      obtain ⟨a, oa, vs, rfl, ha, da, ra⟩ := rp.val
      have l1 := ra.length
      by_cases c1 : vs = [] ∨ k = 1
      · refine .inl (.inr (.inr ⟨a, k, vs, rfl, rq.val, .inl (.inr ⟨oa, ha⟩), by omega, by omega, c1, does_val (p := .tup xs) ⟨a, oa, vs, rfl, ha, da, ra⟩ ?_⟩))
        have : (List.replicate k.toNat xs).flatten = xs := by
          rcases c1 with c1 | c1
          · subst c1
            have : xs = [] := List.eq_nil_of_length_eq_zero (by simpa using l1.symm)
            subst this; exact flat_nil _
          · subst c1; show (List.replicate 1 xs).flatten = xs; simp
        rw [this] at h; exact h
      · by_cases c2 : k ≤ 0
        · refine .inr (.inl ⟨a, k, vs, rfl, rq.val, .inl (.inr ⟨oa, ha⟩), fun z => c1 (.inl z), by omega, c2, ?_⟩)
          rw [show k.toNat = 0 by omega] at h
          exact does_tup RVs.nil h
        · exact .inl (.inr (.inl ⟨a, k, vs, rfl, rq.val, .inl (.inr ⟨oa, ha⟩), fun z => c1 (.inl z), by omega, by omega, by omega, does_tup (ra.rep k.toNat) h⟩))
    · cases e
  · split at e
    · rename_i xs e1
      split at e
      · rename_i hk
        cases e
        obtain ⟨a, vs, rfl, ha, ra⟩ := rp.list e1
        have l1 := ra.length
        have key : ∀ k : Int, k ≤ 1000 → vs.length * k.toNat ≤ sizeLine := fun k hk => by
          have := Nat.mul_le_mul (show vs.length ≤ 1000 by omega) (show k.toNat ≤ 1000 by omega)
          rw [sizeLine_eq]; omega
        exact .inr (.inr ⟨a, _, vs, rfl, rq.val, ha, by omega, by omega, key _ hk.1, does_lst (ra.rep _) h⟩)
      · cases e
    · cases e
  · cases e
def sFdiv (p q : SV) : Option SV := match p, q with
  | .v (.int i), .v (.int j) => if 0 < j ∧ j < 1073741824 then some (.v (.int (i / j))) else none
  | _, _ => none
theorem sFdiv_ok : Bin2 mg sFdiv (rI CDiv fun i j => .int (i / j)) := by
  intro p q s x y H Lp Lq Q rp rq e h
  unfold sFdiv at e
  split at e
  · split at e
    · rename_i hk; cases e; exact ⟨_, _, rp.val, rq.val, hk, does_int h⟩
    · cases e
  · cases e
def sMod (p q : SV) : Option SV := match p, q with
  | .v (.int i), .v (.int j) => if 0 < j then some (.v (.int (i % j))) else none
  | _, _ => none
theorem sMod_ok : Bin2 mg sMod (rI (fun _ j => 0 < j) fun i j => .int (i % j)) := by
  intro p q s x y H Lp Lq Q rp rq e h
  unfold sMod at e
  split at e
  · split at e
    · rename_i hk; cases e; exact ⟨_, _, rp.val, rq.val, hk, does_int h⟩
    · cases e
  · cases e
def sPow (p q : SV) : Option SV := match p, q with
  | .v (.int i), .v (.int j) => if 0 ≤ j ∧ j ≤ 1000000 ∧ i.natAbs < 2 ^ 64 then some (.v (.int (i ^ j.toNat))) else none
  | _, _ => none
theorem sPow_ok : Bin2 mg sPow (rI CPow fun i j => .int (i ^ j.toNat)) := by
  intro p q s x y H Lp Lq Q rp rq e h
  unfold sPow at e
  split at e
  · split at e
    · rename_i hk; cases e; exact ⟨_, _, rp.val, rq.val, hk, does_int h⟩
    · cases e
  · cases e
def sNeg (p : SV) : Option SV := match p with
  | .v (.int i) => some (.v (.int (-i)))
  | _ => none
theorem sNeg_ok : Un1 mg sNeg (rU fun i => .int (-i)) := by
  intro p s x H L Q rp e h
  unfold sNeg at e
  split at e
  · cases e; exact ⟨_, rp.val, does_int h⟩
  · cases e
/-- the operators -/
def sBin : Operator → Option (SV → SV → Option SV)
  | .Add => some sAdd
  | .Sub => some sSub
  | .Mult => some sMul
  | .FloorDiv => some sFdiv
  | .Mod => some sMod
  | .Pow => some sPow
  | _ => none
theorem gO_binop {op : Operator} {ca cb : Loc → Rs OV} {f : SV → SV → Option SV} {pos : Pos} (hop : sBin op = some f) (ha : GO m X W a ca) (hb : GO mb X W b cb) (hm : mb = true → m = true) (hf : mb = true → NoFd ca) : GO m X W (.BinOp a op b pos) (bin2 f ca cb) := by
  unfold sBin at hop
  split at hop
  · cases hop; exact gO_bin2 (fun ta tb pa pb => pe_op op_add4 pa pb) sAdd_ok ha hb hm hf
  · cases hop; exact gO_bin2 (fun ta tb pa pb => pe_op op_sub pa pb) sSub_ok ha hb hm hf
  · cases hop; exact gO_bin2 (fun ta tb pa pb => pe_op op_mul5 pa pb) sMul_ok ha hb hm hf
  · cases hop; exact gO_bin2 (fun ta tb pa pb => pe_op op_fdiv pa pb) sFdiv_ok ha hb hm hf
  · cases hop; exact gO_bin2 (fun ta tb pa pb => pe_op op_mod pa pb) sMod_ok ha hb hm hf
  · cases hop; exact gO_bin2 (fun ta tb pa pb => pe_op op_pow pa pb) sPow_ok ha hb hm hf
  · cases hop
theorem gO_neg {ca : Loc → Rs OV} {pos : Pos} (ha : GO m X W a ca) : GO m X W (.UnaryOp .USub a pos) (un1 sNeg ca) :=
  gO_un1 (fun ta pa => pe_un un_neg pa) sNeg_ok ha
end Lt
set_option maxHeartbeats 1000000
/-! LtE: comparisons, tests. -/
namespace Lt
open PySem PySem.Spec L2
open PyProof.Rows hiding St
variable {mg : Str → Option Value} {X : Cx} {W : WX} {e a b : Expr} {m mb m' : Bool} {H : Hp}

/-! ### data -/
mutual
def toD : PV → Option PyData
  | .non => some .none
  | .bl b => some (.bool b)
  | .int i => some (.int i)
  | .str x => some (.str x)
  | .tup xs => match toDs xs with
    | some ds => some (.tuple ds)
    | none => none
  | .tmp xs => match toDs xs with
    | some ds => some (.tuple ds)
    | none => none
  | .lst xs => match toDs xs with
    | some ds => some (.list ds)
    | none => none
  | .dic _ _ => none
  | .glb _ => none
  | .ex0 _ => none
  | .ex1 _ _ _ => none
def toDs : List PV → Option (List PyData)
  | [] => some []
  | p :: ps => match toD p, toDs ps with
    | some d, some ds => some (d :: ds)
    | _, _ => none
end
mutual
theorem RV.dp {K : PySem.W.Frag} : ∀ {p : PV} {x : V} {d : PyData}, RV mg H p x → toD p = some d → Dp K H x d
  | .non, _, _, r, e => by cases e; rw [show _ = _ from r]; exact .non
  | .bl _, _, _, r, e => by cases e; rw [show _ = _ from r]; exact .bl _
  | .int _, _, _, r, e => by cases e; rw [show _ = _ from r]; exact .int _
  | .str _, _, _, r, e => by cases e; rw [show _ = _ from r]; exact .str _
  | .tup xs, _, _, ⟨a, oa, vs, e1, e2, _, r⟩, e => by
    unfold toD at e
    cases h : toDs xs with
    | none => rw [h] at e; cases e
    | some ds => rw [h] at e; cases e; rw [e1]; exact .tup (.inl (.inr ⟨oa, e2⟩)) (RVs.dp r h)
  | .tmp xs, _, _, ⟨a, vs, e1, e2, r⟩, e => by
    unfold toD at e
    cases h : toDs xs with
    | none => rw [h] at e; cases e
    | some ds => rw [h] at e; cases e; rw [e1]; exact .tup (.inl (.inl e2)) (RVs.dp r h)
  | .lst xs, _, _, ⟨a, o, vs, e1, e2, r⟩, e => by
    unfold toD at e
    cases h : toDs xs with
    | none => rw [h] at e; cases e
    | some ds => rw [h] at e; cases e; rw [e1]; exact .lst (.inl (.inr ⟨o, e2⟩)) (RVs.dp r h)
  | .dic _ _, _, _, r, _ => r.elim
  | .glb _, _, _, _, e => by cases e
  | .ex0 _, _, _, _, e => by cases e
  | .ex1 _ _ _, _, _, _, e => by cases e
theorem RVs.dp {K : PySem.W.Frag} : ∀ {p : List PV} {x : List V} {d : List PyData}, RVs mg H p x → toDs p = some d → DpAll K H x d
  | [], _, _, r, e => by cases e; rw [show _ = _ from r]; exact .nil
  | p :: ps, _, _, ⟨y, ys, e1, a, b⟩, e => by
    unfold toDs at e
    cases h1 : toD p with
    | none => rw [h1] at e; cases e
    | some d =>
      cases h2 : toDs ps with
      | none => rw [h1, h2] at e; cases e
      | some ds => rw [h1, h2] at e; cases e; rw [e1]; exact .cons (RV.dp a h1) (RVs.dp b h2)
end
def dOf : SV → Option PyData
  | .v p => toD p
  | .l xs => toD (.lst xs)
  | _ => none
theorem RS.dp {K : PySem.W.Frag} {s : SV} {x : V} {L : List Addr} {d : PyData} (r : RS mg H s x L) (e : dOf s = some d) : Dp K H x d := by
  cases r with
  | v q => exact q.dp e
  | l h r =>
    rename_i a xs vs
    change toD (.lst xs) = some d at e
    unfold toD at e
    cases h1 : toDs xs with
    | none => rw [h1] at e; cases e
    | some ds => rw [h1] at e; cases e; exact .lst (.inl (.inl h)) (r.dp h1)
  | d _ => cases e
  | r _ _ _ _ => cases e
  | o _ _ _ _ _ => cases e
/-- == of two things as data; lists of unlike lengths, and empty ones, whatever they hold -/
def sEqA (p q : SV) : Option Bool := match asL p, asL q with
  | some [], some [] => some true
  | some xs, some ys => if xs.length ≠ ys.length then some false else match dOf p, dOf q with
    | some d, some e => if SeqAt.shaped d && SeqAt.shaped e then some (PyData.eqv d e) else none
    | _, _ => none
  | _, _ => match dOf p, dOf q with
    | some d, some e => if SeqAt.shaped d && SeqAt.shaped e then some (PyData.eqv d e) else none
    | _, _ => none
/-- .. and of texts, whatever they are -/
def sEqB (p q : SV) : Option Bool := match p, q with
  | .v (.str x), .v (.str y) => some (x == y)
  | p, q => sEqA p q
def sEq (p q : SV) : Option SV := (sEqB p q).map fun b => .v (.bl b)
def sNe (p q : SV) : Option SV := (sEqB p q).map fun b => .v (.bl !b)
def rEqL : R2 := fun x y H Q => ∃ l b xs ys, x = .ref l ∧ y = .ref b ∧ Rd H l (.lst xs) ∧ Rd H b (.lst ys) ∧ ((xs.length ≠ ys.length ∧ Q (.bl false) H) ∨ (xs = [] ∧ ys = [] ∧ Q (.bl true) H))
def rNeL : R2 := fun x y H Q => ∃ l b xs ys, x = .ref l ∧ y = .ref b ∧ Rd H l (.lst xs) ∧ Rd H b (.lst ys) ∧ ((xs.length ≠ ys.length ∧ Q (.bl true) H) ∨ (xs = [] ∧ ys = [] ∧ Q (.bl false) H))
theorem isList_of {h : Heap} {l : Addr} {its : List Value} {n : Nat} (e : h.get? l = some { cls := .type "list", data := .seq its.toArray n }) : h.IsList l its.toArray := ⟨_, e, rfl, _, rfl⟩
theorem op_eqL (hu : X.A.units < cLine) : OpR X (compareOp .Eq) rEqL := by
  intro pins s σ H x y v u Q I rx ry h
  obtain ⟨l, b, xs, ys, rfl, rfl, hH, hB, q⟩ := h
  cases rx
  cases ry
  obtain ⟨z, its, n, r, hl, e⟩ := Inv.lstR I hH
  obtain ⟨z2, its2, n2, r2, hl2, e2⟩ := Inv.lstR I hB
  rcases q with ⟨h1, q⟩ | ⟨h1, h2, q⟩
  · exact SeqAt.eq_list_lengthsAt (isList_of e) (isList_of e2) (by simp; omega) hu ⟨.bl false, H, I, rfl, q⟩
  · subst h1 h2
    have i1 : its = [] := List.eq_nil_of_length_eq_zero hl.symm
    have i2 : its2 = [] := List.eq_nil_of_length_eq_zero hl2.symm
    subst i1 i2
    exact SeqAt.eq_listAt (e := fun _ => true) (isList_of e) (isList_of e2) rfl hu (fun j h1 _ => absurd h1 (by simp)) ⟨.bl true, H, I, rfl, q⟩

theorem op_neL (hu : X.A.units < cLine) : OpR X (compareOp .NotEq) rNeL := by
  intro pins s σ H x y v u Q I rx ry h
  obtain ⟨l, b, xs, ys, rfl, rfl, hH, hB, q⟩ := h
  cases rx
  cases ry
  obtain ⟨z, its, n, r, hl, e⟩ := Inv.lstR I hH
  obtain ⟨z2, its2, n2, r2, hl2, e2⟩ := Inv.lstR I hB
  rcases q with ⟨h1, q⟩ | ⟨h1, h2, q⟩
  · exact SeqAt.RcNeAt.lists_lengths (isList_of e) (isList_of e2) (by simp; omega) hu _ _ _ _ ⟨.bl true, H, I, rfl, q⟩
  · subst h1 h2
    have i1 : its = [] := List.eq_nil_of_length_eq_zero hl.symm
    have i2 : its2 = [] := List.eq_nil_of_length_eq_zero hl2.symm
    subst i1 i2
    exact SeqAt.RcNeAt.lists (e := fun _ => true) (isList_of e) (isList_of e2) rfl hu (fun j h1 _ => absurd h1 (by simp)) _ _ _ _ ⟨.bl false, H, I, rfl, q⟩
theorem sEqA_cases {p q : SV} {k : Bool} (h : sEqA p q = some k) : (∃ xs ys, asL p = some xs ∧ asL q = some ys ∧ ((xs.length ≠ ys.length ∧ k = false) ∨ (xs = [] ∧ ys = [] ∧ k = true))) ∨
    ∃ d e, dOf p = some d ∧ dOf q = some e ∧ SeqAt.shaped d = true ∧ SeqAt.shaped e = true ∧ k = PyData.eqv d e := by
  have gen : ∀ {k : Bool}, (match dOf p, dOf q with
    | some d, some e => if SeqAt.shaped d && SeqAt.shaped e then some (PyData.eqv d e) else none
    | _, _ => none) = some k → ∃ d e, dOf p = some d ∧ dOf q = some e ∧ SeqAt.shaped d = true ∧ SeqAt.shaped e = true ∧ k = PyData.eqv d e := by
    intro k h
    cases h1 : dOf p with
    | none => rw [h1] at h; cases h
    | some d =>
      cases h2 : dOf q with
      | none => rw [h1, h2] at h; cases h
      | some e =>
        rw [h1, h2] at h
        dsimp only at h
        split at h
        · rename_i hs
          rw [Bool.and_eq_true] at hs
          cases h
          exact ⟨d, e, rfl, rfl, hs.1, hs.2, rfl⟩
        · cases h
  unfold sEqA at h
  split at h
  · rename_i h1 h2
    cases h
    exact .inl ⟨[], [], h1, h2, .inr ⟨rfl, rfl, rfl⟩⟩
  · rename_i xs ys _ h1 h2
    split at h
    · rename_i hl
      cases h
      exact .inl ⟨xs, ys, h1, h2, .inl ⟨hl, rfl⟩⟩
    · exact .inr (gen h)
  · exact .inr (gen h)
theorem sEqB_cases {p q : SV} {k : Bool} (h : sEqB p q = some k) : (∃ x y, p = .v (.str x) ∧ q = .v (.str y) ∧ k = (x == y)) ∨ sEqA p q = some k := by
  unfold sEqB at h
  split at h
  · cases h; exact .inl ⟨_, _, rfl, rfl, rfl⟩
  · exact .inr h
def rEq5 (K : PySem.W.Frag) : R2 := fun x y H Q => (rEqD K x y H Q ∨ rEqL x y H Q) ∨ rEq x y H Q
def rNe5 (K : PySem.W.Frag) : R2 := fun x y H Q => (rNeD K x y H Q ∨ rNeL x y H Q) ∨ rNe x y H Q
theorem sEq_ok {K : PySem.W.Frag} : Bin2 mg sEq (rEq5 K) := by
  intro p q s x y H Lp Lq Q rp rq e h
  unfold sEq at e
  cases hk : sEqB p q with
  | none => rw [hk] at e; cases e
  | some k =>
    rw [hk] at e; cases e
    rcases sEqB_cases hk with ⟨i, j, rfl, rfl, rfl⟩ | hk
    · refine .inr ?_
      rw [show x = _ from rp.val, show y = _ from rq.val]
      exact ⟨rfl, by rw [dec_str]; exact does_bl h⟩
    refine .inl ?_
    rcases sEqA_cases hk with ⟨xs, ys, h1, h2, h3⟩ | ⟨d, e, h1, h2, h3, h4, h5⟩
    · obtain ⟨a, vs, rfl, ha, ra⟩ := rp.list h1
      obtain ⟨b, ws, rfl, hb, rb⟩ := rq.list h2
      have l1 := ra.length; have l2 := rb.length
      refine .inr ⟨a, b, vs, ws, rfl, rfl, ha, hb, ?_⟩
      rcases h3 with ⟨h3, rfl⟩ | ⟨rfl, rfl, rfl⟩
      · exact .inl ⟨by omega, does_bl h⟩
      · exact .inr ⟨List.eq_nil_of_length_eq_zero l1, List.eq_nil_of_length_eq_zero l2, does_bl h⟩
    · exact .inl ⟨d, e, rp.dp h1, rq.dp h2, h3, h4, by rw [← h5]; exact does_bl h⟩
theorem sNe_ok {K : PySem.W.Frag} : Bin2 mg sNe (rNe5 K) := by
  intro p q s x y H Lp Lq Q rp rq e h
  unfold sNe at e
  cases hk : sEqB p q with
  | none => rw [hk] at e; cases e
  | some k =>
    rw [hk] at e; cases e
    rcases sEqB_cases hk with ⟨i, j, rfl, rfl, rfl⟩ | hk
    · refine .inr ?_
      rw [show x = _ from rp.val, show y = _ from rq.val]
      exact ⟨rfl, by rw [dec_str]; exact does_bl h⟩
    refine .inl ?_
    rcases sEqA_cases hk with ⟨xs, ys, h1, h2, h3⟩ | ⟨d, e, h1, h2, h3, h4, h5⟩
    · obtain ⟨a, vs, rfl, ha, ra⟩ := rp.list h1
      obtain ⟨b, ws, rfl, hb, rb⟩ := rq.list h2
      have l1 := ra.length; have l2 := rb.length
      refine .inr ⟨a, b, vs, ws, rfl, rfl, ha, hb, ?_⟩
      rcases h3 with ⟨h3, rfl⟩ | ⟨rfl, rfl, rfl⟩
      · exact .inl ⟨by omega, does_bl h⟩
      · exact .inr ⟨List.eq_nil_of_length_eq_zero l1, List.eq_nil_of_length_eq_zero l2, does_bl h⟩
    · exact .inl ⟨d, e, rp.dp h1, rq.dp h2, h3, h4, by rw [← h5]; exact does_bl h⟩
/-! ### < <= > >= of ints -/
def sCmpI (f : Int → Int → Bool) (p q : SV) : Option SV := match p, q with
  | .v (.int i), .v (.int j) => some (.v (.bl (f i j)))
  | _, _ => none
theorem sCmpI_ok {f : Int → Int → Bool} : Bin2 mg (sCmpI f) (rI0 fun i j => .bl (f i j)) := by
  intro p q s x y H Lp Lq Q rp rq e h
  unfold sCmpI at e
  split at e
  · cases e; exact ⟨_, _, rp.val, rq.val, does_bl h⟩
  · cases e
/-! ### is, is not: None, bools -/
def isNon : SV → Bool
  | .v .non => true
  | _ => false
def sIs (p q : SV) : Option SV := match p, q with
  | p, .v .non => some (.v (.bl (isNon p)))
  | .v (.bl a), .v (.bl b) => some (.v (.bl (decide (a = b))))
  | _, _ => none
def sIsNot (p q : SV) : Option SV := match p, q with
  | p, .v .non => some (.v (.bl (!isNon p)))
  | .v (.bl a), .v (.bl b) => some (.v (.bl (!decide (a = b))))
  | _, _ => none
theorem RV.isNon {p : PV} {x : V} (r : RV mg H p x) : decide (x = .non) = Lt.isNon (.v p) := by
  cases p with
  | non => rw [show _ = _ from r]; rfl
  | bl _ => rw [show _ = _ from r]; rfl
  | int _ => rw [show _ = _ from r]; rfl
  | str _ => rw [show _ = _ from r]; rfl
  | tup _ => obtain ⟨a, _, vs, rfl, _⟩ := r; rfl
  | tmp _ => obtain ⟨a, vs, rfl, _⟩ := r; rfl
  | lst _ => obtain ⟨a, o, vs, rfl, _⟩ := r; rfl
  | dic _ _ => exact r.elim
  | glb s =>
    obtain ⟨a, _, rfl⟩ := r; rfl
  | ex0 _ => obtain ⟨a, _, _, rfl, _⟩ := r; rfl
  | ex1 _ _ _ => obtain ⟨a, _, _, _, _, _, rfl, _⟩ := r; rfl
theorem RS.isNon {s : SV} {x : V} {L : List Addr} (r : RS mg H s x L) : decide (x = .non) = Lt.isNon s := by
  cases r with
  | v q => exact q.isNon
  | l _ _ => rfl
  | d _ => rfl
  | r _ _ _ _ => rfl
  | o _ _ _ _ _ => rfl
def rIs2 : R2 := fun x y H Q => (y = .non ∧ Q (.bl (decide (x = .non))) H) ∨ rIsB x y H Q
def rIsNot2 : R2 := fun x y H Q => (y = .non ∧ Q (.bl (!decide (x = .non))) H) ∨ rNotB x y H Q
theorem sIs_ok : Bin2 mg sIs rIs2 := by
  intro p q s x y H Lp Lq Q rp rq e h
  unfold sIs at e
  split at e
  · cases e; exact .inl ⟨rq.val, by rw [rp.isNon]; exact does_bl h⟩
  · cases e; exact .inr ⟨_, _, rp.val, rq.val, does_bl h⟩
  · cases e
theorem sIsNot_ok : Bin2 mg sIsNot rIsNot2 := by
  intro p q s x y H Lp Lq Q rp rq e h
  unfold sIsNot at e
  split at e
  · cases e; exact .inl ⟨rq.val, by rw [rp.isNon]; exact does_bl h⟩
  · cases e; exact .inr ⟨_, _, rp.val, rq.val, does_bl h⟩
  · cases e
/-! ### in, not in -/
def sInB (p q : SV) : Option Bool := match dOf p, dOf q with
  | some d, some (.list ds) => if SeqAt.shaped d && SeqAt.shaped (.list ds) then some (ds.any fun z => PyData.eqv z d) else none
  | some d, some (.tuple ds) => if SeqAt.shaped d && SeqAt.shaped (.tuple ds) then some (ds.any fun z => PyData.eqv z d) else none
  | some (.str i), some (.str j) => some (!(Builtin.Str.occurrences j i 0 j.length 1).isEmpty)
  | _, _ => none
def sIn (p q : SV) : Option SV := (sInB p q).map fun b => .v (.bl b)
def sNotIn (p q : SV) : Option SV := (sInB p q).map fun b => .v (.bl !b)
def rInT (K : PySem.W.Frag) : R2 := fun x y H Q => ∃ d ds, Dp K H x d ∧ Dp K H y (.tuple ds) ∧ SeqAt.shaped d = true ∧ SeqAt.shaped (.tuple ds) = true ∧ Q (.bl (ds.any fun z => PyData.eqv z d)) H
def rNotInT (K : PySem.W.Frag) : R2 := fun x y H Q => ∃ d ds, Dp K H x d ∧ Dp K H y (.tuple ds) ∧ SeqAt.shaped d = true ∧ SeqAt.shaped (.tuple ds) = true ∧ Q (.bl (!ds.any fun z => PyData.eqv z d)) H
theorem op_inT (hu : X.A.units + 65 < cLine) : OpR X (compareOp .In) (rInT X.K) := by
  intro pins s σ H x y v u Q I rx ry h
  obtain ⟨d, ds, hd, he, sd, se, q⟩ := h
  obtain ⟨as, r1⟩ := Dp.reads I d x v hd rx
  obtain ⟨bs, r2⟩ := Dp.reads I (.tuple ds) y u he ry
  exact SeqAt.in_tuple_reads r2 r1 (SeqAt.canLay_of_shaped se) (SeqAt.canLay_of_shaped sd) (room_in_shaped sd hu) ⟨.bl _, H, I, rfl, q⟩
theorem op_notInT (hu : X.A.units + 65 < cLine) : OpR X (compareOp .NotIn) (rNotInT X.K) := by
  intro pins s σ H x y v u Q I rx ry h
  obtain ⟨d, ds, hd, he, sd, se, q⟩ := h
  obtain ⟨as, r1⟩ := Dp.reads I d x v hd rx
  obtain ⟨bs, r2⟩ := Dp.reads I (.tuple ds) y u he ry
  exact SeqAt.notIn_tuple_reads r2 r1 (SeqAt.canLay_of_shaped se) (SeqAt.canLay_of_shaped sd) (room_in_shaped sd hu) ⟨.bl _, H, I, rfl, q⟩
theorem sInB_cases {p q : SV} {k : Bool} (h : sInB p q = some k) : (∃ d ds, dOf p = some d ∧ dOf q = some (.list ds) ∧ SeqAt.shaped d = true ∧ SeqAt.shaped (.list ds) = true ∧ k = ds.any fun z => PyData.eqv z d) ∨
    (∃ d ds, dOf p = some d ∧ dOf q = some (.tuple ds) ∧ SeqAt.shaped d = true ∧ SeqAt.shaped (.tuple ds) = true ∧ k = ds.any fun z => PyData.eqv z d) ∨
    ∃ i j, dOf p = some (.str i) ∧ dOf q = some (.str j) ∧ k = !(Builtin.Str.occurrences j i 0 j.length 1).isEmpty := by
  unfold sInB at h
  split at h
  · rename_i d ds h1 h2
    split at h
    · rename_i hs; rw [Bool.and_eq_true] at hs; cases h; exact .inl ⟨d, ds, h1, h2, hs.1, hs.2, rfl⟩
    · cases h
  · rename_i d ds h1 h2
    split at h
    · rename_i hs; rw [Bool.and_eq_true] at hs; cases h; exact .inr (.inl ⟨d, ds, h1, h2, hs.1, hs.2, rfl⟩)
    · cases h
  · rename_i i j h1 h2
    cases h; exact .inr (.inr ⟨i, j, h1, h2, rfl⟩)
  · cases h
theorem Dp.str_eq {K : PySem.W.Frag} {x : V} {i : Str} (h : Dp K H x (.str i)) : x = .str i := by cases h; rfl
def rIn3 (K : PySem.W.Frag) : R2 := fun x y H Q => rInD K x y H Q ∨ (rInT K x y H Q ∨ ∃ i j, x = .str i ∧ y = .str j ∧ Q (.bl (!(Builtin.Str.occurrences j i 0 j.length 1).isEmpty)) H)
def rNotIn3 (K : PySem.W.Frag) : R2 := fun x y H Q => rNotInD K x y H Q ∨ (rNotInT K x y H Q ∨ ∃ i j, x = .str i ∧ y = .str j ∧ Q (.bl (!(!(Builtin.Str.occurrences j i 0 j.length 1).isEmpty))) H)
theorem sIn_ok {K : PySem.W.Frag} : Bin2 mg sIn (rIn3 K) := by
  intro p q s x y H Lp Lq Q rp rq e h
  unfold sIn at e
  cases hk : sInB p q with
  | none => rw [hk] at e; cases e
  | some k =>
    rw [hk] at e; cases e
    rcases sInB_cases hk with ⟨d, ds, h1, h2, h3, h4, h5⟩ | ⟨d, ds, h1, h2, h3, h4, h5⟩ | ⟨i, j, h1, h2, h5⟩
    · exact .inl ⟨d, ds, rp.dp h1, rq.dp h2, h3, h4, by rw [← h5]; exact does_bl h⟩
    · exact .inr (.inl ⟨d, ds, rp.dp h1, rq.dp h2, h3, h4, by rw [← h5]; exact does_bl h⟩)
    · exact .inr (.inr ⟨i, j, Dp.str_eq (K := K) (rp.dp h1), Dp.str_eq (K := K) (rq.dp h2), by rw [← h5]; exact does_bl h⟩)
theorem sNotIn_ok {K : PySem.W.Frag} : Bin2 mg sNotIn (rNotIn3 K) := by
  intro p q s x y H Lp Lq Q rp rq e h
  unfold sNotIn at e
  cases hk : sInB p q with
  | none => rw [hk] at e; cases e
  | some k =>
    rw [hk] at e; cases e
    rcases sInB_cases hk with ⟨d, ds, h1, h2, h3, h4, h5⟩ | ⟨d, ds, h1, h2, h3, h4, h5⟩ | ⟨i, j, h1, h2, h5⟩
    · exact .inl ⟨d, ds, rp.dp h1, rq.dp h2, h3, h4, by rw [← h5]; exact does_bl h⟩
    · exact .inr (.inl ⟨d, ds, rp.dp h1, rq.dp h2, h3, h4, by rw [← h5]; exact does_bl h⟩)
    · exact .inr (.inr ⟨i, j, Dp.str_eq (K := K) (rp.dp h1), Dp.str_eq (K := K) (rq.dp h2), by rw [← h5]; exact does_bl h⟩)
/-! ### the comparisons -/
def sCmp : CmpOp → Option (SV → SV → Option SV)
  | .Eq => some sEq
  | .NotEq => some sNe
  | .Lt => some (sCmpI fun i j => decide (i < j))
  | .LtE => some (sCmpI fun i j => decide (i ≤ j))
  | .Gt => some (sCmpI fun i j => decide (j < i))
  | .GtE => some (sCmpI fun i j => decide (j ≤ i))
  | .Is => some sIs
  | .IsNot => some sIsNot
  | .In => some sIn
  | .NotIn => some sNotIn
/-- the rule of a comparison -/
theorem cmp_rule {op : CmpOp} {f : SV → SV → Option SV} (hop : sCmp op = some f) (hu : X.A.units + 65 < cLine) : ∃ r, OpR X (compareOp op) r ∧ Bin2 X.mg f r := by
  cases op with
  | Eq => cases hop; exact ⟨_, ((op_eqD (by omega)).or (op_eqL (by omega))).or op_eq, sEq_ok⟩
  | NotEq => cases hop; exact ⟨_, ((op_neD (by omega)).or (op_neL (by omega))).or op_ne, sNe_ok⟩
  | Lt => cases hop; exact ⟨_, op_lt, sCmpI_ok⟩
  | LtE => cases hop; exact ⟨_, op_le, sCmpI_ok⟩
  | Gt => cases hop; exact ⟨_, op_gt, sCmpI_ok⟩
  | GtE => cases hop; exact ⟨_, op_ge, sCmpI_ok⟩
  | Is => cases hop; exact ⟨_, op_isN.or op_isBl, sIs_ok⟩
  | IsNot => cases hop; exact ⟨_, op_notN.or op_notBl, sIsNot_ok⟩
  | In => cases hop; exact ⟨_, (op_inD hu).or ((op_inT hu).or op_in_str), sIn_ok⟩
  | NotIn => cases hop; exact ⟨_, (op_notInD hu).or ((op_notInT hu).or op_notin_str), sNotIn_ok⟩
def isSet : Expr → Bool
  | .Set .. => true
  | _ => false
theorem noMarks {op : CmpOp} {b : Expr} (h : isSet b = false) : behindInMarks op b = false := by
  cases b <;> first | rfl | exact Bool.noConfusion h
theorem gO_cmp {op : CmpOp} {ca cb : Loc → Rs OV} {f : SV → SV → Option SV} {pos : Pos} (hop : sCmp op = some f) (hu : X.A.units + 65 < cLine) (hset : isSet b = false) (ha : GO m X W a ca) (hb : GO mb X W b cb) (hm : mb = true → m = true) (hf : mb = true → NoFd ca) :
    GO m X W (.Compare a [op] [b] pos) (bin2 f ca cb) := by
  obtain ⟨r, h1, h2⟩ := cmp_rule hop hu
  exact gO_bin2 (fun ta tb pa pb => pe_cmpR h1 pa pb (noMarks hset)) h2 ha hb hm hf
end Lt
set_option maxHeartbeats 1000000
/-! LtF: tests, conditional and boolean expressions, constants, names, displays, subscripts. -/
namespace Lt
open PySem PySem.Spec L2
open PyProof.Rows hiding St
variable {mg : Str → Option Value} {X : Cx} {W : WX} {e a b : Expr} {m mb m' : Bool} {H : Hp}

def DT (m : Bool) (mg : Str → Option Value) (W : WX) (c : Loc → Rs Bool) (t : TT) : Prop := ∀ ρ σ H L Q, RL mg H ρ σ L → PoT mg m W H L ρ σ Q (c ρ) → t σ H Q
def tstV (c : Loc → Rs OV) : Loc → Rs Bool := bindR c fun x ρ => match x.get ρ with
  | some (.v (.bl b)) => .ok b ρ
  | _ => .no
theorem dT_of {c : Loc → Rs OV} {t : TE} (h : DO m mg W c t) : DT m mg W (tstV c) (fun σ H Q => t σ H fun x H1 => ∃ k, x = .bl k ∧ Q k H1) := by
  intro ρ σ H L Q rl po
  refine h ρ σ H L _ rl ?_
  unfold tstV bindR at po
  cases hc : c ρ with
  | no => rw [hc] at po; exact po
  | ex x ρ1 => rw [hc] at po; exact po
  | ok ov ρ1 =>
    rw [hc] at po
    intro v H1 Lt L1 ro aft dj sb hρ
    dsimp only at po
    split at po
    · rename_i k hg
      obtain ⟨Ls, rs, _⟩ := ro.get aft.rl hg
      exact ⟨k, rs.val, po H1 L1 aft hρ⟩
    · exact po.elim
theorem gT_val {c : Loc → Rs OV} (ha : GO m X W e c) (he : ∀ whole, isTrue e X.env whole = (do let v ← whole; standAt e.pos; holding [v] (truthy v))) : GT m X W e (tstV c) :=
  let ⟨t, p, g⟩ := ha
  ⟨_, pt_val p he, dT_of g⟩
theorem gT_cmp {op : CmpOp} {ca cb : Loc → Rs OV} {f : SV → SV → Option SV} {pos : Pos} (hop : sCmp op = some f) (hu : X.A.units + 65 < cLine) (hset : isSet b = false) (ha : GO m X W a ca) (hb : GO mb X W b cb) (hm : mb = true → m = true) (hf : mb = true → NoFd ca) :
    GT m X W (.Compare a [op] [b] pos) (tstV (bin2 f ca cb)) := by
  obtain ⟨r, h1, h2⟩ := cmp_rule hop hu
  obtain ⟨ta, pa, ga⟩ := ha
  obtain ⟨tb, pb, gb⟩ := hb
  exact ⟨_, pt_cmpR h1 pa pb (noMarks hset), dT_of (dO_bin2 h2 ga gb hm hf)⟩
/-! ### not, and, or -/
def notT (c : Loc → Rs Bool) : Loc → Rs Bool := bindR c fun b ρ => .ok (!b) ρ
def andT (c d : Loc → Rs Bool) : Loc → Rs Bool := bindR c fun b => if b = true then d else fun ρ => .ok false ρ
def orT (c d : Loc → Rs Bool) : Loc → Rs Bool := bindR c fun b => if b = true then fun ρ => .ok true ρ else d
theorem dT_not {c : Loc → Rs Bool} {t : TT} (h : DT m mg W c t) : DT m mg W (notT c) (tNot t) := by
  intro ρ σ H L Q rl po
  refine h ρ σ H L _ rl ?_
  unfold notT bindR at po
  cases hc : c ρ with
  | no => rw [hc] at po; exact po
  | ex x ρ1 => rw [hc] at po; exact po
  | ok k ρ1 => rw [hc] at po; exact po
theorem PoT.after {H H1 : Hp} {L L1 : List Addr} {ρ ρ1 : Loc} {σ : St} {Q : Bool → Hp → Prop} {r : Rs Bool} (aft : Aft mg m H L ρ1 σ H1 L1) (hρ : m = false → ρ1 = ρ) (q : PoT mg m W H L ρ σ Q r) : PoT mg m W H1 L1 ρ1 σ Q r := by
  cases r with
  | no => exact q
  | ex x ρ2 => exact fun cls d H' L' r a2 => q cls d H' L' r (aft.trans a2)
  | ok k ρ2 => exact fun H' L' a2 h2 => q H' L' (aft.trans a2) fun z => (h2 z).trans (hρ z)
theorem PoO.after {H H1 : Hp} {L L1 : List Addr} {ρ ρ1 : Loc} {σ : St} {Q : VK} {r : Rs OV} (aft : Aft mg m H L ρ1 σ H1 L1) (hρ : m = false → ρ1 = ρ) (q : PoO mg m W H L ρ σ Q r) : PoO mg m W H1 L1 ρ1 σ Q r := by
  cases r with
  | no => exact q
  | ex x ρ2 => exact fun cls d H' L' r a2 => q cls d H' L' r (aft.trans a2)
  | ok k ρ2 => exact fun v H' Lt L' ro a2 dj sb h2 => q v H' Lt L' ro (aft.trans a2) dj (Sub.trans aft.st aft.sb sb) fun z => (h2 z).trans (hρ z)
theorem dT_and {c d : Loc → Rs Bool} {t u : TT} (h1 : DT m mg W c t) (h2 : DT m mg W d u) : DT m mg W (andT c d) (tAnd t u) := by
  intro ρ σ H L Q rl po
  refine h1 ρ σ H L _ rl ?_
  unfold andT bindR at po
  cases hc : c ρ with
  | no => rw [hc] at po; exact po
  | ex x ρ1 => rw [hc] at po; exact po
  | ok k ρ1 =>
    rw [hc] at po
    intro H1 L1 aft hρ
    dsimp only at po
    by_cases hk : k = true
    · rw [if_pos hk] at po ⊢
      exact h2 ρ1 σ H1 L1 Q aft.rl (po.after aft hρ)
    · rw [if_neg hk] at po ⊢
      exact po H1 L1 aft hρ
theorem dT_or {c d : Loc → Rs Bool} {t u : TT} (h1 : DT m mg W c t) (h2 : DT m mg W d u) : DT m mg W (orT c d) (tOr t u) := by
  intro ρ σ H L Q rl po
  refine h1 ρ σ H L _ rl ?_
  unfold orT bindR at po
  cases hc : c ρ with
  | no => rw [hc] at po; exact po
  | ex x ρ1 => rw [hc] at po; exact po
  | ok k ρ1 =>
    rw [hc] at po
    intro H1 L1 aft hρ
    dsimp only at po
    by_cases hk : k = true
    · rw [if_pos hk] at po ⊢
      exact po H1 L1 aft hρ
    · rw [if_neg hk] at po ⊢
      exact h2 ρ1 σ H1 L1 Q aft.rl (po.after aft hρ)
theorem gT_not {c : Loc → Rs Bool} {pos : Pos} (h : GT m X W a c) : GT m X W (.UnaryOp .Not a pos) (notT c) :=
  let ⟨t, p, g⟩ := h
  ⟨_, pt_not p, dT_not g⟩
/-- a BoolOp's test, whatever its whole -/
def GW (m : Bool) (X : Cx) (W : WX) (e : Expr) (c : Loc → Rs Bool) : Prop := ∃ t, PW X e t ∧ DT m X.mg W c t
theorem GW.gt {c : Loc → Rs Bool} (h : GW m X W e c) : GT m X W e c := let ⟨t, p, g⟩ := h; ⟨t, p.pt, g⟩
theorem gW_and1 {c : Loc → Rs Bool} {pos : Pos} (h : GT m X W a c) : GW m X W (.BoolOp .And [a] pos) c := let ⟨t, p, g⟩ := h; ⟨t, pw_and1 p, g⟩
theorem gW_or1 {c : Loc → Rs Bool} {pos : Pos} (h : GT m X W a c) : GW m X W (.BoolOp .Or [a] pos) c := let ⟨t, p, g⟩ := h; ⟨t, pw_or1 p, g⟩
theorem gW_and {c d : Loc → Rs Bool} {rest : List Expr} {pos : Pos} (h1 : GT m X W a c) (h2 : GW m X W (.BoolOp .And (b :: rest) pos) d) : GW m X W (.BoolOp .And (a :: b :: rest) pos) (andT c d) :=
  let ⟨t, p, g⟩ := h1; let ⟨u, q, k⟩ := h2; ⟨_, pw_and p q, dT_and g k⟩
theorem gW_or {c d : Loc → Rs Bool} {rest : List Expr} {pos : Pos} (h1 : GT m X W a c) (h2 : GW m X W (.BoolOp .Or (b :: rest) pos) d) : GW m X W (.BoolOp .Or (a :: b :: rest) pos) (orT c d) :=
  let ⟨t, p, g⟩ := h1; let ⟨u, q, k⟩ := h2; ⟨_, pw_or p q, dT_or g k⟩
/-! ### .. as values -/
def valT (c : Loc → Rs Bool) : Loc → Rs OV := bindR c fun b ρ => .ok (.tm (.v (.bl b))) ρ
def andV (c : Loc → Rs Bool) (d : Loc → Rs OV) : Loc → Rs OV := bindR c fun b => if b = true then d else fun ρ => .ok (.tm (.v (.bl false))) ρ
def orV (c : Loc → Rs Bool) (d : Loc → Rs OV) : Loc → Rs OV := bindR c fun b => if b = true then fun ρ => .ok (.tm (.v (.bl true))) ρ else d
def ifV (c : Loc → Rs Bool) (d f : Loc → Rs OV) : Loc → Rs OV := bindR c fun b => if b = true then d else f
theorem po_val {H H1 : Hp} {L L1 : List Addr} {ρ ρ1 : Loc} {σ : St} {Q : VK} {p : PV} {x : V} (r : RV mg H1 p x) (aft : Aft mg m H L ρ1 σ H1 L1) (hρ : m = false → ρ1 = ρ) (q : PoO mg m W H L ρ σ Q (.ok (.tm (.v p)) ρ1)) : Q x H1 :=
  q x H1 [] L1 (.v r) aft (fun _ h => nomatch h) (fun _ h => nomatch h) hρ
theorem dO_notV {c : Loc → Rs OV} {t : TE} (h1 : DO m mg W c t) : DO m mg W (valT (notT (tstV c))) (tNotV t) := by
  intro ρ σ H L Q rl po
  refine dT_of h1 ρ σ H L (fun k H' => Q (.bl !k) H') rl ?_
  unfold valT notT bindR at po
  cases hc : tstV c ρ with
  | no => rw [hc] at po; exact po
  | ex x ρ1 => rw [hc] at po; exact po
  | ok k ρ1 =>
    rw [hc] at po
    intro H1 L1 aft hρ
    exact po_val (p := .bl !k) rfl aft hρ po
theorem dO_andV {c d : Loc → Rs OV} {t u : TE} (h1 : DO m mg W c t) (h2 : DO m mg W d u) : DO m mg W (andV (tstV c) d) (tAndV t u) := by
  intro ρ σ H L Q rl po
  refine dT_of h1 ρ σ H L (fun k H1 => if k = true then u σ H1 Q else Q (.bl false) H1) rl ?_
  unfold andV bindR at po
  cases hc : tstV c ρ with
  | no => rw [hc] at po; exact po
  | ex x ρ1 => rw [hc] at po; exact po
  | ok k ρ1 =>
    rw [hc] at po
    intro H1 L1 aft hρ
    dsimp only at po
    by_cases hk : k = true
    · rw [if_pos hk] at po ⊢
      exact h2 ρ1 σ H1 L1 Q aft.rl (po.after aft hρ)
    · rw [if_neg hk] at po ⊢
      exact po_val (p := .bl false) rfl aft hρ po
theorem dO_orV {c d : Loc → Rs OV} {t u : TE} (h1 : DO m mg W c t) (h2 : DO m mg W d u) : DO m mg W (orV (tstV c) d) (tOrV t u) := by
  intro ρ σ H L Q rl po
  refine dT_of h1 ρ σ H L (fun k H1 => if k = true then Q (.bl true) H1 else u σ H1 Q) rl ?_
  unfold orV bindR at po
  cases hc : tstV c ρ with
  | no => rw [hc] at po; exact po
  | ex x ρ1 => rw [hc] at po; exact po
  | ok k ρ1 =>
    rw [hc] at po
    intro H1 L1 aft hρ
    dsimp only at po
    by_cases hk : k = true
    · rw [if_pos hk] at po ⊢
      exact po_val (p := .bl true) rfl aft hρ po
    · rw [if_neg hk] at po ⊢
      exact h2 ρ1 σ H1 L1 Q aft.rl (po.after aft hρ)
theorem dO_if {c : Loc → Rs Bool} {d f : Loc → Rs OV} {t : TT} {u v : TE} (h1 : DT m mg W c t) (h2 : DO m mg W d u) (h3 : DO m mg W f v) : DO m mg W (ifV c d f) (tIf t u v) := by
  intro ρ σ H L Q rl po
  refine h1 ρ σ H L _ rl ?_
  unfold ifV bindR at po
  cases hc : c ρ with
  | no => rw [hc] at po; exact po
  | ex x ρ1 => rw [hc] at po; exact po
  | ok k ρ1 =>
    rw [hc] at po
    intro H1 L1 aft hρ
    dsimp only at po
    by_cases hk : k = true
    · rw [if_pos hk] at po ⊢
      exact h2 ρ1 σ H1 L1 Q aft.rl (po.after aft hρ)
    · rw [if_neg hk] at po ⊢
      exact h3 ρ1 σ H1 L1 Q aft.rl (po.after aft hρ)
theorem gO_not {c : Loc → Rs OV} {pos : Pos} (h : GO m X W a c) : GO m X W (.UnaryOp .Not a pos) (valT (notT (tstV c))) := let ⟨t, p, g⟩ := h; ⟨_, pe_not p, dO_notV g⟩
theorem gO_one {c : Loc → Rs OV} {op : BoolOp} {pos : Pos} (h : GO m X W a c) : GO m X W (.BoolOp op [a] pos) c := let ⟨t, p, g⟩ := h; ⟨_, pe_one p, g⟩
theorem gO_and {c d : Loc → Rs OV} {rest : List Expr} {pos : Pos} (h1 : GO m X W a c) (h2 : GO m X W (.BoolOp .And (b :: rest) pos) d) : GO m X W (.BoolOp .And (a :: b :: rest) pos) (andV (tstV c) d) :=
  let ⟨t, p, g⟩ := h1; let ⟨u, q, k⟩ := h2; ⟨_, pe_and p q, dO_andV g k⟩
theorem gO_or {c d : Loc → Rs OV} {rest : List Expr} {pos : Pos} (h1 : GO m X W a c) (h2 : GO m X W (.BoolOp .Or (b :: rest) pos) d) : GO m X W (.BoolOp .Or (a :: b :: rest) pos) (orV (tstV c) d) :=
  let ⟨t, p, g⟩ := h1; let ⟨u, q, k⟩ := h2; ⟨_, pe_or p q, dO_orV g k⟩
theorem gO_if {c : Loc → Rs Bool} {d f : Loc → Rs OV} {t : Expr} {pos : Pos} (h1 : GT m X W t c) (h2 : GO m X W a d) (h3 : GO m X W b f) : GO m X W (.IfExp t a b pos) (ifV c d f) :=
  let ⟨_, p, g⟩ := h1; let ⟨_, q, k⟩ := h2; let ⟨_, q2, k2⟩ := h3; ⟨_, pe_ifExp p q q2, dO_if g k k2⟩
/-! ### a op1 b op2 c -/
def chn (f g : SV → SV → Option SV) (ca cb cc : Loc → Rs OV) : Loc → Rs OV := bindR ca fun x => bindR cb fun y ρ => match x.get ρ, y.get ρ with
  | some p, some q => match f p q with
    | some (.v (.bl true)) => bindR cc (fun z ρ' => opt (y.get ρ') fun q' => opt (z.get ρ') fun r => opt (g q' r) fun s => .ok (.tm s) ρ') ρ
    | some (.v (.bl false)) => .ok (.tm (.v (.bl false))) ρ
    | _ => .no
  | _, _ => .no
theorem dO_chn {f g : SV → SV → Option SV} {ca cb cc : Loc → Rs OV} {r r' : R2} {ta tb tc : TE} (hs : Bin2 mg f r) (hs' : Bin2 mg g r') (ga : DO m mg W ca ta) (gb : DO m mg W cb tb) (gc : DO m mg W cc tc) (hf : m = true → NoFd ca) (hf' : m = true → NoFd cb) : DO m mg W (chn f g ca cb cc) (tChain r r' ta tb tc) := by
  refine fun ρ σ H L Q rl po => ga ρ σ H L _ rl ?_
  unfold chn at po
  unfold bindR at po
  cases hc : ca ρ with
  | no => rw [hc] at po; exact po
  | ex x ρ1 => rw [hc] at po; exact po
  | ok ov ρ1 =>
    rw [hc] at po
    intro v H1 Lt L1 ro aft dj sb hρ
    refine gb ρ1 σ H1 L1 _ aft.rl ?_
    dsimp only at po
    cases hd : cb ρ1 with
    | no => rw [hd] at po; exact po
    | ex x ρ2 => rw [hd] at po; exact ex_then aft id po
    | ok ov2 ρ2 =>
      rw [hd] at po
      intro y H2 Lt2 L2 ro2 aft2 dj2 sb2 hρ2
      have ro' := ro.stay aft2.st dj fun z i k => hf z ρ ov ρ1 hc i k
      dsimp only at po
      have hρ12 : m = false → ρ2 = ρ := fun z => (hρ2 z).trans (hρ z)
      have aft12 := aft.trans aft2
      cases e1 : ov.get ρ2 with
      | none => rw [e1] at po; exact po.elim
      | some p =>
        cases e2 : ov2.get ρ2 with
        | none => rw [e1, e2] at po; exact po.elim
        | some q =>
          rw [e1, e2] at po
          dsimp only at po
          obtain ⟨Ls, rs, _⟩ := ro'.get aft2.rl e1
          obtain ⟨Ls2, rs2, _⟩ := ro2.get aft2.rl e2
          split at po
          · rename_i hk
            refine hs p q _ v y H2 Ls Ls2 _ rs rs2 hk fun z H3 Lt3 rz kp nw => ?_
            refine ⟨true, rz.val, ?_⟩
            rw [if_pos rfl]
            have aft3 : Aft mg m H L ρ2 σ H3 L2 := ⟨aft2.rl.stay (fun b o e _ => kp b o e) fun b _ o e => kp b o e, fun b o e c => kp b o (aft12.st b o e c), aft12.sb⟩
            have ro2' : RO mg H3 σ ov2 y Lt2 := ro2.stay (m := false) (L := []) (fun b o e _ => kp b o e) (fun _ _ h => nomatch h) (fun z => nomatch z)
            refine gc ρ2 σ H3 L2 _ aft3.rl ?_
            cases he : cc ρ2 with
            | no => rw [he] at po; exact po
            | ex x ρ3 => rw [he] at po; exact ex_then aft3 id po
            | ok ov3 ρ3 =>
              rw [he] at po
              intro w H4 Lt4 L4 ro4 aft4 dj4 sb4 hρ4
              obtain ⟨q', e3, po⟩ := no_opt po
              obtain ⟨r, e4, po⟩ := no_opt po
              obtain ⟨s, e5, po⟩ := no_opt po
              have ro2'' := ro2'.stay aft4.st dj2 fun z i k => hf' z ρ1 ov2 ρ2 hd i k
              obtain ⟨Ls5, rs5, _⟩ := ro2''.get aft4.rl e3
              obtain ⟨Ls6, rs6, _⟩ := ro4.get aft4.rl e4
              exact hs' q' r s y w H4 Ls5 Ls6 Q rs5 rs6 e5 (does_of (aft3.trans aft4) (fun z => (hρ4 z).trans (hρ12 z)) po)
          · rename_i hk
            refine hs p q _ v y H2 Ls Ls2 _ rs rs2 hk fun z H3 Lt3 rz kp nw => ?_
            refine ⟨false, rz.val, ?_⟩
            rw [if_neg Bool.false_ne_true]
            have aft3 : Aft mg m H L ρ2 σ H3 L2 := ⟨aft2.rl.stay (fun b o e _ => kp b o e) fun b _ o e => kp b o e, fun b o e c => kp b o (aft12.st b o e c), aft12.sb⟩
            exact po_val (p := .bl false) rfl aft3 hρ12 po
          · exact po.elim
theorem last_noMarks {op op' : CmpOp} {b c : Expr} (h : isSet c = false) : lastMarks [op, op'] [b, c] = false := noMarks h
theorem gO_chain {op op' : CmpOp} {f g : SV → SV → Option SV} {ca cb cc : Loc → Rs OV} {c : Expr} {pos : Pos} (hop : sCmp op = some f) (hop' : sCmp op' = some g) (hu : X.A.units + 65 < cLine) (hset : isSet c = false) (ha : GO m X W a ca) (hb : GO m X W b cb) (hc : GO m X W c cc)
    (hf : m = true → NoFd ca) (hf' : m = true → NoFd cb) : GO m X W (.Compare a [op, op'] [b, c] pos) (chn f g ca cb cc) := by
  obtain ⟨r, h1, h2⟩ := cmp_rule (X := X) hop hu
  obtain ⟨r', h1', h2'⟩ := cmp_rule (X := X) hop' hu
  obtain ⟨ta, pa, ga⟩ := ha
  obtain ⟨tb, pb, gb⟩ := hb
  obtain ⟨tc, pc, gc⟩ := hc
  exact ⟨_, pe_chain h1 h1' pa pb pc (last_noMarks hset), dO_chn h2 h2' ga gb gc hf hf'⟩
theorem gT_chain {op op' : CmpOp} {f g : SV → SV → Option SV} {ca cb cc : Loc → Rs OV} {c : Expr} {pos : Pos} (hop : sCmp op = some f) (hop' : sCmp op' = some g) (hu : X.A.units + 65 < cLine) (hset : isSet c = false) (ha : GO m X W a ca) (hb : GO m X W b cb) (hc : GO m X W c cc)
    (hf : m = true → NoFd ca) (hf' : m = true → NoFd cb) : GT m X W (.Compare a [op, op'] [b, c] pos) (tstV (chn f g ca cb cc)) := by
  obtain ⟨r, h1, h2⟩ := cmp_rule (X := X) hop hu
  obtain ⟨r', h1', h2'⟩ := cmp_rule (X := X) hop' hu
  obtain ⟨ta, pa, ga⟩ := ha
  obtain ⟨tb, pb, gb⟩ := hb
  obtain ⟨tc, pc, gc⟩ := hc
  exact ⟨_, pt_chain h1 h1' pa pb pc (last_noMarks hset), dT_of (dO_chn h2 h2' ga gb gc hf hf')⟩
end Lt
set_option maxHeartbeats 1000000
/-! LtG: constants, names, displays, subscripts, slices, built-in calls. -/
namespace Lt
open PySem PySem.Spec L2
open PyProof.Rows hiding St
variable {mg : Str → Option Value} {X : Cx} {W : WX} {e a b : Expr} {m mb m' : Bool} {H : Hp}

/-! ### constants, names -/
def konst (p : PV) : Loc → Rs OV := fun ρ => .ok (.tm (.v p)) ρ
theorem dO_konst {p : PV} {x : V} (r : ∀ H, RV mg H p x) : DO m mg W (konst p) (tC x) := fun ρ σ H L Q rl po => po_val (r H) (.refl rl) (fun _ => rfl) po
theorem gO_int {i : Int} {j pos} : GO m X W (.Constant (.int i) j pos) (konst (.int i)) := ⟨_, pe_int, dO_konst fun _ => rfl⟩
theorem gO_bl {i : Bool} {j pos} : GO m X W (.Constant (.bool i) j pos) (konst (.bl i)) := ⟨_, pe_bl, dO_konst fun _ => rfl⟩
theorem gO_non {j pos} : GO m X W (.Constant .none j pos) (konst .non) := ⟨_, pe_non, dO_konst fun _ => rfl⟩
theorem gO_str {x : Str} {j pos} : GO m X W (.Constant (.str x) j pos) (konst (.str x)) := ⟨_, pe_str, dO_konst fun _ => rfl⟩
def varO (i : Nat) : Loc → Rs OV := fun ρ => match ρ[i]? with
  | some (some _) => .ok (.sl i) ρ
  | _ => .no
theorem gO_var {i : Nat} {x : Str} {pos : Pos} (hN : X.N[i]? = some x) (hv : Vis X.env.scope x) (hd : (x == ("__debug__" : Str)) = false) (hcd : (x == ("__classdict__" : Str)) = false) : GO m X W (.Name x pos) (varO i) := by
  refine ⟨_, pe_var hN hv hd hcd, fun ρ σ H L Q rl po => ?_⟩
  unfold varO at po
  split at po
  · rename_i s hs
    obtain ⟨x, Ls, Lr, h1, h2, _⟩ := rl.get hs
    exact ⟨x, h1, po x H [] L ⟨h1, rfl⟩ (.refl rl) (fun _ h => nomatch h) (fun _ h => nomatch h) fun _ => rfl⟩
  · exact po.elim
/-- a scalar of the module's -/
def relC : PV → Value → Prop
  | .int i, u => ∃ t, u = .int i t
  | .str x, u => ∃ t, u = .str x t
  | .glb _, u => ∃ a, u = .ref a
  | _, _ => False
theorem gO_glob {p : PV} {u : Value} {x : Str} {pos : Pos} (hg : Gl X x) (hm : X.mg x = some u) (r : relC p u) (hp : ∀ s, p = .glb s → s = x) (hd : (x == ("__debug__" : Str)) = false) : GO m X W (.Name x pos) (konst p) := by
  cases p with
  | int i => obtain ⟨t, rfl⟩ := r; exact ⟨_, pe_glob (v := .int i) hg hm ⟨t, rfl⟩ hd, dO_konst fun _ => rfl⟩
  | str i => obtain ⟨t, rfl⟩ := r; exact ⟨_, pe_glob (v := .str i) hg hm ⟨t, rfl⟩ hd, dO_konst fun _ => rfl⟩
  | glb s => obtain ⟨a, rfl⟩ := r; exact ⟨_, pe_glob (v := .ref a) hg hm rfl hd, dO_konst fun _ => ⟨a, by rw [hp s rfl]; exact hm, rfl⟩⟩
  | _ => exact r.elim
/-! ### displays -/
def seqP : List (Loc → Rs PV) → Loc → Rs (List PV)
  | [] => fun ρ => .ok [] ρ
  | c :: cs => bindR c fun x => bindR (seqP cs) fun xs ρ => .ok (x :: xs) ρ
theorem seqP_length : ∀ {cs : List (Loc → Rs PV)} {ρ ρ' : Loc} {ps : List PV}, seqP cs ρ = .ok ps ρ' → ps.length = cs.length
  | [], _, _, _, h => by cases h; rfl
  | c :: cs, ρ, ρ', ps, h => by
    unfold seqP bindR at h
    cases hc : c ρ with
    | no => rw [hc] at h; cases h
    | ex x ρ1 => rw [hc] at h; cases h
    | ok p ρ1 =>
      rw [hc] at h
      dsimp only at h
      cases hd : seqP cs ρ1 with
      | no => rw [hd] at h; cases h
      | ex x ρ1 => rw [hd] at h; cases h
      | ok qs ρ2 => rw [hd] at h; cases h; rw [List.length_cons, List.length_cons, seqP_length hd]
def PoPs (mg : Str → Option Value) (W : WX) (H : Hp) (L : List Addr) (ρ : Loc) (σ : St) (Q : List V → Hp → Prop) : Rs (List PV) → Prop
  | .ok p ρ' => ∀ v H' L', RVs mg H' p v → Aft mg true H L ρ' σ H' L' → Q v H'
  | .ex x ρ' => ∀ cls d H' L', RX mg H' x cls d → Aft mg true H L ρ' σ H' L' → W cls d σ H'
  | .no => False
def GPs (X : Cx) (W : WX) (es : List Expr) (c : Loc → Rs (List PV)) : Prop :=
  ∃ t, PA X es t ∧ ∀ ρ σ H L Q, RL X.mg H ρ σ L → PoPs X.mg W H L ρ σ Q (c ρ) → t σ H Q
theorem gPs_nil : GPs X W [] (seqP []) := ⟨_, pa_nil, fun ρ σ H L Q rl po => po [] H L .nil (.refl rl)⟩
theorem gPs_cons {c : Loc → Rs PV} {cs : List (Loc → Rs PV)} {es : List Expr} (ha : GP X W e c) (hb : GPs X W es (seqP cs)) (hst : isStar e = false) : GPs X W (e :: es) (seqP (c :: cs)) := by
  obtain ⟨ta, pa, ga⟩ := ha
  obtain ⟨tb, pb, gb⟩ := hb
  refine ⟨_, pa_cons pa pb (starEach_cons hst), fun ρ σ H L Q rl po => ga ρ σ H L _ rl ?_⟩
  unfold seqP at po
  unfold bindR at po
  cases hc : c ρ with
  | no => rw [hc] at po; exact po
  | ex x ρ1 => rw [hc] at po; exact po
  | ok p ρ1 =>
    rw [hc] at po
    intro v H1 L1 rv aft
    refine gb ρ1 σ H1 L1 _ aft.rl ?_
    dsimp only at po
    cases hd : seqP cs ρ1 with
    | no => rw [hd] at po; exact po
    | ex x ρ2 => rw [hd] at po; exact fun cls d H' L' r a2 => po cls d H' L' r (aft.trans a2)
    | ok ps ρ2 =>
      rw [hd] at po
      intro vs H2 L2 rvs aft2
      exact po (v :: vs) H2 L2 (.cons (rv.step aft2.st) rvs) (aft.trans aft2)
def tupO (c : Loc → Rs (List PV)) : Loc → Rs OV := bindR c fun ps ρ => .ok (.tm (.v (.tup ps))) ρ
def lstO (c : Loc → Rs (List PV)) : Loc → Rs OV := bindR c fun ps ρ => .ok (.tm (.l ps)) ρ
theorem small_of {n : Nat} (h : n ≤ 1000) : n ≤ sizeLine := Nat.le_of_lt (small1000 h)
theorem gO_tup {cs : List (Loc → Rs PV)} {es : List Expr} {k : Nat} {pos : Pos} (h : GPs X W es (seqP cs)) (hz : cs.length ≤ 1000) : GO true X W (.Tuple es k pos) (tupO (seqP cs)) := by
  obtain ⟨t, p, g⟩ := h
  refine ⟨_, pe_tupB p, fun ρ σ H L Q rl po => g ρ σ H L _ rl ?_⟩
  unfold tupO bindR at po
  cases hc : seqP cs ρ with
  | no => rw [hc] at po; exact po
  | ex x ρ1 => rw [hc] at po; exact po
  | ok ps ρ1 =>
    rw [hc] at po
    intro vs H1 L1 rvs aft
    refine ⟨by rw [rvs.length, seqP_length hc]; exact small_of hz, does_tup rvs (does_of aft (fun z => nomatch z) po)⟩
theorem gO_lst {cs : List (Loc → Rs PV)} {es : List Expr} {pos : Pos} (h : GPs X W es (seqP cs)) (hz : cs.length ≤ 1000) : GO true X W (.List es pos) (lstO (seqP cs)) := by
  obtain ⟨t, p, g⟩ := h
  refine ⟨_, pe_lst p, fun ρ σ H L Q rl po => g ρ σ H L _ rl ?_⟩
  unfold lstO bindR at po
  cases hc : seqP cs ρ with
  | no => rw [hc] at po; exact po
  | ex x ρ1 => rw [hc] at po; exact po
  | ok ps ρ1 =>
    rw [hc] at po
    intro vs H1 L1 rvs aft
    refine ⟨by rw [rvs.length, seqP_length hc]; exact small_of hz, does_lst rvs (does_of aft (fun z => nomatch z) po)⟩
theorem gO_lst0 {pos : Pos} : GO m X W (.List [] pos) (lstO (seqP [])) :=
  ⟨_, pe_lst pa_nil, fun ρ σ H L Q rl po => ⟨Nat.zero_le _, does_lst RVs.nil (does_of (.refl rl) (fun _ => rfl) po)⟩⟩
theorem gO_tup0 {k : Nat} {pos : Pos} : GO m X W (.Tuple [] k pos) (tupO (seqP [])) :=
  ⟨_, pe_tupB pa_nil, fun ρ σ H L Q rl po => ⟨Nat.zero_le _, does_tup RVs.nil (does_of (.refl rl) (fun _ => rfl) po)⟩⟩
/-! ### subscripts -/
def sIx (p q : SV) : Option SV := match p, q with
  | .v (.tup xs), .v (.int i) => (atI xs i).map .v
  | .v (.str z), .v (.int i) => if z.length ≤ sizeLine then (atI z.cps.toList i).map fun c => .v (.str ⟨#[c]⟩) else none
  | p, .v (.int i) => match asL p with
    | some xs => (atI xs i).map .v
    | none => none
  | _, _ => none
theorem RVs.atI {ps : List PV} {xs : List V} {i : Int} {p : PV} (r : RVs mg H ps xs) (h : L2.atI ps i = some p) : ∃ x, L2.atI xs i = some x ∧ RV mg H p x := by
  unfold L2.atI at h ⊢
  rw [r.length]
  cases hi : ixN ps.length i with
  | none => rw [hi] at h; cases h
  | some j =>
    rw [hi] at h
    exact r.get h
theorem sIx_ok {K : PySem.W.Frag} : Bin2 mg sIx (rIx K) := by
  intro p q s x y H Lp Lq Q rp rq e h
  unfold sIx at e
  split at e
  · rename_i xs i
    cases hi : atI xs i with
    | none => rw [hi] at e; cases e
    | some z =>
      rw [hi] at e; cases e
      obtain ⟨a, oa, vs, rfl, ha, da, ra⟩ := rp.val
      obtain ⟨w, h1, h2⟩ := ra.atI hi
      exact .inr (.inl ⟨a, vs, i, w, rfl, rq.val, .inl (.inr ⟨oa, ha⟩), h1, does_val h2 h⟩)
  · rename_i z i
    split at e
    · rename_i hz
      cases hi : atI z.cps.toList i with
      | none => rw [hi] at e; cases e
      | some c =>
        rw [hi] at e; cases e
        exact .inr (.inr ⟨z, i, c, rp.val, rq.val, hz, hi, does_str h⟩)
    · cases e
  · split at e
    · rename_i xs e1
      revert e
      intro e
      cases hi : atI xs _ with
      | none => rw [hi] at e; cases e
      | some z =>
        rw [hi] at e; cases e
        obtain ⟨a, vs, rfl, ha, ra⟩ := rp.list e1
        obtain ⟨w, h1, h2⟩ := ra.atI hi
        exact .inl ⟨a, vs, _, w, rfl, rq.val, .inl ha, h1, does_val h2 h⟩
    · cases e
  · cases e
def isSlice : Expr → Bool
  | .Slice .. => true
  | _ => false
theorem plainIx_of {b : Expr} (h : isSlice b = false) : PlainIx b := fun o i => by
  cases b <;> first | rfl | exact Bool.noConfusion h
theorem gO_ix {ca cb : Loc → Rs OV} {pos : Pos} (hsl : isSlice b = false) (ha : GO m X W a ca) (hb : GO mb X W b cb) (hm : mb = true → m = true) (hf : mb = true → NoFd ca) : GO m X W (.Subscript a b pos) (bin2 sIx ca cb) :=
  gO_bin2 (fun ta tb pa pb => pe_ix ix_seq pa pb (plainIx_of hsl)) sIx_ok ha hb hm hf
/-! ### slices -/
def cutP (xs : List PV) (lo hi : Option Int) : List PV := (xs.drop (HT.sIx xs.length 0 lo)).take (HT.sIx xs.length xs.length hi - HT.sIx xs.length 0 lo)
theorem RVs.cut {ps : List PV} {xs : List V} (r : RVs mg H ps xs) (lo hi : Option Int) : RVs mg H (cutP ps lo hi) (cutV xs lo hi) := by
  unfold cutP cutV
  rw [r.length]
  exact (r.drop _).take _
def sSl (p : SV) (lo hi : Option Int) : Option SV := match p with
  | .v (.tup xs) => some (.v (.tup (cutP xs lo hi)))
  | p => match asL p with
    | some xs => some (.l (cutP xs lo hi))
    | none => none
def rSl2 (K : PySem.W.Frag) : V → Option Int → Option Int → Hp → VK → Prop := fun x lo hi H Q => rSlB K x lo hi H Q ∨ rSlL K x lo hi H Q
theorem sl_two : SlR X (rSl2 X.K) := sl_tupB.or sl_list
theorem cutP_whole {xs : List PV} {lo hi : Option Int} (h : HT.sIx xs.length 0 lo = 0 ∧ HT.sIx xs.length xs.length hi = xs.length) : cutP xs lo hi = xs := by
  unfold cutP; rw [h.1, h.2]; simp
theorem sSl_ok {K : PySem.W.Frag} {p s : SV} {lo hi : Option Int} {x : V} {L : List Addr} {Q : VK} (rp : RS mg H p x L) (e : sSl p lo hi = some s) (h : Does mg H s Q) : rSl2 K x lo hi H Q := by
  unfold sSl at e
  split at e
  · rename_i xs
    cases e
    obtain ⟨a, oa, vs, rfl, ha, da, ra⟩ := rp.val
    refine .inl ⟨a, vs, rfl, .inl (.inr ⟨oa, ha⟩), fun z => ?_, fun _ => does_tup (ra.cut lo hi) h⟩
    rw [ra.length] at z
    rw [cutP_whole z] at h
    exact does_val (p := .tup xs) ⟨a, oa, vs, rfl, ha, da, ra⟩ h
  · split at e
    · rename_i xs e1
      cases e
      obtain ⟨a, vs, rfl, ha, ra⟩ := rp.list e1
      exact .inr ⟨a, vs, rfl, .inl ha, does_lst (ra.cut lo hi) h⟩
    · cases e
/-- a part of a slice: left out, or an int -/
def noPart : Loc → Rs (Option Int) := fun ρ => .ok none ρ
def aPart (c : Loc → Rs OV) : Loc → Rs (Option Int) := bindR c fun x ρ => match x.get ρ with
  | some (.v (.int i)) => .ok (some i) ρ
  | _ => .no
def PoI (mg : Str → Option Value) (m : Bool) (W : WX) (H : Hp) (L : List Addr) (ρ : Loc) (σ : St) (Q : Option Int → Hp → Prop) : Rs (Option Int) → Prop
  | .ok b ρ' => ∀ H' L', Aft mg m H L ρ' σ H' L' → (m = false → ρ' = ρ) → Q b H'
  | .ex x ρ' => ∀ cls d H' L', RX mg H' x cls d → Aft mg m H L ρ' σ H' L' → W cls d σ H'
  | .no => False
def GI (m : Bool) (X : Cx) (W : WX) (o : Option Expr) (c : Loc → Rs (Option Int)) : Prop :=
  ∃ t, PO X o t ∧ ∀ ρ σ H L Q, RL X.mg H ρ σ L → PoI X.mg m W H L ρ σ Q (c ρ) → t σ H Q
theorem gI_none : GI m X W none noPart := ⟨_, po_none, fun ρ σ H L Q rl po => po H L (.refl rl) fun _ => rfl⟩
theorem gI_some {c : Loc → Rs OV} (h : GO m X W e c) : GI m X W (some e) (aPart c) := by
  obtain ⟨t, p, g⟩ := h
  refine ⟨_, po_some p, fun ρ σ H L Q rl po => g ρ σ H L _ rl ?_⟩
  unfold aPart bindR at po
  cases hc : c ρ with
  | no => rw [hc] at po; exact po
  | ex x ρ1 => rw [hc] at po; exact po
  | ok ov ρ1 =>
    rw [hc] at po
    intro v H1 Lt L1 ro aft dj sb hρ
    dsimp only at po
    split at po
    · rename_i i hg
      obtain ⟨Ls, rs, _⟩ := ro.get aft.rl hg
      exact ⟨i, rs.val, po H1 L1 aft hρ⟩
    · exact po.elim
def slO (c : Loc → Rs OV) (cl ch : Loc → Rs (Option Int)) : Loc → Rs OV := bindR c fun x => bindR cl fun lo => bindR ch fun hi ρ => opt (x.get ρ) fun p => opt (sSl p lo hi) fun s => .ok (.tm s) ρ
theorem gO_slice {c : Loc → Rs OV} {cl ch : Loc → Rs (Option Int)} {lo hi : Option Expr} {p2 pos : Pos} (ha : GO m X W a c) (hl : GI m X W lo cl) (hh : GI m X W hi ch) (hf : m = true → NoFd c) : GO m X W (.Subscript a (.Slice lo hi none p2) pos) (slO c cl ch) := by
  obtain ⟨t, p, g⟩ := ha
  obtain ⟨tl, pl, gl⟩ := hl
  obtain ⟨th, ph, gh⟩ := hh
  refine ⟨_, pe_slice sl_two p pl ph, fun ρ σ H L Q rl po => g ρ σ H L _ rl ?_⟩
  unfold slO at po
  unfold bindR at po
  cases hc : c ρ with
  | no => rw [hc] at po; exact po
  | ex x ρ1 => rw [hc] at po; exact po
  | ok ov ρ1 =>
    rw [hc] at po
    intro v H1 Lt L1 ro aft dj sb hρ
    refine gl ρ1 σ H1 L1 _ aft.rl ?_
    dsimp only at po
    cases hd : cl ρ1 with
    | no => rw [hd] at po; exact po
    | ex x ρ2 => rw [hd] at po; exact fun cls d H' L' r a2 => po cls d H' L' r (aft.trans a2)
    | ok l ρ2 =>
      rw [hd] at po
      intro H2 L2 aft2 hρ2
      refine gh ρ2 σ H2 L2 _ aft2.rl ?_
      dsimp only at po
      have ro2 := ro.stay aft2.st dj fun z i k => hf z ρ ov ρ1 hc i k
      have dj2 := stayApart ro.there dj aft2.sb
      cases he : ch ρ2 with
      | no => rw [he] at po; exact po
      | ex x ρ3 => rw [he] at po; exact fun cls d H' L' r a2 => po cls d H' L' r ((aft.trans aft2).trans a2)
      | ok u ρ3 =>
        rw [he] at po
        intro H3 L3 aft3 hρ3
        obtain ⟨p, e1, po⟩ := no_opt po
        obtain ⟨s, e2, po⟩ := no_opt po
        have ro3 := ro2.stay aft3.st dj2 fun z i k => hf z ρ ov ρ1 hc i k
        obtain ⟨Ls, rs, _⟩ := ro3.get aft3.rl e1
        exact sSl_ok rs e2 (does_of ((aft.trans aft2).trans aft3) (fun z => (hρ3 z).trans ((hρ2 z).trans (hρ z))) po)
end Lt
set_option maxHeartbeats 1000000
/-! LtH: built-in calls. -/
namespace Lt
open PySem PySem.Spec L2
open PyProof.Rows hiding St
variable {mg : Str → Option Value} {X : Cx} {W : WX} {e a b : Expr} {m mb m' : Bool} {H : Hp}

theorem RSs.one {p : SV} {vs : List V} (r : RSs mg H [p] vs) : ∃ v L, vs = [v] ∧ RS mg H p v L := by
  cases r with
  | cons r rs => cases rs; exact ⟨_, _, rfl, r⟩
theorem RSs.two {p q : SV} {vs : List V} (r : RSs mg H [p, q] vs) : ∃ v w L L', vs = [v, w] ∧ RS mg H p v L ∧ RS mg H q w L' := by
  cases r with
  | cons r rs => cases rs with
    | cons r2 rs2 => cases rs2; exact ⟨_, _, _, _, rfl, r, r2⟩
def asI : PV → Option Int
  | .int i => some i
  | _ => none
def asB : PV → Option Bool
  | .bl i => some i
  | _ => none
def allI : List PV → Option (List Int)
  | [] => some []
  | .int i :: r => match allI r with
    | some is => some (i :: is)
    | none => none
  | _ :: _ => none
def allB : List PV → Option (List Bool)
  | [] => some []
  | .bl i :: r => match allB r with
    | some is => some (i :: is)
    | none => none
  | _ :: _ => none
theorem RVs.ints : ∀ {ps : List PV} {xs : List V} {ns : List Int}, RVs mg H ps xs → allI ps = some ns → xs = ns.map V.int
  | [], _, _, r, e => by cases e; exact r
  | p :: ps, _, _, ⟨y, ys, e1, r1, r2⟩, e => by
    cases p with
    | int i =>
      unfold allI at e
      cases h : allI ps with
      | none => rw [h] at e; cases e
      | some is => rw [h] at e; cases e; rw [e1, show y = _ from r1, r2.ints h]; rfl
    | _ => cases e
theorem RVs.bls : ∀ {ps : List PV} {xs : List V} {ns : List Bool}, RVs mg H ps xs → allB ps = some ns → xs = ns.map V.bl
  | [], _, _, r, e => by cases e; exact r
  | p :: ps, _, _, ⟨y, ys, e1, r1, r2⟩, e => by
    cases p with
    | bl i =>
      unfold allB at e
      cases h : allB ps with
      | none => rw [h] at e; cases e
      | some is => rw [h] at e; cases e; rw [e1, show y = _ from r1, r2.bls h]; rfl
    | _ => cases e
/-- a list's or a tuple's items -/
def asQ : SV → Option (List PV)
  | .l xs => some xs
  | .v (.lst xs) => some xs
  | .v (.tup xs) => some xs
  | _ => none
theorem RS.seq {K : PySem.W.Frag} {s : SV} {x : V} {L : List Addr} {xs : List PV} (r : RS mg H s x L) (e : asQ s = some xs) : ∃ a vs, x = .ref a ∧ (SqL K H a vs ∨ SqT K H a vs) ∧ RVs mg H xs vs := by
  cases r with
  | v q =>
    rename_i p
    cases p <;> first | cases e; done | skip
    · cases e
      obtain ⟨a, o, vs, rfl, h, _, r⟩ := q
      exact ⟨a, vs, rfl, .inr (.inl (.inr ⟨o, h⟩)), r⟩
    · cases e
      obtain ⟨a, o, vs, rfl, h, r⟩ := q
      exact ⟨a, vs, rfl, .inl (.inl (.inr ⟨o, h⟩)), r⟩
  | l h r => cases e; exact ⟨_, _, rfl, .inl (.inl (.inl h)), r⟩
  | d _ => cases e
  | r _ _ _ _ => cases e
  | o _ _ _ _ _ => cases e
def sLen : List SV → Option SV
  | [.v (.str z)] => if z.length ≤ sizeLine then some (.v (.int z.length)) else none
  | [p] => match asQ p with
    | some xs => some (.v (.int xs.length))
    | none => none
  | _ => none
def rLen2 (K : PySem.W.Frag) : List V → Hp → VK → Prop := fun xs H Q => (∃ p ys, xs = [.ref p] ∧ (SqL K H p ys ∨ SqT K H p ys) ∧ Q (.int ys.length) H) ∨ ∃ z, xs = [.str z] ∧ z.length ≤ sizeLine ∧ Q (.int z.length) H
theorem sLen_ok {K : PySem.W.Frag} : CallS mg sLen (rLen2 K) := by
  intro ps s vs H Q rr e h
  unfold sLen at e
  split at e
  · split at e
    · rename_i z hz
      cases e
      obtain ⟨v, L, rfl, r⟩ := rr.one
      exact .inr ⟨z, by rw [show v = _ from r.val], hz, does_int h⟩
    · cases e
  · split at e
    · rename_i xs e1
      cases e
      obtain ⟨v, L, rfl, r⟩ := rr.one
      obtain ⟨a, ws, rfl, hq, rv⟩ := r.seq (K := K) e1
      exact .inl ⟨a, ws, rfl, hq, by rw [rv.length]; exact does_int h⟩
    · cases e
  · cases e
def sInt : List SV → Option SV
  | [.v (.int i)] => some (.v (.int i))
  | [.v (.bl k)] => some (.v (.int (if k then 1 else 0)))
  | _ => none
theorem sInt_ok : CallS mg sInt (fun xs H Q => (∃ i, xs = [.int i] ∧ Q (.int i) H) ∨ ∃ k, xs = [.bl k] ∧ Q (.int (if k then 1 else 0)) H) := by
  intro ps s vs H Q rr e h
  unfold sInt at e
  split at e
  · cases e; obtain ⟨v, L, rfl, r⟩ := rr.one; exact .inl ⟨_, by rw [show v = _ from r.val], does_int h⟩
  · cases e; obtain ⟨v, L, rfl, r⟩ := rr.one; exact .inr ⟨_, by rw [show v = _ from r.val], does_int h⟩
  · cases e
/-- the greatest, the least of some ints -/
def gmax : List Int → Option Int
  | [] => none
  | x :: r => some (r.foldl max x)
def gmin : List Int → Option Int
  | [] => none
  | x :: r => some (r.foldl min x)
theorem foldl_max (r : List Int) : ∀ x : Int, x ≤ r.foldl max x ∧ (∀ y ∈ r, y ≤ r.foldl max x) := by
  induction r with
  | nil => intro x; exact ⟨Int.le_refl _, fun _ h => nomatch h⟩
  | cons z r ih =>
    intro x
    obtain ⟨h1, h2⟩ := ih (max x z)
    refine ⟨Int.le_trans (Int.le_max_left x z) h1, fun y hy => ?_⟩
    rcases List.mem_cons.mp hy with rfl | hy
    · exact Int.le_trans (Int.le_max_right x y) h1
    · exact h2 y hy
theorem foldl_max_mem (r : List Int) : ∀ x : Int, r.foldl max x ∈ x :: r := by
  induction r with
  | nil => intro x; exact List.mem_singleton.mpr rfl
  | cons z r ih =>
    intro x
    have := ih (max x z)
    rw [List.foldl_cons]
    rcases List.mem_cons.mp this with h | h
    · rw [h]
      rcases Int.le_total x z with k | k
      · rw [Int.max_eq_right k]; simp
      · rw [Int.max_eq_left k]; simp
    · exact List.mem_cons_of_mem _ (List.mem_cons_of_mem _ h)
theorem foldl_min (r : List Int) : ∀ x : Int, r.foldl min x ≤ x ∧ (∀ y ∈ r, r.foldl min x ≤ y) := by
  induction r with
  | nil => intro x; exact ⟨Int.le_refl _, fun _ h => nomatch h⟩
  | cons z r ih =>
    intro x
    obtain ⟨h1, h2⟩ := ih (min x z)
    refine ⟨Int.le_trans h1 (Int.min_le_left x z), fun y hy => ?_⟩
    rcases List.mem_cons.mp hy with rfl | hy
    · exact Int.le_trans h1 (Int.min_le_right x y)
    · exact h2 y hy
theorem foldl_min_mem (r : List Int) : ∀ x : Int, r.foldl min x ∈ x :: r := by
  induction r with
  | nil => intro x; exact List.mem_singleton.mpr rfl
  | cons z r ih =>
    intro x
    have := ih (min x z)
    rw [List.foldl_cons]
    rcases List.mem_cons.mp this with h | h
    · rw [h]
      rcases Int.le_total x z with k | k
      · rw [Int.min_eq_left k]; simp
      · rw [Int.min_eq_right k]; simp
    · exact List.mem_cons_of_mem _ (List.mem_cons_of_mem _ h)
theorem gmax_is {ns : List Int} {k j : Int} (h : gmax ns = some k) (hm : j ∈ ns) (hj : ∀ y ∈ ns, y ≤ j) : j = k := by
  cases ns with
  | nil => cases h
  | cons x r =>
    cases h
    have h1 := foldl_max r x
    have h2 := hj _ (foldl_max_mem r x)
    have h3 : j ≤ r.foldl max x := by
      rcases List.mem_cons.mp hm with rfl | hm
      · exact h1.1
      · exact h1.2 j hm
    omega
theorem gmin_is {ns : List Int} {k j : Int} (h : gmin ns = some k) (hm : j ∈ ns) (hj : ∀ y ∈ ns, j ≤ y) : j = k := by
  cases ns with
  | nil => cases h
  | cons x r =>
    cases h
    have h1 := foldl_min r x
    have h2 := hj _ (foldl_min_mem r x)
    have h3 : r.foldl min x ≤ j := by
      rcases List.mem_cons.mp hm with rfl | hm
      · exact h1.1
      · exact h1.2 j hm
    omega
def sMax : List SV → Option SV
  | [.v (.int i), .v (.int j)] => some (.v (.int (if j > i then j else i)))
  | [p] => match asL p with
    | some xs => match allI xs with
      | some ns => match gmax ns with
        | some k => some (.v (.int k))
        | none => none
      | none => none
    | none => none
  | _ => none
def sMin : List SV → Option SV
  | [.v (.int i), .v (.int j)] => some (.v (.int (if j < i then j else i)))
  | [p] => match asL p with
    | some xs => match allI xs with
      | some ns => match gmin ns with
        | some k => some (.v (.int k))
        | none => none
      | none => none
    | none => none
  | _ => none
theorem gmax_pos {ns : List Int} {k : Int} (h : gmax ns = some k) : 0 < ns.length := by cases ns with | nil => cases h | cons x r => simp
theorem gmin_pos {ns : List Int} {k : Int} (h : gmin ns = some k) : 0 < ns.length := by cases ns with | nil => cases h | cons x r => simp
theorem sMax_ok {K : PySem.W.Frag} : CallS mg sMax (fun xs H Q => (∃ i j, xs = [.int i, .int j] ∧ Q (.int (if j > i then j else i)) H) ∨ rMax K xs H Q) := by
  intro ps s vs H Q rr e h
  unfold sMax at e
  split at e
  · cases e; obtain ⟨v, w, L, L', rfl, r1, r2⟩ := rr.two; exact .inl ⟨_, _, by rw [show v = _ from r1.val, show w = _ from r2.val], does_int h⟩
  · split at e
    · rename_i xs e1
      split at e
      · rename_i ns e2
        split at e
        · rename_i k e3
          cases e
          obtain ⟨v, L, rfl, r⟩ := rr.one
          obtain ⟨a, ws, rfl, hl, rv⟩ := r.list e1
          have := rv.ints e2; subst this
          exact .inr ⟨a, ns, rfl, .inl hl, gmax_pos e3, fun j h1 h2 => by rw [gmax_is e3 h1 h2]; exact does_int h⟩
        · cases e
      · cases e
    · cases e
  · cases e
theorem sMin_ok {K : PySem.W.Frag} : CallS mg sMin (fun xs H Q => (∃ i j, xs = [.int i, .int j] ∧ Q (.int (if j < i then j else i)) H) ∨ rMin K xs H Q) := by
  intro ps s vs H Q rr e h
  unfold sMin at e
  split at e
  · cases e; obtain ⟨v, w, L, L', rfl, r1, r2⟩ := rr.two; exact .inl ⟨_, _, by rw [show v = _ from r1.val, show w = _ from r2.val], does_int h⟩
  · split at e
    · rename_i xs e1
      split at e
      · rename_i ns e2
        split at e
        · rename_i k e3
          cases e
          obtain ⟨v, L, rfl, r⟩ := rr.one
          obtain ⟨a, ws, rfl, hl, rv⟩ := r.list e1
          have := rv.ints e2; subst this
          exact .inr ⟨a, ns, rfl, .inl hl, gmin_pos e3, fun j h1 h2 => by rw [gmin_is e3 h1 h2]; exact does_int h⟩
        · cases e
      · cases e
    · cases e
  · cases e
def sSum : List SV → Option SV
  | [p] => match asQ p with
    | some xs => match allI xs with
      | some ns => some (.v (.int ns.sum))
      | none => none
    | none => none
  | _ => none
def rSumT (K : PySem.W.Frag) : List V → Hp → VK → Prop := fun vs H Q => ∃ (a : Addr) (ns : List Int), vs = [V.ref a] ∧ SqT K H a (ns.map V.int) ∧ Q (.int ns.sum) H
theorem cr_sumT (hc : X.calm = true) : CallR X (.builtin "sum") (rSumT X.K) := by
  intro pins s σ H vs us Q I r h
  obtain ⟨a, ns, rfl, hs, q⟩ := h
  obtain ⟨its, rv, hl, _⟩ := I.tuple hs
  rw [Vals.ref1 r]
  have hi := rv.ints
  obtain ⟨xs, e⟩ := hi.allInts.items
  have hn : numsOf (intItems xs).toList = ns := by rw [← e]; exact hi.numsOf
  rw [nums_intItems] at hn
  rw [e] at hl
  refine PySem.W.ktm_sumG (I.ok.hd hc) hl fun h' tk t' hk => ?_
  rw [preSum_eq, List.take_of_length_le (by simp), hn]
  exact ⟨.int _, H, I.kept hk, ⟨_, rfl⟩, q⟩
theorem sSum_ok {K : PySem.W.Frag} : CallS mg sSum (fun xs H Q => rSum K xs H Q ∨ rSumT K xs H Q) := by
  intro ps s vs H Q rr e h
  unfold sSum at e
  split at e
  · split at e
    · rename_i xs e1
      split at e
      · rename_i ns e2
        cases e
        obtain ⟨v, L, rfl, r⟩ := rr.one
        obtain ⟨a, ws, rfl, hq, rv⟩ := r.seq (K := K) e1
        have := rv.ints e2; subst this
        rcases hq with hq | hq
        · exact .inl ⟨a, ns, rfl, hq, does_int h⟩
        · exact .inr ⟨a, ns, rfl, hq, does_int h⟩
      · cases e
    · cases e
  · cases e
def sAll : List SV → Option SV
  | [p] => match asL p with
    | some xs => match allB xs with
      | some bs => some (.v (.bl (bs.all id)))
      | none => none
    | none => none
  | _ => none
def sAny : List SV → Option SV
  | [p] => match asL p with
    | some xs => match allB xs with
      | some bs => some (.v (.bl (bs.any id)))
      | none => none
    | none => none
  | _ => none
theorem sAll_ok {K : PySem.W.Frag} : CallS mg sAll (rAll K) := by
  intro ps s vs H Q rr e h
  unfold sAll at e
  split at e
  · split at e
    · rename_i xs e1
      split at e
      · rename_i ns e2
        cases e
        obtain ⟨v, L, rfl, r⟩ := rr.one
        obtain ⟨a, ws, rfl, hq, rv⟩ := r.list e1
        have := rv.bls e2; subst this
        exact ⟨a, ns, rfl, .inl hq, does_bl h⟩
      · cases e
    · cases e
  · cases e
theorem sAny_ok {K : PySem.W.Frag} : CallS mg sAny (rAny K) := by
  intro ps s vs H Q rr e h
  unfold sAny at e
  split at e
  · split at e
    · rename_i xs e1
      split at e
      · rename_i ns e2
        cases e
        obtain ⟨v, L, rfl, r⟩ := rr.one
        obtain ⟨a, ws, rfl, hq, rv⟩ := r.list e1
        have := rv.bls e2; subst this
        exact ⟨a, ns, rfl, .inl hq, does_bl h⟩
      · cases e
    · cases e
  · cases e
def sTuple : List SV → Option SV
  | [p] => match asQ p with
    | some xs => some (.v (.tup xs))
    | none => none
  | _ => none
def sList : List SV → Option SV
  | [p] => match asQ p with
    | some xs => some (.l xs)
    | none => none
  | _ => none
theorem RV.same_tup {a : Addr} {o : Obj} {vs : List V} {xs : List PV} (h : H a = some (.frz o (.tup vs))) (ho : o.dict = none) (r : RVs mg H xs vs) : RV mg H (.tup xs) (.ref a) := ⟨a, o, vs, rfl, h, ho, r⟩
theorem sTuple_ok {K : PySem.W.Frag} : CallS mg sTuple (rTupB K) := by
  intro ps s vs H Q rr e h
  unfold sTuple at e
  split at e
  · rename_i p
    split at e
    · rename_i xs e1
      cases e
      obtain ⟨v, L, rfl, r⟩ := rr.one
      cases hp : asL p with
      | some ys =>
        have : ys = xs := by
          cases p with
          | v q => cases q <;> first | cases hp; done | (cases hp; cases e1; rfl)
          | l q => cases hp; cases e1; rfl
          | d _ => cases hp
          | r _ => cases hp
          | o _ _ => cases hp
        subst this
        obtain ⟨a, ws, rfl, hq, rv⟩ := r.list hp
        exact ⟨a, ws, rfl, .inl ⟨.inl hq, does_tup rv h⟩⟩
      | none =>
        cases p with
        | v q =>
          cases q <;> first | cases e1; done | cases hp; done | skip
          cases e1
          obtain ⟨a, o, ws, rfl, ha, ho, ra⟩ := r.val
          exact ⟨a, ws, rfl, .inr ⟨.inl (.inr ⟨o, ha⟩), does_val (RV.same_tup ha ho ra) h⟩⟩
        | l q => cases hp
        | d _ => cases e1
        | r _ => cases e1
        | o _ _ => cases e1
    · cases e
  · cases e
theorem sList_ok {K : PySem.W.Frag} : CallS mg sList (fun xs H Q => ∃ p ys, xs = [.ref p] ∧ (SqL K H p ys ∨ SqT K H p ys) ∧ ∀ l, H l = none → Q (.ref l) (upd H l (.lst ys))) := by
  intro ps s vs H Q rr e h
  unfold sList at e
  split at e
  · split at e
    · rename_i xs e1
      cases e
      obtain ⟨v, L, rfl, r⟩ := rr.one
      obtain ⟨a, ws, rfl, hq, rv⟩ := r.seq (K := K) e1
      exact ⟨a, ws, rfl, hq, does_lst rv h⟩
    · cases e
  · cases e
end Lt
set_option maxHeartbeats 1000000
/-! LtI: the table of built-in calls; isinstance. -/
namespace Lt
open PySem PySem.Spec L2
open PyProof.Rows hiding St
variable {mg : Str → Option Value} {X : Cx} {W : WX} {e a b : Expr} {m mb m' : Bool} {H : Hp}

theorem bt_len : bootBuiltins "len" = some (.builtin "len") := PySem.boot_len
theorem bt_int : bootBuiltins "int" = some (.type "int") := by decide +kernel
theorem bt_max : bootBuiltins "max" = some (.builtin "max") := by decide +kernel
theorem bt_min : bootBuiltins "min" = some (.builtin "min") := by decide +kernel
theorem bt_sum : bootBuiltins "sum" = some (.builtin "sum") := by decide +kernel
theorem bt_all : bootBuiltins "all" = some (.builtin "all") := by decide +kernel
theorem bt_any : bootBuiltins "any" = some (.builtin "any") := by decide +kernel
theorem bt_tuple : bootBuiltins "tuple" = some (.type "tuple") := by decide +kernel
theorem bt_list : bootBuiltins "list" = some (.type "list") := by decide +kernel
theorem bt_isi : bootBuiltins "isinstance" = some (.builtin "isinstance") := by decide +kernel
theorem bt_bool : bootBuiltins "bool" = some (.type "bool") := by decide +kernel
theorem bt_str : bootBuiltins "str" = some (.type "str") := by decide +kernel
theorem bt_repr : bootBuiltins "repr" = some (.builtin "repr") := by decide +kernel
/-! ### repr -/
def okShow (d : PyData) : Bool := d.showable && !d.hasDict && decide (d.shown.length ≤ sizeLine) && decide (d.depth ≤ 60)
def sRepr : List SV → Option SV
  | [p] => match dOf p with
    | some d => if okShow d then some (.v (.str d.shown)) else none
    | none => none
  | _ => none
def rRepr (K : PySem.W.Frag) (vs : List V) (H : Hp) (Q : VK) : Prop := ∃ x d, vs = [x] ∧ Dp K H x d ∧ okShow d = true ∧ Q (.str d.shown) H
theorem sRepr_ok {K : PySem.W.Frag} : CallS mg sRepr (rRepr K) := by
  intro ps s vs H Q r e h
  unfold sRepr at e
  split at e
  · rename_i p
    split at e
    · rename_i d hd
      split at e
      · rename_i ho
        cases e
        obtain ⟨v, L, rfl, rv⟩ := r.one
        exact ⟨v, d, rfl, rv.dp hd, ho, h _ H [] (.v rfl) (fun _ _ q => q) (fun _ z => nomatch z)⟩
      · cases e
    · cases e
  · cases e
theorem call_repr (hu : X.A.units + 65 < cLine) (hgd : X.A.guards = some []) : CallR X (.builtin "repr") (rRepr X.K) := by
  intro pins s σ H xs us Q I r h
  obtain ⟨x, d, rfl, dp, ho, q⟩ := h
  obtain ⟨u, rfl, rx⟩ := vals1 r
  unfold okShow at ho
  rw [Bool.and_eq_true, Bool.and_eq_true, Bool.and_eq_true, Bool.not_eq_true'] at ho
  obtain ⟨⟨⟨h1, h2⟩, h3⟩, h4⟩ := ho
  have h3 := of_decide_eq_true h3
  have h4 := of_decide_eq_true h4
  obtain ⟨as, rd⟩ := Dp.reads I d x u dp rx
  have heap : ∀ {a : Addr}, u = .ref a → wpAny (model X.prog X.w) X.A (call (.builtin "repr") [u]) (EP X pins σ Q) X.xe s := fun e => by
    subst e
    exact repr_of_reads' rd h1 (PyData.noDict_hsm h2) hgd (by omega) (fun _ _ e => e) (fun h' u tk hk => ⟨.str d.shown, H, I.kept hk, ⟨_, rfl⟩, q⟩) h3
  cases dp with
  | non => cases rx; exact call_repr_gives (typeIs_none s) F.slot_NoneType_repr F.entry_NoneType_repr (F.args_NoneType_repr_1 _) gives_none_repr ⟨.str _, H, I.tok _, ⟨_, rfl⟩, q⟩ (hx := by decide)
  | bl b => cases rx; exact call_repr_gives (PySem.typeIs_bool s b) F.slot_bool_repr F.entry_bool_repr (F.args_bool_repr_1 _) (gives_bool_repr b) ⟨.str _, H, I.tok _, ⟨_, rfl⟩, q⟩ (hx := by cases b <;> decide)
  | int i => obtain ⟨t, rfl⟩ := rx; exact call_repr_gives (typeIs_int s i t) F.slot_int_repr F.entry_int_repr (F.args_int_repr_1 _) (gives_int_repr i t (of_decide_eq_true h1)) ⟨.str _, H, I.tok _, ⟨_, rfl⟩, q⟩ (hx := h3)
  | str x => obtain ⟨t, rfl⟩ := rx; exact call_repr_gives (typeIs_str s x t) F.slot_str_repr F.entry_str_repr (F.args_str_repr_1 _) (gives_str_repr x t) ⟨.str _, H, I.tok _, ⟨_, rfl⟩, q⟩ (hx := h3)
  | lst _ _ => exact heap rx
  | tup _ _ => exact heap rx
/-! ### sorted, of ints -/
def sortI (ns : List Int) : List Int := ns.mergeSort fun a b => decide (a ≤ b)
theorem sortI_pw {ns : List Int} : (sortI ns).Pairwise (· ≤ ·) := by
  have := List.pairwise_mergeSort (le := fun a b : Int => decide (a ≤ b)) (fun a b c h1 h2 => by simp at *; omega) (fun a b => by simp; omega) ns
  exact this.imp fun h => by simpa using h
theorem sortI_perm {ns : List Int} : (sortI ns).Perm ns := List.mergeSort_perm ns _
theorem sortI_eq {ns ms : List Int} (h : ms.Perm ns) (h2 : ms.Pairwise (· ≤ ·)) : ms = sortI ns :=
  List.Perm.eq_of_pairwise (le := fun a b : Int => a ≤ b) (fun a b _ _ h1 h2 => Int.le_antisymm h1 h2) h2 sortI_pw (h.trans sortI_perm.symm)
def sSorted : List SV → Option SV
  | [p] => match asL p with
    | some xs => match allI xs with
      | some ns => some (.l ((sortI ns).map .int))
      | none => none
    | none => none
  | _ => none
theorem bt_sorted : bootBuiltins "sorted" = some (.builtin "sorted") := by decide +kernel
theorem rvs_ints {mg : Str → Option Value} {H : Hp} : ∀ {ns : List Int}, RVs mg H (ns.map .int) (ns.map V.int)
  | [] => RVs.nil
  | n :: ns => ⟨_, _, rfl, rfl, rvs_ints⟩
theorem sSorted_ok {mg : Str → Option Value} {K : PySem.W.Frag} : CallS mg sSorted (rSortedI K) := by
  intro ps s vs H Q rr e h
  unfold sSorted at e
  split at e
  · split at e
    · rename_i xs hx
      split at e
      · rename_i ns hn
        cases e
        obtain ⟨v, L, rfl, r⟩ := rr.one
        obtain ⟨a, ws, rfl, ha, ra⟩ := r.list hx
        have hw := ra.ints hn
        subst hw
        exact ⟨a, ns, rfl, .inl ha, fun ns' q hp hs hq => by
          rw [sortI_eq hp hs]
          exact does_lst rvs_ints h q hq⟩
      · cases e
    · cases e
  · cases e
def sCall (x : Str) : Option (List SV → Option SV) :=
  if x = "len" then some sLen else if x = "int" then some sInt else if x = "max" then some sMax else if x = "min" then some sMin else if x = "sum" then some sSum
  else if x = "all" then some sAll else if x = "any" then some sAny else if x = "tuple" then some sTuple else if x = "list" then some sList else if x = "repr" then some sRepr else if x = "sorted" then some sSorted else none
theorem blt_rule {x : Str} {f : List SV → Option SV} {e : Expr} {es : List Expr} {p pos : Pos} (h : sCall x = some f) (hg : Gl X x) (hm : X.mg x = none) (hc : X.calm = true) (hu : X.A.units + 65 < cLine) (hgd : X.A.guards = some []) (hst : isStar e = false) (hss : es.all (fun e => !isStar e) = true) :
    ∃ r, CallS X.mg f r ∧ ∀ t, PA X (e :: es) t → PE X (.Call (.Name x p) (e :: es) [] pos) (tCB r t) := by
  have he : starEach (e :: es) X.env = (false, eval e X.env) :: starEach es X.env := starEach_cons hst
  have hpl : (backTo pos (starEach es X.env)).any (·.1) = false := star_plain hss
  unfold sCall at h
  split at h
  · rename_i hx; subst hx; cases h; exact ⟨_, sLen_ok (K := X.K), fun t pa => pe_callB (call_len_seq.or call_len_str) hg hm bt_len pa (by decide) (by decide) he hpl⟩
  split at h
  · rename_i hx; subst hx; cases h; exact ⟨_, sInt_ok, fun t pa => pe_callTy call_int1 hg hm bt_int pa (by decide) (by decide) he hpl⟩
  split at h
  · rename_i hx; subst hx; cases h; exact ⟨_, sMax_ok (K := X.K), fun t pa => pe_callB ((call_max2 hc).or (cr_max hc)) hg hm bt_max pa (by decide) (by decide) he hpl⟩
  split at h
  · rename_i hx; subst hx; cases h; exact ⟨_, sMin_ok (K := X.K), fun t pa => pe_callB ((call_min2 hc).or (cr_min hc)) hg hm bt_min pa (by decide) (by decide) he hpl⟩
  split at h
  · rename_i hx; subst hx; cases h; exact ⟨_, sSum_ok (K := X.K), fun t pa => pe_callB ((cr_sum hc).or (cr_sumT hc)) hg hm bt_sum pa (by decide) (by decide) he hpl⟩
  split at h
  · rename_i hx; subst hx; cases h; exact ⟨_, sAll_ok (K := X.K), fun t pa => pe_callB (cr_all hc) hg hm bt_all pa (by decide) (by decide) he hpl⟩
  split at h
  · rename_i hx; subst hx; cases h; exact ⟨_, sAny_ok (K := X.K), fun t pa => pe_callB (cr_any hc) hg hm bt_any pa (by decide) (by decide) he hpl⟩
  split at h
  · rename_i hx; subst hx; cases h; exact ⟨_, sTuple_ok (K := X.K), fun t pa => pe_callTy call_tupleB hg hm bt_tuple pa (by decide) (by decide) he hpl⟩
  split at h
  · rename_i hx; subst hx; cases h; exact ⟨_, sList_ok (K := X.K), fun t pa => pe_callTy call_list_of hg hm bt_list pa (by decide) (by decide) he hpl⟩
  split at h
  · rename_i hx; subst hx; cases h; exact ⟨_, sRepr_ok (K := X.K), fun t pa => pe_callB (call_repr hu hgd) hg hm bt_repr pa (by decide) (by decide) he hpl⟩
  split at h
  · rename_i hx; subst hx; cases h; exact ⟨_, sSorted_ok (K := X.K), fun t pa => pe_callB cr_sortedI hg hm bt_sorted pa (by decide) (by decide) he hpl⟩
  · cases h
theorem gO_blt {x : Str} {f : List SV → Option SV} {cs : Loc → Rs (List OV)} {es : List Expr} {p pos : Pos} (h : sCall x = some f) (hg : Gl X x) (hm : X.mg x = none) (hc : X.calm = true) (hu : X.A.units + 65 < cLine) (hgd : X.A.guards = some []) (hst : isStar e = false) (hss : es.all (fun e => !isStar e) = true) (ha : GA m X W (e :: es) cs) :
    GO m X W (.Call (.Name x p) (e :: es) [] pos) (callB f cs) := by
  obtain ⟨r, h1, h2⟩ := blt_rule (p := p) (pos := pos) h hg hm hc hu hgd hst hss
  exact gO_callB h2 h1 ha
/-! ### isinstance -/
def tyP : PV → Option String
  | .non => some "NoneType"
  | .bl _ => some "bool"
  | .int _ => some "int"
  | .str _ => some "str"
  | .tup _ => some "tuple"
  | .tmp _ => none
  | .lst _ => some "list"
  | .dic _ _ => some "dict"
  | .glb _ => none
  | .ex0 _ => none
  | .ex1 _ _ _ => none
def tyS : SV → Option String
  | .v p => tyP p
  | .l _ => some "list"
  | .d _ => some "dict"
  | .r _ => some "dict"
  | .o _ _ => none
def tyNames : List String := ["NoneType", "bool", "int", "str", "tuple", "list", "dict"]
def isiB (t T : String) : Bool := t == T || (t == "bool" && T == "int")
theorem isi_table : ∀ t ∈ tyNames, ∀ T ∈ (["int", "bool", "str", "tuple", "list", "dict"] : List String), kitB t T = some (isiB t T) := by decide +kernel
def isiT (x : Str) : Option String := if x = "int" then some "int" else if x = "bool" then some "bool" else if x = "str" then some "str" else if x = "tuple" then some "tuple" else if x = "list" then some "list" else none
def sIsi (T : String) (p : SV) : Option SV := match tyS p with
  | some t => some (.v (.bl (isiB t T)))
  | none => none
theorem RS.ty {K : PySem.W.Frag} {s : SV} {x : V} {L : List Addr} {t : String} (r : RS mg H s x L) (e : tyS s = some t) : TyX K H x (.type t) ∧ t ∈ tyNames := by
  cases r with
  | v q =>
    rename_i p
    cases p with
    | non => cases e; rw [show x = _ from q]; exact ⟨.base .non, by decide⟩
    | bl _ => cases e; rw [show x = _ from q]; exact ⟨.base (.bl _), by decide⟩
    | int _ => cases e; rw [show x = _ from q]; exact ⟨.base (.int _), by decide⟩
    | str _ => cases e; rw [show x = _ from q]; exact ⟨.base (.str _), by decide⟩
    | tup _ => cases e; obtain ⟨a, o, vs, rfl, h, _⟩ := q; exact ⟨.fTuple h, by decide⟩
    | tmp _ => cases e
    | lst _ => cases e; obtain ⟨a, o, vs, rfl, h, _⟩ := q; exact ⟨.base (.frz h), by decide⟩
    | dic _ _ => exact q.elim
    | glb _ => cases e
    | ex0 _ => cases e
    | ex1 _ _ _ => cases e
  | l h _ => cases e; exact ⟨.base (.lst h), by decide⟩
  | d h => cases e; exact ⟨.base (.dK h), by decide⟩
  | r h _ _ _ => cases e; exact ⟨.base (.dK h), by decide⟩
  | o _ _ _ _ _ => cases e
theorem isiT_mem {x : Str} {T : String} (h : isiT x = some T) : bootBuiltins x = some (.type T) ∧ T ∈ (["int", "bool", "str", "tuple", "list", "dict"] : List String) ∧ x ≠ "__name__" ∧ (x == ("__debug__" : Str)) = false := by
  unfold isiT at h
  split at h
  · rename_i hx; subst hx; cases h; exact ⟨bt_int, by decide, by decide, by decide⟩
  split at h
  · rename_i hx; subst hx; cases h; exact ⟨bt_bool, by decide, by decide, by decide⟩
  split at h
  · rename_i hx; subst hx; cases h; exact ⟨bt_str, by decide, by decide, by decide⟩
  split at h
  · rename_i hx; subst hx; cases h; exact ⟨bt_tuple, by decide, by decide, by decide⟩
  split at h
  · rename_i hx; subst hx; cases h; exact ⟨bt_list, by decide, by decide, by decide⟩
  · cases h
theorem gO_isi {x : Str} {T : String} {ca : Loc → Rs OV} {p p2 pos : Pos} (hT : isiT x = some T) (hg : Gl X "isinstance") (hm : X.mg "isinstance" = none) (hg2 : Gl X x) (hm2 : X.mg x = none) (hst : isStar a = false) (ha : GO m X W a ca) :
    GO m X W (.Call (.Name "isinstance" p) [a, .Name x p2] [] pos) (un1 (sIsi T) ca) := by
  obtain ⟨h1, h2, h3, h4⟩ := isiT_mem hT
  refine gO_un1 (r := fun v H Q => rIsi X.K [v, .ty T] H Q) (fun ta pa => ?_) ?_ ha
  · exact pe_callB call_isi hg hm bt_isi (pa_cons pa (pa_cons (pe_bltn (v := .ty T) hg2 hm2 h1 rfl h3 h4) pa_nil) (starEach_cons hst)) (by decide) (by decide) (starEach_cons hst) (star_plain (by rfl))
  · intro p s v H L Q rp e h
    unfold sIsi at e
    cases ht : tyS p with
    | none => rw [ht] at e; cases e
    | some t =>
      rw [ht] at e; cases e
      obtain ⟨k1, k2⟩ := rp.ty (K := X.K) ht
      exact ⟨v, .ty T, .type t, .type T, isiB t T, rfl, .ty T, k1, kit_ty (isi_table t k2 T h2), does_bl h⟩
end Lt
set_option maxHeartbeats 1000000
/-! LtJ: statements without loops. -/
namespace Lt
open PySem PySem.Spec L2
open PyProof.Rows hiding St
variable {mg : Str → Option Value} {X : Cx} {W : WX} {e a b : Expr} {m mb m' : Bool} {H : Hp} {K : List Nat}

inductive Fl where
  | nx | bk | ct | rt (s : SV)
/-- the slots of K are as they were -/
def Kp (K : List Nat) (σ σ' : St) : Prop := ∀ i ∈ K, σ'[i]? = σ[i]?
theorem Kp.refl {σ : St} : Kp K σ σ := fun _ _ => rfl
theorem Kp.trans {σ σ1 σ2 : St} (a : Kp K σ σ1) (b : Kp K σ1 σ2) : Kp K σ σ2 := fun i h => (b i h).trans (a i h)
theorem Kp.set {σ σ1 : St} {i : Nat} {v : Option V} (a : Kp K σ σ1) (h : i ∉ K) : Kp K σ (σ1.set i v) := fun j hj => by
  rw [List.getElem?_set_ne (show i ≠ j from fun z => h (z ▸ hj))]; exact a j hj
def PoS (mg : Str → Option Value) (W : WX) (K : List Nat) (H : Hp) (L : List Addr) (σ : St) (D : Ends) : Rs Fl → Prop
  | .ok .nx ρ' => ∀ σ' H' L', Aft mg true H L ρ' σ' H' L' → Kp K σ σ' → D.nx σ' H'
  | .ok .bk ρ' => ∀ σ' H' L', Aft mg true H L ρ' σ' H' L' → Kp K σ σ' → D.bk σ' H'
  | .ok .ct ρ' => ∀ σ' H' L', Aft mg true H L ρ' σ' H' L' → Kp K σ σ' → D.ct σ' H'
  | .ok (.rt s) ρ' => ∀ v σ' H' Lt L', RS mg H' s v Lt → Aft mg true H L ρ' σ' H' L' → (∀ a ∈ Lt, a ∉ L') → Sub Lt L H → Kp K σ σ' → D.rt v H'
  | .ex x ρ' => ∀ cls d σ' H' L', RX mg H' x cls d → Aft mg true H L ρ' σ' H' L' → Kp K σ σ' → W cls d σ' H'
  | .no => False
def DS (mg : Str → Option Value) (W : WX) (K : List Nat) (c : Loc → Rs Fl) (t : TS) : Prop := ∀ ρ σ H L D, RL mg H ρ σ L → PoS mg W K H L σ D (c ρ) → t D σ H
/-- the wish of exceptions does not lean on the slots that are not kept -/
def GS (X : Cx) (W : WX) (K : List Nat) (st : Stmt) (c : Loc → Rs Fl) : Prop := ∃ t, PS X st t ∧ DS X.mg W K c t
def GSs (X : Cx) (W : WX) (K : List Nat) (st : List Stmt) (c : Loc → Rs Fl) : Prop := ∃ t, PSs X st t ∧ DS X.mg W K c t
theorem PoS.after {H H1 : Hp} {L L1 : List Addr} {ρ1 : Loc} {σ σ1 : St} {D : Ends} {r : Rs Fl} (aft : Aft mg true H L ρ1 σ1 H1 L1) (hk : Kp K σ σ1) (q : PoS mg W K H L σ D r) : PoS mg W K H1 L1 σ1 D r := by
  cases r with
  | no => exact q
  | ex x ρ2 => exact fun cls d σ' H' L' r a2 k => q cls d σ' H' L' r (aft.trans a2) (hk.trans k)
  | ok f ρ2 =>
    cases f with
    | nx => exact fun σ' H' L' a2 k => q σ' H' L' (aft.trans a2) (hk.trans k)
    | bk => exact fun σ' H' L' a2 k => q σ' H' L' (aft.trans a2) (hk.trans k)
    | ct => exact fun σ' H' L' a2 k => q σ' H' L' (aft.trans a2) (hk.trans k)
    | rt s => exact fun v σ' H' Lt L' rs a2 dj sb k => q v σ' H' Lt L' rs (aft.trans a2) dj (Sub.trans aft.st aft.sb sb) (hk.trans k)
def skip : Loc → Rs Fl := fun ρ => .ok .nx ρ
def seqS (c d : Loc → Rs Fl) : Loc → Rs Fl := fun ρ => match c ρ with
  | .ok .nx ρ' => d ρ'
  | r => r
theorem dS_skip : DS mg W K skip tNext := fun ρ σ H L D rl po => po σ H L (.refl rl) .refl
theorem gSs_nil : GSs X W K [] skip := ⟨_, pss_nil, dS_skip⟩
theorem gS_pass {pos : Pos} : GS X W K (.Pass pos) skip := ⟨_, ps_pass, dS_skip⟩
theorem gS_break {pos : Pos} : GS X W K (.Break pos) (fun ρ => .ok .bk ρ) := ⟨_, ps_break, fun ρ σ H L D rl po => po σ H L (.refl rl) .refl⟩
theorem gS_continue {pos : Pos} : GS X W K (.Continue pos) (fun ρ => .ok .ct ρ) := ⟨_, ps_continue, fun ρ σ H L D rl po => po σ H L (.refl rl) .refl⟩
theorem dS_seq {c d : Loc → Rs Fl} {t u : TS} (h1 : DS mg W K c t) (h2 : DS mg W K d u) : DS mg W K (seqS c d) (tSeq t u) := by
  intro ρ σ H L D rl po
  refine h1 ρ σ H L _ rl ?_
  unfold seqS at po
  cases hc : c ρ with
  | no => rw [hc] at po; exact po
  | ex x ρ1 => rw [hc] at po; exact po
  | ok f ρ1 =>
    rw [hc] at po
    cases f with
    | nx => exact fun σ1 H1 L1 aft k => h2 ρ1 σ1 H1 L1 D aft.rl (po.after aft k)
    | bk => exact po
    | ct => exact po
    | rt s => exact po
theorem gSs_cons {st : Stmt} {rest : List Stmt} {c d : Loc → Rs Fl} (h1 : GS X W K st c) (h2 : GSs X W K rest d) : GSs X W K (st :: rest) (seqS c d) :=
  let ⟨_, p, g⟩ := h1; let ⟨_, q, k⟩ := h2; ⟨_, pss_cons p q, dS_seq g k⟩
theorem gSs_one {st : Stmt} {c : Loc → Rs Fl} (h1 : GS X W K st c) : GSs X W K [st] c :=
  let ⟨_, p, g⟩ := h1; ⟨_, pss_one p, g⟩
/-! ### e; return; if -/
def isComp : Expr → Bool
  | .ListComp .. => true
  | .SetComp .. => true
  | .DictComp .. => true
  | _ => false
theorem noSwap {e : Expr} {t : Option Expr} {l : Nat} {env : Env} (h : isComp e = false) : swapsWith e t l env = pure false := by
  cases e <;> first | rfl | exact Bool.noConfusion h
/-- .. to a target that is no name -/
theorem noSwapT {e t : Expr} {l : Nat} {env : Env} (h : ∀ x p, t ≠ .Name x p) : swapsWith e (some t) l env = pure false := by
  cases e <;> first | rfl | (cases t <;> first | rfl | exact absurd rfl (h _ _))
def exprS (c : Loc → Rs OV) : Loc → Rs Fl := bindR c fun _ ρ => .ok .nx ρ
theorem gS_expr {c : Loc → Rs OV} {pos : Pos} (hn : isComp e = false) (h : GO m X W e c) : GS X W K (.Expr e pos) (exprS c) := by
  obtain ⟨t, p, g⟩ := h
  refine ⟨_, ps_expr p (noSwap hn), fun ρ σ H L D rl po => g ρ σ H L _ rl ?_⟩
  unfold exprS bindR at po
  cases hc : c ρ with
  | no => rw [hc] at po; exact po
  | ex x ρ1 => rw [hc] at po; exact fun cls d H' L' r a2 => po cls d σ H' L' r (a2.mono fun _ => rfl) .refl
  | ok ov ρ1 => rw [hc] at po; exact fun v H' Lt L' ro aft dj sb hρ => po σ H' L' (aft.mono fun _ => rfl) .refl
def retS (c : Loc → Rs SV) : Loc → Rs Fl := bindR c fun s ρ => .ok (.rt s) ρ
theorem gS_ret {c : Loc → Rs SV} {pos : Pos} (h : GV true X W e c) : GS X W K (.Return (some e) pos) (retS c) := by
  obtain ⟨t, p, g⟩ := h
  refine ⟨_, ps_ret p, fun ρ σ H L D rl po => g ρ σ H L _ rl ?_⟩
  unfold retS bindR at po
  cases hc : c ρ with
  | no => rw [hc] at po; exact po
  | ex x ρ1 => rw [hc] at po; exact fun cls d H' L' r a2 => po cls d σ H' L' r a2 .refl
  | ok s ρ1 => rw [hc] at po; exact fun v H' Lt L' rs aft dj sb hρ => po v σ H' Lt L' rs aft dj sb .refl
/-- return x: the slot's own thing goes out -/
def retM (i : Nat) : Loc → Rs Fl := fun ρ => match ρ[i]? with
  | some (some s) => .ok (.rt s) (ρ.set i none)
  | _ => .no
theorem gS_retM {i : Nat} {x : Str} {p pos : Pos} (hN : X.N[i]? = some x) (hv : Vis X.env.scope x) (hd : (x == ("__debug__" : Str)) = false) (hcd : (x == ("__classdict__" : Str)) = false) : GS X W K (.Return (some (.Name x p)) pos) (retM i) := by
  refine ⟨_, ps_ret (pe_var hN hv hd hcd), fun ρ σ H L D rl po => ?_⟩
  unfold retM at po
  split at po
  · rename_i s hs
    obtain ⟨x, Ls, Lr, h1, h2, h3, h4, h5⟩ := rl.get hs
    exact ⟨x, h1, po x σ H Ls Lr h2 ⟨h3, .refl, fun a ha => .inl ((h5 a).mpr (.inr ha))⟩ h4 (fun a ha => .inl ((h5 a).mpr (.inl ha))) .refl⟩
  · exact po.elim
theorem gS_retN {pos : Pos} : GS X W K (.Return none pos) (fun ρ => .ok (.rt (.v .non)) ρ) :=
  ⟨_, ps_retN, fun ρ σ H L D rl po => po .non σ H [] L (.v rfl) (.refl rl) (fun _ h => nomatch h) (fun _ h => nomatch h) .refl⟩
def ifS (c : Loc → Rs Bool) (d f : Loc → Rs Fl) : Loc → Rs Fl := bindR c fun b => if b = true then d else f
theorem gS_if {c : Loc → Rs Bool} {d f : Loc → Rs Fl} {t : Expr} {x y : List Stmt} {pos : Pos} (h1 : GT m X W t c) (h2 : GSs X W K x d) (h3 : GSs X W K y f) : GS X W K (.If t x y pos) (ifS c d f) := by
  obtain ⟨tc, p, g⟩ := h1
  obtain ⟨u, q, k⟩ := h2
  obtain ⟨v, q2, k2⟩ := h3
  refine ⟨_, ps_if p q q2, fun ρ σ H L D rl po => g ρ σ H L _ rl ?_⟩
  unfold ifS bindR at po
  cases hc : c ρ with
  | no => rw [hc] at po; exact po
  | ex x ρ1 => rw [hc] at po; exact fun cls d H' L' r a2 => po cls d σ H' L' r (a2.mono fun _ => rfl) .refl
  | ok b ρ1 =>
    rw [hc] at po
    intro H1 L1 aft hρ
    dsimp only at po
    have aft' := aft.mono (m' := true) fun _ => rfl
    by_cases hb : b = true
    · rw [if_pos hb] at po ⊢
      exact k ρ1 σ H1 L1 D aft.rl (po.after aft' .refl)
    · rw [if_neg hb] at po ⊢
      exact k2 ρ1 σ H1 L1 D aft.rl (po.after aft' .refl)
/-! ### x = e -/
def setL (i : Nat) (s : SV) (ρ : Loc) : Rs Fl := if i < ρ.length then .ok .nx (ρ.set i (some s)) else .no
def asgS (i : Nat) (c : Loc → Rs SV) : Loc → Rs Fl := bindR c fun s ρ => setL i s ρ
theorem po_set {H H1 : Hp} {L L1 Ls : List Addr} {ρ1 : Loc} {σ σ1 : St} {D : Ends} {i : Nat} {s : SV} {x : V} (hK : i ∉ K) (aft : Aft mg true H L ρ1 σ1 H1 L1) (k : Kp K σ σ1) (rs : RS mg H1 s x Ls) (dj : ∀ a ∈ Ls, a ∉ L1) (sb : Sub Ls L H) (q : PoS mg W K H L σ D (setL i s ρ1)) : D.nx (σ1.set i (some x)) H1 := by
  unfold setL at q
  split at q
  · rename_i hi
    obtain ⟨L', h1, h2⟩ := aft.rl.set hi rs dj
    exact q (σ1.set i (some x)) H1 L' ⟨h1, aft.st, fun a ha => (h2 a ha).elim (sb a) (aft.sb a)⟩ (k.set hK)
  · exact q.elim
theorem gS_asg {c : Loc → Rs SV} {i : Nat} {x : Str} {p pos : Pos} (hnd : X.N.Nodup) (hi : X.N[i]? = some x) (hx : L2.Loc X.env.scope x) (hf : X.fn x = true ∨ X.env.scope.names.lookup x = some .local) (hn : isComp e = false) (hK : i ∉ K) (h : GV true X W e c) :
    GS X W K (.Assign [.Name x p] e pos) (asgS i c) := by
  obtain ⟨t, pe, g⟩ := h
  refine ⟨_, ps_set hnd hi hx pe (noSwap hn) hf, fun ρ σ H L D rl po => g ρ σ H L _ rl ?_⟩
  unfold asgS bindR at po
  cases hc : c ρ with
  | no => rw [hc] at po; exact po
  | ex x ρ1 => rw [hc] at po; exact fun cls d H' L' r a2 => po cls d σ H' L' r a2 .refl
  | ok s ρ1 => rw [hc] at po; exact fun v H' Lt L' rs aft dj sb hρ => po_set hK aft .refl rs dj sb po
end Lt
set_option maxHeartbeats 1000000
/-! LtK: targets, loops. -/
namespace Lt
open PySem PySem.Spec L2
open PyProof.Rows hiding St
variable {mg : Str → Option Value} {X : Cx} {W : WX} {e a b : Expr} {m mb m' : Bool} {H : Hp} {K : List Nat}

/-! ### targets: names, tuples of targets -/
inductive Tg where
  | nm (i : Nat) | tp (ts : List Tg)
mutual
def setTg : Tg → SV → Loc → Option Loc
  | .nm i, s, ρ => if i < ρ.length then some (ρ.set i (some s)) else none
  | .tp ts, .v (.tup ps), ρ => setTgs ts ps ρ
  | .tp ts, .v (.tmp ps), ρ => setTgs ts ps ρ
  | .tp _, _, _ => none
def setTgs : List Tg → List PV → Loc → Option Loc
  | [], [], ρ => some ρ
  | t :: ts, p :: ps, ρ => match setTg t (.v p) ρ with
    | some ρ' => setTgs ts ps ρ'
    | none => none
  | _, _, _ => none
end
def DG (mg : Str → Option Value) (K : List Nat) (tg : Tg) (g : TG) : Prop := ∀ ρ σ H L Ls s v Q ρ', RL mg H ρ σ L → RS mg H s v Ls → (∀ a ∈ Ls, a ∉ L) → setTg tg s ρ = some ρ' →
  (∀ σ' L', RL mg H ρ' σ' L' → (∀ a ∈ L', a ∈ Ls ∨ a ∈ L) → Kp K σ σ' → Q σ' H) → g v σ H Q
def DGs (mg : Str → Option Value) (K : List Nat) (tg : List Tg) (g : TGs) : Prop := ∀ ρ σ H L ps vs Q ρ', RL mg H ρ σ L → RVs mg H ps vs → setTgs tg ps ρ = some ρ' →
  (∀ σ' L', RL mg H ρ' σ' L' → (∀ a ∈ L', a ∈ L) → Kp K σ σ' → Q σ' H) → g vs σ H Q
def GG (X : Cx) (K : List Nat) (e : Expr) (tg : Tg) : Prop := ∃ g, PG X e g ∧ DG X.mg K tg g
def GGs (X : Cx) (K : List Nat) (es : List Expr) (tg : List Tg) : Prop := ∃ g, PGs X es g ∧ DGs X.mg K tg g ∧ tg.length = es.length
theorem gG_name {i : Nat} {x : Str} {pos : Pos} (hN : X.N.Nodup) (hi : X.N[i]? = some x) (hx : L2.Loc X.env.scope x) (hf : X.fn x = true ∨ X.env.scope.names.lookup x = some .local) (hK : i ∉ K) : GG X K (.Name x pos) (.nm i) := by
  refine ⟨_, pg_name hN hi hx hf, fun ρ σ H L Ls s v Q ρ' rl rs dj e q => ?_⟩
  unfold setTg at e
  split at e
  · rename_i hl
    cases e
    obtain ⟨L', h1, h2⟩ := rl.set hl rs dj
    exact q _ L' h1 h2 (Kp.refl.set hK)
  · cases e
theorem gGs_nil : GGs X K [] [] := by
  refine ⟨_, pgs_nil, fun ρ σ H L ps vs Q ρ' rl rv e q => ?_, rfl⟩
  cases ps with
  | nil => unfold setTgs at e; cases e; exact ⟨rv, q σ L rl (fun _ h => h) .refl⟩
  | cons _ _ => cases e
theorem assignEach_cons {e : Expr} {es : List Expr} {env : Env} (h : isStar e = false) : assignEach (e :: es) env = (false, assign e env) :: assignEach es env := by
  cases e <;> first | rfl | exact Bool.noConfusion h
theorem gGs_cons {es : List Expr} {t : Tg} {ts : List Tg} (h1 : GG X K e t) (h2 : GGs X K es ts) (hst : isStar e = false) : GGs X K (e :: es) (t :: ts) := by
  obtain ⟨g, p, d⟩ := h1
  obtain ⟨gs, ps, ds, hl⟩ := h2
  refine ⟨_, pgs_cons p ps (by rw [assignEach_cons hst]; rfl), fun ρ σ H L qs vs Q ρ' rl rv e q => ?_, by rw [List.length_cons, List.length_cons, hl]⟩
  cases qs with
  | nil => cases e
  | cons q1 qr =>
    obtain ⟨y, ys, e1, r1, r2⟩ := rv
    unfold setTgs at e
    cases hs : setTg t (.v q1) ρ with
    | none => rw [hs] at e; cases e
    | some ρ1 =>
      rw [hs] at e
      refine ⟨y, ys, e1, d ρ σ H L [] (.v q1) y _ ρ1 rl (.v r1) (fun _ h => nomatch h) hs fun σ1 L1 rl1 s1 k1 => ?_⟩
      exact ds ρ1 σ1 H L1 qr ys Q ρ' rl1 r2 e fun σ2 L2 rl2 s2 k2 => q σ2 L2 rl2 (fun a ha => (s1 a (s2 a ha)).elim (fun h => nomatch h) id) (k1.trans k2)
theorem each_len {env : Env} : ∀ {es : List Expr}, (assignEach es env).length = es.length
  | [] => rfl
  | e :: es => by cases e <;> exact congrArg (· + 1) each_len
theorem each_plain {env : Env} : ∀ {es : List Expr}, es.all (fun e => !isStar e) = true → (assignEach es env).findIdx? (·.1) = none
  | [], _ => rfl
  | e :: es, h => by
    simp only [List.all_cons, Bool.and_eq_true, Bool.not_eq_true'] at h
    rw [assignEach_cons h.1, List.findIdx?_cons]
    simp [each_plain h.2]
theorem gG_tup {es : List Expr} {ts : List Tg} {k : Nat} {pos : Pos} (hc : X.calm = true) (h : GGs X K es ts) (hst : es.all (fun e => !isStar e) = true) : GG X K (.Tuple es k pos) (.tp ts) := by
  obtain ⟨gs, ps, ds, hl⟩ := h
  refine ⟨_, pg_tup (n := es.length) hc ps each_len (each_plain hst), fun ρ σ H L Ls s v Q ρ' rl rs dj e q => ?_⟩
  have hlen : ∀ {ts : List Tg} {qs : List PV} {ρ ρ' : Loc}, setTgs ts qs ρ = some ρ' → qs.length = ts.length := by
    intro ts
    induction ts with
    | nil => intro qs ρ ρ' h; cases qs with | nil => rfl | cons _ _ => cases h
    | cons t ts ih =>
      intro qs ρ ρ' h
      cases qs with
      | nil => cases h
      | cons q qs =>
        unfold setTgs at h
        cases hs : setTg t (.v q) ρ with
        | none => rw [hs] at h; cases h
        | some ρ1 => rw [hs] at h; rw [List.length_cons, List.length_cons, ih h]
  cases s with
  | v p =>
    cases p with
    | tup ps' =>
      change setTgs ts ps' ρ = some ρ' at e
      obtain ⟨a, o, vs, rfl, ha, _, ra⟩ := rs.val
      exact ⟨a, vs, rfl, .inl (.inr ⟨o, ha⟩), by rw [ra.length, hlen e, hl], ds ρ σ H L ps' vs Q ρ' rl ra e fun σ' L' rl' s' k' => q σ' L' rl' (fun a ha => .inr (s' a ha)) k'⟩
    | tmp ps' =>
      change setTgs ts ps' ρ = some ρ' at e
      obtain ⟨a, vs, rfl, ha, ra⟩ := rs.val
      exact ⟨a, vs, rfl, .inl (.inl ha), by rw [ra.length, hlen e, hl], ds ρ σ H L ps' vs Q ρ' rl ra e fun σ' L' rl' s' k' => q σ' L' rl' (fun a ha => .inr (s' a ha)) k'⟩
    | _ => cases e
  | _ => cases e
/-! ### target = e, the target a tuple: unpacking -/
def unpS (tg : Tg) (c : Loc → Rs OV) : Loc → Rs Fl := bindR c fun x ρ => match x.get ρ with
  | some (.v p) => match setTg tg (.v p) ρ with
    | some ρ' => .ok .nx ρ'
    | none => .no
  | _ => .no
theorem gS_unp {tg : Tg} {t : Expr} {c : Loc → Rs OV} {pos : Pos} (hg : GG X K t tg) (hst : isStar t = false) (hn : ∀ x p, t ≠ .Name x p) (hw : swappedStores [t] e X.env = pure none) (h : GO m X W e c) : GS X W K (.Assign [t] e pos) (unpS tg c) := by
  obtain ⟨te, pe, g⟩ := h
  obtain ⟨gg, pg, dg⟩ := hg
  refine ⟨_, ps_asg pe pg (noSwapT hn) hw (by rw [assignEach_cons hst]; rfl), fun ρ σ H L D rl po => g ρ σ H L _ rl ?_⟩
  unfold unpS bindR at po
  cases hc : c ρ with
  | no => rw [hc] at po; exact po
  | ex x ρ1 => rw [hc] at po; exact fun cls d H' L' r a2 => po cls d σ H' L' r (a2.mono fun _ => rfl) .refl
  | ok ov ρ1 =>
    rw [hc] at po
    intro v H1 Lt L1 ro aft dj sb hρ
    have aft' := aft.mono (m' := true) fun _ => rfl
    dsimp only at po
    cases hv : ov.get ρ1 with
    | none => rw [hv] at po; exact po.elim
    | some s =>
      rw [hv] at po
      obtain ⟨Ls, rs, _⟩ := ro.get aft.rl hv
      cases s with
      | v p =>
        dsimp only at po
        cases hs : setTg tg (.v p) ρ1 with
        | none => rw [hs] at po; exact po.elim
        | some ρ2 =>
          rw [hs] at po
          exact dg ρ1 σ H1 L1 [] (.v p) v D.nx ρ2 aft.rl (.v rs.val) (fun _ h => nomatch h) hs fun σ' L' rl' s' k' =>
            po σ' H1 L' ⟨rl', aft'.st, fun a ha => aft'.sb a ((s' a ha).elim (fun h => nomatch h) id)⟩ k'
      | l _ => exact po.elim
      | d _ => exact po.elim
      | r _ => exact po.elim
      | o _ _ => exact po.elim
/-! ### what is walked -/
/-- an iterator that yields these things, wherever Ok holds -/
structure ItOk (mg : Str → Option Value) (J : It) (ps : List PV) (Ok : Hp → Prop) : Prop where
  stay : ∀ H H', Ok H → (∀ b o, H b = some o → isFz o → H' b = some o) → Ok H'
  stop : ∀ H i, Ok H → ps.length ≤ i → J.stop i H
  go : ∀ H i p, Ok H → ps[i]? = some p → J.go i H ∧ ∀ x H', J.yld i H x H' → RV mg H' p x ∧ ∀ b o, H b = some o → H' b = some o
def PoW (mg : Str → Option Value) (W : WX) (H : Hp) (L : List Addr) (σ : St) (R : It → Hp → Prop) : Rs (List PV) → Prop
  | .ok ps ρ' => ∀ J Ok H' L', ItOk mg J ps Ok → Ok H' → Aft mg true H L ρ' σ H' L' → R J H'
  | .ex x ρ' => ∀ cls d H' L', RX mg H' x cls d → Aft mg true H L ρ' σ H' L' → W cls d σ H'
  | .no => False
def GWk (X : Cx) (W : WX) (tg iter : Expr) (c : Loc → Rs (List PV)) : Prop :=
  ∃ wi, PI X tg iter wi ∧ ∀ ρ σ H L R, RL X.mg H ρ σ L → PoW X.mg W H L σ R (c ρ) → wi σ H R
/-! ### for -/
def forL (tg : Tg) (body : Loc → Rs Fl) : List PV → Loc → Rs Fl
  | [], ρ => .ok .nx ρ
  | p :: ps, ρ => match setTg tg (.v p) ρ with
    | none => .no
    | some ρ1 => match body ρ1 with
      | .ok .nx ρ2 => forL tg body ps ρ2
      | .ok .ct ρ2 => forL tg body ps ρ2
      | .ok .bk ρ2 => .ok .nx ρ2
      | r => r
def forS (tg : Tg) (c : Loc → Rs (List PV)) (body : Loc → Rs Fl) : Loc → Rs Fl := bindR c fun ps ρ => forL tg body ps ρ
theorem drop_cons_of {α : Type} {l : List α} {i : Nat} {x : α} (h : l[i]? = some x) : l.drop i = x :: l.drop (i + 1) := by
  obtain ⟨hi, e⟩ := List.getElem?_eq_some_iff.mp h
  rw [List.drop_eq_getElem_cons hi, e]
theorem for_core {tg : Tg} {body : Loc → Rs Fl} {g : TG} {tb : TS} {J : It} {ps : List PV} {Ok : Hp → Prop} {D : Ends} {σ : St} {H : Hp} {ρ : Loc} {L : List Addr} (dg : DG mg K tg g) (db : DS mg W K body tb) (it : ItOk mg J ps Ok) (ok : Ok H)
    (rl : RL mg H ρ σ L) (po : PoS mg W K H L σ D (forL tg body ps ρ)) :
    ∃ V : Nat → Nat → St → Hp → Prop, (∃ n, V 0 n σ H) ∧ ∀ i n σ H, V i n σ H → (J.stop i H ∧ D.nx σ H) ∨ (J.go i H ∧ ∃ N : St → Hp → Prop, (∀ σ' H', N σ' H' → ∃ n', n' < n ∧ V (i + 1) n' σ' H') ∧ ∀ x H', J.yld i H x H' → g x σ H' fun σ2 H2 => tb { D with nx := N, ct := N, bk := D.nx } σ2 H2) := by
  refine ⟨fun i n σ H => n = ps.length - i ∧ Ok H ∧ ∃ ρ L, RL mg H ρ σ L ∧ PoS mg W K H L σ D (forL tg body (ps.drop i) ρ), ⟨ps.length, rfl, ok, ρ, L, rl, po⟩, fun i n σ H h => ?_⟩
  obtain ⟨hn, ok, ρ, L, rl, po⟩ := h
  cases hp : ps[i]? with
  | none =>
    have hl : ps.length ≤ i := List.getElem?_eq_none_iff.mp hp
    rw [List.drop_eq_nil_of_le hl] at po
    exact .inl ⟨it.stop H i ok hl, po σ H L (.refl rl) .refl⟩
  | some p =>
    obtain ⟨g1, g2⟩ := it.go H i p ok hp
    rw [drop_cons_of hp] at po
    unfold forL at po
    have hi : i < ps.length := (List.getElem?_eq_some_iff.mp hp).1
    refine .inr ⟨g1, fun σ H => ps.length - (i + 1) = ps.length - (i + 1) ∧ Ok H ∧ ∃ ρ L, RL mg H ρ σ L ∧ PoS mg W K H L σ D (forL tg body (ps.drop (i + 1)) ρ), fun σ' H' h => ⟨_, by omega, h⟩, fun x H' hy => ?_⟩
    obtain ⟨rv, kp⟩ := g2 x H' hy
    have aft0 : Aft mg true H L ρ σ H' L := ⟨rl.stay (fun b o q _ => kp b o q) fun b _ o q => kp b o q, fun b o q _ => kp b o q, .refl⟩
    cases hs : setTg tg (.v p) ρ with
    | none => rw [hs] at po; exact po.elim
    | some ρ1 =>
      rw [hs] at po
      refine dg ρ σ H' L [] (.v p) x _ ρ1 aft0.rl (.v rv) (fun _ h => nomatch h) hs fun σ1 L1 rl1 s1 k1 => ?_
      have aft1 : Aft mg true H L ρ1 σ1 H' L1 := ⟨rl1, aft0.st, fun a ha => .inl ((s1 a ha).elim (fun h => nomatch h) id)⟩
      have okN : ∀ {ρ2 : Loc} {σ2 : St} {H2 : Hp} {L2 : List Addr}, Aft mg true H' L1 ρ2 σ2 H2 L2 → Ok H2 := fun a2 => it.stay _ _ (it.stay _ _ ok fun b o q _ => kp b o q) a2.st.fz
      refine db ρ1 σ1 H' L1 _ rl1 ?_
      dsimp only at po
      cases hb : body ρ1 with
      | no => rw [hb] at po; exact po
      | ex x ρ2 => rw [hb] at po; exact po.after aft1 k1
      | ok f ρ2 =>
        rw [hb] at po
        cases f with
        | nx => exact fun σ2 H2 L2 a2 k2 => ⟨rfl, okN a2, ρ2, L2, a2.rl, po.after (aft1.trans a2) (k1.trans k2)⟩
        | ct => exact fun σ2 H2 L2 a2 k2 => ⟨rfl, okN a2, ρ2, L2, a2.rl, po.after (aft1.trans a2) (k1.trans k2)⟩
        | bk => exact fun σ2 H2 L2 a2 k2 => po σ2 H2 L2 (aft1.trans a2) (k1.trans k2)
        | rt s => exact po.after aft1 k1
theorem gS_for {tg : Tg} {t iter : Expr} {c : Loc → Rs (List PV)} {body : List Stmt} {d : Loc → Rs Fl} {pos : Pos} (hp : PassesOwn (model X.prog X.w) X.A X.env X.xe) (hc : X.calm = true) (hi : GWk X W t iter c) (hg : GG X K t tg) (hb : GSs X W K body d) (hset : isSet iter = false) :
    GS X W K (.For t iter body [] pos) (forS tg c d) := by
  obtain ⟨wi, pi, gi⟩ := hi
  obtain ⟨gg, pg, dg⟩ := hg
  obtain ⟨tb, pb, db⟩ := hb
  refine ⟨_, ps_for hp hc pi pg pb (fun x => by cases iter <;> first | rfl | exact Bool.noConfusion hset), fun ρ σ H L D rl po => gi ρ σ H L _ rl ?_⟩
  unfold forS bindR at po
  cases hcc : c ρ with
  | no => rw [hcc] at po; exact po
  | ex x ρ1 => rw [hcc] at po; exact fun cls d H' L' r a2 => po cls d σ H' L' r a2 .refl
  | ok ps ρ1 =>
    rw [hcc] at po
    intro J Ok H1 L1 it ok aft
    exact for_core dg db it ok aft.rl (po.after aft .refl)
/-! ### while -/
def whl (c : Loc → Rs Bool) (body : Loc → Rs Fl) : Nat → Loc → Rs Fl
  | 0, _ => .no
  | n + 1, ρ => match c ρ with
    | .ok true ρ1 => match body ρ1 with
      | .ok .nx ρ2 => whl c body n ρ2
      | .ok .ct ρ2 => whl c body n ρ2
      | .ok .bk ρ2 => .ok .nx ρ2
      | r => r
    | .ok false ρ1 => .ok .nx ρ1
    | .ex x ρ1 => .ex x ρ1
    | .no => .no
theorem gS_while {t : Expr} {c : Loc → Rs Bool} {body : List Stmt} {d : Loc → Rs Fl} {pos : Pos} (n : Nat) (hp : PassesOwn (model X.prog X.w) X.A X.env X.xe) (ht : GT m X W t c) (hb : GSs X W K body d) : GS X W K (.While t body [] pos) (whl c d n) := by
  obtain ⟨tc, pt, gt⟩ := ht
  obtain ⟨tb, pb, db⟩ := hb
  refine ⟨_, ps_while hp pt pb, fun ρ σ H L D rl po => ?_⟩
  refine ⟨fun k σ H => ∃ ρ L, RL X.mg H ρ σ L ∧ PoS X.mg W K H L σ D (whl c d k ρ), ⟨n, ρ, L, rl, po⟩, fun k σ H h => ?_⟩
  obtain ⟨ρ, L, rl, po⟩ := h
  cases k with
  | zero => exact po.elim
  | succ k =>
    unfold whl at po
    refine gt ρ σ H L _ rl ?_
    cases hcc : c ρ with
    | no => rw [hcc] at po; exact po
    | ex x ρ1 => rw [hcc] at po; exact fun cls d H' L' r a2 => po cls d σ H' L' r (a2.mono fun _ => rfl) .refl
    | ok b ρ1 =>
      rw [hcc] at po
      intro H1 L1 aft hρ
      have aft' := aft.mono (m' := true) fun _ => rfl
      cases b with
      | false =>
        rw [if_neg Bool.false_ne_true]
        exact po σ H1 L1 aft' .refl
      | true =>
        rw [if_pos rfl]
        refine ⟨fun σ H => ∃ ρ L, RL X.mg H ρ σ L ∧ PoS X.mg W K H L σ D (whl c d k ρ), fun σ' H' h => ⟨k, by omega, h⟩, ?_⟩
        refine db ρ1 σ H1 L1 _ aft.rl ?_
        dsimp only at po
        cases hbb : d ρ1 with
        | no => rw [hbb] at po; exact po
        | ex x ρ2 => rw [hbb] at po; exact po.after aft' .refl
        | ok f ρ2 =>
          rw [hbb] at po
          cases f with
          | nx => exact fun σ2 H2 L2 a2 k2 => ⟨ρ2, L2, a2.rl, po.after (aft'.trans a2) k2⟩
          | ct => exact fun σ2 H2 L2 a2 k2 => ⟨ρ2, L2, a2.rl, po.after (aft'.trans a2) k2⟩
          | bk => exact fun σ2 H2 L2 a2 k2 => po σ2 H2 L2 (aft'.trans a2) k2
          | rt s => exact po.after aft' .refl
end Lt
set_option maxHeartbeats 1000000
/-! LtFn: defs that are called where no display is under way (so that repr may be read). -/
namespace Lt
open PySem PySem.Spec L2
open PyProof.Rows hiding St
/-- room for calls, and no display under way -/
structure RoomG (k : Nat) (A : Around) : Prop where
  r : Room k A
  g : A.guards = some []
theorem RoomG.mono {j k : Nat} {A : Around} (q : RoomG k A) (h : j ≤ k) : RoomG j A := ⟨q.r.mono h, q.g⟩
theorem RoomG.deeper {k : Nat} {A : Around} (q : RoomG (k + 1) A) (env : Env) : RoomG k (A.deeper env) := ⟨q.r.deeper env, q.g⟩
/-- what a call of f keeps, there -/
structure FnG (P : Program) (w : World) (K : PySem.W.Frag) (mg : Str → Option Value) (base : Heap) (k : Nat) (f : Addr) (fd : FuncData) (ps : List Str) (sp : Sp) : Prop where
  many : ∀ {vs H Q E}, sp vs H Q E → vs.length = ps.length
  go : ∀ {A : Around} {outer : List Env} {s : Shared} {H : Hp} {args : Args} {us : List Value} {vs : List V} {Q : VK} {E : XK}, RoomG k A → Env0 P w K mg base A outer s H → BindsTo s fd args (ps.zip us) → Vals vs us → sp vs H Q E →
    codeAny (model P w) A (.call (.ref f) args) (CR (L2.CX P w) outer P w H s Q E) s
section
variable {P : Program} {w : World} {K : PySem.W.Frag} {mg : Str → Option Value} {base : Heap} {j k : Nat} {f : Addr} {fd : FuncData} {ps : List Str} {sp sp' : Sp}
theorem FnG.mono (F : FnG P w K mg base j f fd ps sp) (h : j ≤ k) : FnG P w K mg base k f fd ps sp := ⟨F.many, fun q => F.go (q.mono h)⟩
theorem FnG.imp (F : FnG P w K mg base k f fd ps sp) (h : ∀ vs H Q E, sp' vs H Q E → sp vs H Q E) : FnG P w K mg base k f fd ps sp' := ⟨fun q => F.many (h _ _ _ _ q), fun a b c d e => F.go a b c d (h _ _ _ _ e)⟩
/-- what a body's end is to the caller -/
theorem end_of {X : Cx} {s' : Shared} {Q : VK} {fl : Flow} (z : SP X [] { nx := fun _ H' => Q .non H', rt := Q } fl s') (hX : ∀ {σ : St} {H' : Hp} {v : V} {u : Value}, Inv X [] σ H' s' → RelV v u → Q v H' → CE X.outer X.prog X.w X.H_0 X.s_0 Q u s') (E : XK) :
    CR (L2.CX X.prog X.w) X.outer X.prog X.w X.H_0 X.s_0 Q E (.ok (match fl with | .ret u => .ret u | _ => .ret .none)) s' ∧ fl ≠ .brk ∧ fl ≠ .cont := by
  cases fl with
  | ret u => let ⟨v, _, _, J, r, q⟩ := z; exact ⟨hX J r q, nofun, nofun⟩
  | next => let ⟨_, _, J, q⟩ := z; exact ⟨hX (v := .non) J rfl q, nofun, nofun⟩
  | brk => let ⟨_, _, _, q⟩ := z; exact q.elim
  | cont => let ⟨_, _, _, q⟩ := z; exact q.elim
/-- THE RULE for a def -/
theorem fnG_of {x qual : Str} {st : Stmt} {N : List Str} (F : Fun K x qual st f fd) (S : FnScope N ps (defScope st)) (len : ∀ {vs H Q E}, sp vs H Q E → vs.length = ps.length)
    (hbody : ∀ (cdv : Value) (A : Around) (outer : List Env) (s : Shared) (H : Hp) (vs : List V) (Q : VK) (E : XK), RoomG k (A.deeper (envOfC qual (defScope st) s.heap.objs.size f cdv)) → sp vs H Q E →
      ∃ t, PSs (cxOf (L2.CX P w) P w K mg base N qual (defScope st) f cdv A outer s H E) (defBody st) t ∧ t { nx := fun _ H' => Q .non H', rt := Q } (L2.start N vs) H) :
    FnG P w K mg base (k + 1) f fd ps sp where
  many := len
  go := by
    intro A outer s H args us vs Q E room e0 hb rv hsp
    obtain ⟨oc, od, kV, doc, pm, an, cdv, ct, osl, rfl, look, hcd⟩ := F.ex
    have there : ∀ b o, base.get? b = some o → s.heap.get? b = some o := fun b o e => (e0.bs b o e).1
    have kin : K.In s.heap := e0.mod.kin.keeps there
    have args_ok : ∀ y ∈ ps.zip us, (defScope st).names.lookup y.1 = some .local ∨ ((defScope st).names.lookup y.1 = some .cell ∧ ((cellsFrom (s.heap.objs.size + 1) (defScope st).names []).lookup y.1).isSome = true) := by
      intro y hy
      exact (S.par y.1 (List.of_mem_zip (a := y.1) (b := y.2) hy).1).imp id fun q => ⟨q, PySem.W.cellsFrom_some _ _ _ (.inl q)⟩
    obtain ⟨t, pt, ht⟩ := hbody cdv A outer s H vs Q E (room.deeper _) hsp
    refine codeAny_call_function room.r.depth (kin _ _ look) rfl S.co S.gen rfl (PySem.W.codeRec_of kin hcd) (hb _ _ _ _ (wpAny_newFunctionEnv_cells S.kind args_ok fun env he s1 x => ?_))
    subst he
    refine ⟨(e0.mod.nolimit.keeps there).keeps x.toInCall.keep, codeAny_func ?_⟩
    refine wpAny_mono (pt.run [] s1 (L2.start N vs) H _ (inv_start S room.r.hd e0 (len hsp) rv x) ht) (fun fl s' z => ?_) fun _ _ z => z
    have out := end_of z (fun {σ H' v u} J r q => ⟨v, H', J.os, J.bare, J.base, J.hok, r, q⟩) E
    cases fl with
    | ret u => exact out.1
    | next => exact out.1
    | brk => exact (out.2.1 rfl).elim
    | cont => exact (out.2.2 rfl).elim
end
/-! ### calls -/
section
variable {X : Cx} {k : Nat} {f : Addr} {fd : FuncData} {ps : List Str} {sp : Sp} {E : St → XK} {x : Str} {p pos : Pos} {e : Expr} {es : List Expr} {t : TA}
theorem run_fnG {pins : List (Addr × Obj)} {σ : St} {H : Hp} {s : Shared} {Q : VK} {us : List Value} {vs : List V} (F : FnG X.prog X.w X.K X.mg X.base k f fd ps sp) (hr : RoomG k X.A) (hb : Binds X.K fd ps []) (hx : PassesAt (L2.CX X.prog X.w) X σ (E σ)) (I : Inv X pins σ H s) (rv : Vals vs us) (h : sp vs H Q (E σ)) :
    wpAny (model X.prog X.w) X.A (call (.ref f) us) (EP X pins σ Q) X.xe s := by
  have n : us.length = ps.length := rv.length ▸ F.many h
  have b := hb s us I.kIn (by rw [List.append_nil]; exact n)
  rw [List.append_nil] at b
  refine wpAny_call (codeAny_mono (F.go hr I.env0 b rv h) fun r s' z => ?_)
  match r, z with
  | .error e, z => exact hx pins H s e s' I z
  | .ok (.ret u), z => exact I.after z
  | .ok .next, z => exact z.elim
  | .ok .brk, z => exact z.elim
  | .ok .cont, z => exact z.elim
def tCallG (sp : Sp) (E : St → XK) (t : TA) : TE := fun σ H Q => t σ H fun vs H1 => sp vs H1 Q (E σ)
theorem pe_callG (F : FnG X.prog X.w X.K X.mg X.base k f fd ps sp) (hr : RoomG k X.A) (hg : Gl X x) (hm : X.mg x = some (.ref f)) (hk : PySem.W.keepIn X.K (.ref f) = true) (hb : Binds X.K fd ps []) (hx : ∀ σ, PassesAt (L2.CX X.prog X.w) X σ (E σ))
    (ha : PA X (e :: es) t) (hdb : (x == ("__debug__" : Str)) = false) (he : starEach (e :: es) X.env = (false, eval e X.env) :: starEach es X.env) (hpl : (backTo pos (starEach es X.env)).any (·.1) = false) : PE X (.Call (.Name x p) (e :: es) [] pos) (tCallG sp E t) where
  run := fun pins s σ H Q I h => wpAny_Call_Name_kw (ld_glob I hg hm (PySem.W.callWith_K (h₀ := X.base) I.ok.mod.kin hk (thn (ha.run pos pins s σ H _ I h) fun us s1 ⟨vs, H1, I1, r, q⟩ => ⟨I1.kIn, run_fnG F hr hb (hx σ) I1 r q⟩) he hpl) hdb)
theorem pe_callG0 (F : FnG X.prog X.w X.K X.mg X.base k f fd ps sp) (hr : RoomG k X.A) (hg : Gl X x) (hm : X.mg x = some (.ref f)) (hk : PySem.W.keepIn X.K (.ref f) = true) (hb : Binds X.K fd ps []) (hx : ∀ σ, PassesAt (L2.CX X.prog X.w) X σ (E σ)) (hdb : (x == ("__debug__" : Str)) = false) :
    PE X (.Call (.Name x p) [] [] pos) (fun σ H Q => sp [] H Q (E σ)) where
  run := fun pins s σ H Q I h => wpAny_Call_Name_kw (ld_glob I hg hm (PySem.W.callWith_K0 I.kIn hk (run_fnG (us := []) F hr hb (hx σ) I .nil h)) hdb)
end
end Lt
set_option maxHeartbeats 1000000
/-! LtL: defs and their calls. -/
namespace Lt
open PySem PySem.Spec L2
open PyProof.Rows hiding St
variable {mg : Str → Option Value} {X : Cx} {W : WX} {e a b : Expr} {m mb m' : Bool} {H : Hp} {K : List Nat}

inductive FR where
  | ok (s : SV) (outs : List SV) | ex (x : Xn) (outs : List SV) | no
abbrev F := List SV → FR
inductive RAs (mg : Str → Option Value) (H : Hp) : List SV → List V → List Addr → Prop where
  | nil : RAs mg H [] [] []
  | cons {s : SV} {v : V} {ss : List SV} {vs : List V} {L1 L2 : List Addr} : RS mg H s v L1 → RAs mg H ss vs L2 → (∀ a ∈ L1, a ∉ L2) → RAs mg H (s :: ss) (v :: vs) (L1 ++ L2)
theorem RAs.length {ss : List SV} {vs : List V} {L : List Addr} (r : RAs mg H ss vs L) : vs.length = ss.length := by
  induction r with
  | nil => rfl
  | cons _ _ _ ih => rw [List.length_cons, List.length_cons, ih]
theorem RAs.there {ss : List SV} {vs : List V} {L : List Addr} (r : RAs mg H ss vs L) : ∀ a ∈ L, ∃ o, H a = some o := by
  induction r with
  | nil => intro a h; exact nomatch h
  | cons r _ _ ih =>
    intro a h
    rcases List.mem_append.mp h with h | h
    · obtain ⟨o, e, _⟩ := r.there a h; exact ⟨o, e⟩
    · exact ih a h
/-- what a def promises by its semantics -/
def spF (mg : Str → Option Value) (f : F) : Sp := fun vs H Q E => ∃ ss L, RAs mg H ss vs L ∧ match f ss with
  | .ok s outs => ∀ v H' Lt L', RS mg H' s v Lt → RAs mg H' outs vs L' → (∀ a ∈ Lt, a ∉ L') → Stp true H H' L → Sub Lt L H → Sub L' L H → Q v H'
  | .ex x outs => ∀ cls d H' L', RX mg H' x cls d → RAs mg H' outs vs L' → Stp true H H' L → Sub L' L H → E cls d H'
  | .no => False
/-! ### the arguments: what is owned goes along, and comes back -/
def take1 (ρ : Loc) : OV → Option (SV × Loc)
  | .tm s => some (s, ρ)
  | .sl i => match ρ[i]? with
    | some (some (.v p)) => some (.v p, ρ)
    | some (some s) => some (s, ρ.set i none)
    | _ => none
  | .fd i k => match (OV.fd i k).get ρ with
    | some (.v p) => some (.v p, ρ)
    | _ => none
def takeAll : Loc → List OV → Option (List SV × Loc)
  | ρ, [] => some ([], ρ)
  | ρ, x :: xs => match take1 ρ x with
    | some (s, ρ1) => match takeAll ρ1 xs with
      | some (ss, ρ2) => some (s :: ss, ρ2)
      | none => none
    | none => none
def isV : SV → Bool
  | .v _ => true
  | _ => false
def put1 (ρ : Loc) (x : OV) (s out : SV) : Loc := match x with
  | .sl i => if isV s then ρ else ρ.set i (some out)
  | _ => ρ
def putAll : Loc → List OV → List SV → List SV → Loc
  | ρ, x :: xs, s :: ss, o :: os => putAll (put1 ρ x s o) xs ss os
  | ρ, _, _, _ => ρ
def callF (f : F) (c : Loc → Rs (List OV)) : Loc → Rs OV := bindR c fun ovs ρ => match takeAll ρ ovs with
  | none => .no
  | some (ss, ρ1) => match f ss with
    | .ok s outs => .ok (.tm s) (putAll ρ1 ovs ss outs)
    | .ex x outs => .ex x (putAll ρ1 ovs ss outs)
    | .no => .no
theorem take1_ok {ρ ρ1 : Loc} {σ : St} {L Lt : List Addr} {x : OV} {v : V} {s : SV} (rl : RL mg H ρ σ L) (ro : RO mg H σ x v Lt) (dj : ∀ a ∈ Lt, a ∉ L) (e : take1 ρ x = some (s, ρ1)) :
    ∃ Ls L1, RS mg H s v Ls ∧ RL mg H ρ1 σ L1 ∧ (∀ a ∈ Ls, a ∉ L1) ∧ (∀ a ∈ Ls, a ∈ Lt ∨ a ∈ L) ∧ (∀ a ∈ L1, a ∈ L) ∧ (∀ i, x = .sl i → isV s = false → ρ1[i]? = some none) ∧ (∀ i : Nat, ρ[i]? = some none → ρ1[i]? = some none) := by
  cases x with
  | tm t =>
    cases e
    exact ⟨Lt, L, ro, rl, dj, fun a h => .inl h, fun _ h => h, (fun i h _ => nomatch h), fun i h => h⟩
  | sl i =>
    unfold take1 at e
    dsimp only at e
    cases hr : ρ[i]? with
    | none => rw [hr] at e; cases e
    | some o =>
      cases o with
      | none => rw [hr] at e; cases e
      | some t =>
        rw [hr] at e
        obtain ⟨y, Ls, Lr, h1, h2, h3, h4, h5⟩ := rl.get hr
        rw [ro.1] at h1; cases h1
        have own : ∀ {t' : SV}, RS mg H t' v Ls → some (t', ρ.set i none) = some (s, ρ1) → ∃ Ls L1, RS mg H s v Ls ∧ RL mg H ρ1 σ L1 ∧ (∀ a ∈ Ls, a ∉ L1) ∧ (∀ a ∈ Ls, a ∈ Lt ∨ a ∈ L) ∧ (∀ a ∈ L1, a ∈ L) ∧ (∀ j, OV.sl i = .sl j → isV s = false → ρ1[j]? = some none) ∧ (∀ j : Nat, ρ[j]? = some none → ρ1[j]? = some none) := by
          intro t' h2 e
          cases e
          refine ⟨Ls, Lr, h2, h3, h4, fun a h => .inr ((h5 a).mpr (.inl h)), fun a h => (h5 a).mpr (.inr h), fun j hj _ => ?_, fun j hj => ?_⟩
          · cases hj; exact List.getElem?_set_self (List.getElem?_eq_some_iff.mp hr).1
          · by_cases hij : i = j
            · subst hij; rw [hr] at hj; cases hj
            · rw [List.getElem?_set_ne hij]; exact hj
        cases t with
        | v p =>
          cases e
          cases h2 with | v r => exact ⟨[], L, .v r, rl, (fun _ h => nomatch h), (fun _ h => nomatch h), fun _ h => h, (fun j _ h => by cases h), fun j h => h⟩
        | l _ => exact own h2 e
        | d _ => exact own h2 e
        | r _ => exact own h2 e
        | o _ _ => exact own h2 e
  | fd i k =>
    unfold take1 at e
    dsimp only at e
    cases hr : (OV.fd i k).get ρ with
    | none => rw [hr] at e; cases e
    | some t =>
      rw [hr] at e
      obtain ⟨Ls, rs, _⟩ := ro.get rl hr
      cases t with
      | v p => cases e; cases rs with | v r => exact ⟨[], L, .v r, rl, (fun _ h => nomatch h), (fun _ h => nomatch h), fun _ h => h, (fun j h _ => nomatch h), fun j h => h⟩
      | l _ => cases e
      | d _ => cases e
      | r _ => cases e
      | o _ _ => cases e

theorem takeAll_ok : ∀ {xs : List OV} {ρ ρ1 : Loc} {σ : St} {L Lt : List Addr} {vs : List V} {ss : List SV}, RL mg H ρ σ L → ROs mg H σ xs vs Lt → (∀ a ∈ Lt, a ∉ L) → takeAll ρ xs = some (ss, ρ1) →
    ∃ LA L1, RAs mg H ss vs LA ∧ RL mg H ρ1 σ L1 ∧ (∀ a ∈ LA, a ∉ L1) ∧ (∀ a ∈ LA, a ∈ Lt ∨ a ∈ L) ∧ (∀ a ∈ L1, a ∈ L) ∧ (∀ i : Nat, ρ[i]? = some none → ρ1[i]? = some none)
  | [], ρ, ρ1, σ, L, Lt, vs, ss, rl, ro, dj, e => by
    cases ro
    cases e
    exact ⟨[], L, .nil, rl, (fun _ h => nomatch h), (fun _ h => nomatch h), fun _ h => h, fun i h => h⟩
  | x :: xs, ρ, ρ1, σ, L, Lt, vs, ss, rl, ro, dj, e => by
    cases ro with
    | @cons _ v _ vs L1 L2 r rs n =>
      unfold takeAll at e
      cases h1 : take1 ρ x with
      | none => rw [h1] at e; cases e
      | some q =>
        obtain ⟨s, ρ2⟩ := q
        rw [h1] at e
        dsimp only at e
        cases h2 : takeAll ρ2 xs with
        | none => rw [h2] at e; cases e
        | some q2 =>
          obtain ⟨ss2, ρ3⟩ := q2
          rw [h2] at e
          cases e
          obtain ⟨Ls, Lm, k1, k2, k3, k4, k5, k6, k7⟩ := take1_ok rl r (fun a h => dj a (List.mem_append_left _ h)) h1
          obtain ⟨LA, Lf, j1, j2, j3, j4, j5, j7⟩ := takeAll_ok k2 rs (fun a h h' => dj a (List.mem_append_right _ h) (k5 a h')) h2
          refine ⟨Ls ++ LA, Lf, .cons k1 j1 fun a h h' => ?_, j2, fun a h h' => ?_, fun a h => ?_, fun a h => k5 a (j5 a h), fun i h => j7 i (k7 i h)⟩
          · rcases j4 a h' with z | z
            · rcases k4 a h with y | y
              · exact n a y z
              · exact dj a (List.mem_append_right _ z) y
            · exact k3 a h z
          · rcases List.mem_append.mp h with h | h
            · exact k3 a h (j5 a h')
            · exact j3 a h h'
          · rcases List.mem_append.mp h with h | h
            · rcases k4 a h with y | y
              · exact .inl (List.mem_append_left _ y)
              · exact .inr y
            · rcases j4 a h with y | y
              · exact .inl (List.mem_append_right _ y)
              · exact .inr (k5 a y)
/-- which slots were taken -/
theorem takeAll_slots : ∀ {xs : List OV} {ρ ρ1 : Loc} {σ : St} {L Lt : List Addr} {vs : List V} {ss : List SV}, RL mg H ρ σ L → ROs mg H σ xs vs Lt → (∀ a ∈ Lt, a ∉ L) → takeAll ρ xs = some (ss, ρ1) →
    ∀ (j i : Nat) (s : SV), xs[j]? = some (.sl i) → ss[j]? = some s → isV s = false → ρ1[i]? = some none ∧ (∀ j', xs[j']? = some (.sl i) → ss[j']?.map isV = some false → j' = j) ∧ ∃ v, vs[j]? = some v ∧ σ[i]? = some (some v)
  | [], ρ, ρ1, σ, L, Lt, vs, ss, rl, ro, dj, e => by intro j i s h; simp at h
  | x :: xs, ρ, ρ1, σ, L, Lt, vs, ss, rl, ro, dj, e => by
    cases ro with
    | @cons _ v _ vs L1 L2 r rs n =>
      unfold takeAll at e
      cases h1 : take1 ρ x with
      | none => rw [h1] at e; cases e
      | some q =>
        obtain ⟨s, ρ2⟩ := q
        rw [h1] at e
        dsimp only at e
        cases h2 : takeAll ρ2 xs with
        | none => rw [h2] at e; cases e
        | some q2 =>
          obtain ⟨ss2, ρ3⟩ := q2
          rw [h2] at e
          cases e
          obtain ⟨Ls, Lm, k1, k2, k3, k4, k5, k6, k7⟩ := take1_ok rl r (fun a h => dj a (List.mem_append_left _ h)) h1
          have dj2 : ∀ a ∈ L2, a ∉ Lm := fun a h h' => dj a (List.mem_append_right _ h) (k5 a h')
          obtain ⟨LA, Lf, j1, j2, j3, j4, j5, j7⟩ := takeAll_ok k2 rs dj2 h2
          have ih := takeAll_slots k2 rs dj2 h2
          -- a slot that is none at ρ2 is not taken as owned later
          have none_not : ∀ i, ρ2[i]? = some none → ∀ (j' : Nat), xs[j']? = some (.sl i) → ss2[j']?.map isV = some false → False := by
            intro i hi
            have : ∀ {xs : List OV} {ρ ρ1 : Loc} {ss : List SV}, takeAll ρ xs = some (ss, ρ1) → ρ[i]? = some none → ∀ (j' : Nat), xs[j']? = some (.sl i) → False := by
              intro xs
              induction xs with
              | nil => intro ρ ρ1 ss _ _ j' h; simp at h
              | cons y ys ih =>
                intro ρ ρ1 ss ht hn j' hj
                unfold takeAll at ht
                cases g1 : take1 ρ y with
                | none => rw [g1] at ht; cases ht
                | some q =>
                  obtain ⟨t, ρ4⟩ := q
                  rw [g1] at ht
                  dsimp only at ht
                  cases j' with
                  | zero =>
                    simp at hj; subst hj
                    unfold take1 at g1; dsimp only at g1
                    rw [hn] at g1; cases g1
                  | succ j' =>
                    cases g2 : takeAll ρ4 ys with
                    | none => rw [g2] at ht; cases ht
                    | some q2 =>
                      refine ih (ss := q2.1) (ρ1 := q2.2) g2 ?_ j' (by simpa using hj)
                      cases y with
                      | tm t' => cases g1; exact hn
                      | sl k =>
                        unfold take1 at g1; dsimp only at g1
                        by_cases hk : k = i
                        · subst hk; rw [hn] at g1; cases g1
                        · split at g1
                          · cases g1; exact hn
                          · cases g1; rw [List.getElem?_set_ne hk]; exact hn
                          · cases g1
                      | fd k f =>
                        unfold take1 at g1; dsimp only at g1
                        split at g1
                        · cases g1; exact hn
                        · cases g1
            intro j' hj _
            exact this h2 hi j' hj
          intro j i t hx hs hv
          cases j with
          | zero =>
            simp at hx hs; subst hx hs
            have hi := k6 i rfl hv
            refine ⟨j7 i hi, fun j' hj' hv' => ?_, v, rfl, r.1⟩
            cases j' with
            | zero => rfl
            | succ j' => exact (none_not i hi j' (by simpa using hj') (by simpa using hv')).elim
          | succ j =>
            obtain ⟨i1, i2, w, i3, i4⟩ := ih j i t (by simpa using hx) (by simpa using hs) hv
            refine ⟨i1, fun j' hj' hv' => ?_, w, by simpa using i3, i4⟩
            cases j' with
            | zero =>
              simp at hj' hv'; subst hj'
              exact (none_not i (k6 i rfl hv') j (by simpa using hx) (by rw [show ss2[j]? = some t by simpa using hs]; simp [hv])).elim
            | succ j' => rw [i2 j' (by simpa using hj') (by simpa using hv')]
theorem set_same {σ : St} {i : Nat} {x : Option V} (h : σ[i]? = some x) : σ.set i x = σ := by
  apply List.ext_getElem?; intro j
  by_cases e : i = j
  · subst e; rw [List.getElem?_set_self (List.getElem?_eq_some_iff.mp h).1, h]
  · rw [List.getElem?_set_ne e]
theorem putAll_ok {σ : St} : ∀ {xs : List OV} {ρ : Loc} {ss outs : List SV} {vs : List V} {L L' : List Addr}, xs.length = ss.length →
    (∀ (j i : Nat) (s : SV), xs[j]? = some (.sl i) → ss[j]? = some s → isV s = false → ρ[i]? = some none ∧ (∀ j', xs[j']? = some (.sl i) → ss[j']?.map isV = some false → j' = j) ∧ ∃ v, vs[j]? = some v ∧ σ[i]? = some (some v)) →
    RL mg H ρ σ L → RAs mg H outs vs L' → (∀ a ∈ L', a ∉ L) → ∃ L2, RL mg H (putAll ρ xs ss outs) σ L2 ∧ ∀ a ∈ L2, a ∈ L' ∨ a ∈ L
  | [], ρ, ss, outs, vs, L, L', hl, hc, rl, ra, dj => ⟨L, rl, fun a h => .inr h⟩
  | x :: xs, ρ, [], outs, vs, L, L', hl, hc, rl, ra, dj => ⟨L, rl, fun a h => .inr h⟩
  | x :: xs, ρ, s :: ss, [], vs, L, L', hl, hc, rl, ra, dj => ⟨L, rl, fun a h => .inr h⟩
  | x :: xs, ρ, s :: ss, o :: os, vs, L, L', hl, hc, rl, ra, dj => by
    cases ra with
    | @cons _ v _ vs L1 L2 r rs n =>
      have hl' : xs.length = ss.length := by simpa using hl
      have plain : put1 ρ x s o = ρ → ∃ L3, RL mg H (putAll ρ (x :: xs) (s :: ss) (o :: os)) σ L3 ∧ ∀ a ∈ L3, a ∈ L1 ++ L2 ∨ a ∈ L := by
        intro hp
        unfold putAll
        rw [hp]
        obtain ⟨L3, h1, h2⟩ := putAll_ok hl' (fun j i t hx hs hv => by
          obtain ⟨k1, k2, w, k3, k4⟩ := hc (j + 1) i t (by simpa using hx) (by simpa using hs) hv
          exact ⟨k1, fun j' hj hv' => by have := k2 (j' + 1) (by simpa using hj) (by simpa using hv'); omega, w, by simpa using k3, k4⟩) rl rs fun a h => dj a (List.mem_append_right _ h)
        exact ⟨L3, h1, fun a h => (h2 a h).imp (fun z => List.mem_append_right _ z) id⟩
      cases x with
      | tm t => exact plain rfl
      | fd i k => exact plain rfl
      | sl i =>
        by_cases hv : isV s = true
        · exact plain (by show (if isV s = true then ρ else ρ.set i (some o)) = ρ; rw [if_pos hv])
        · have hv : isV s = false := by simpa using hv
          obtain ⟨k1, k2, w, k3, k4⟩ := hc 0 i s rfl rfl hv
          have : w = v := by simpa using k3.symm
          subst this
          obtain ⟨Lf, f1, f2⟩ := rl.fill k1 r fun a h => dj a (List.mem_append_left _ h)
          rw [set_same k4] at f1
          unfold putAll put1
          dsimp only
          rw [if_neg (by rw [hv]; exact Bool.false_ne_true)]
          obtain ⟨L3, h1, h2⟩ := putAll_ok hl' (fun j i' t hx hs hv' => by
            obtain ⟨m1, m2, w', m3, m4⟩ := hc (j + 1) i' t (by simpa using hx) (by simpa using hs) hv'
            refine ⟨?_, fun j' hj hv'' => by have := m2 (j' + 1) (by simpa using hj) (by simpa using hv''); omega, w', by simpa using m3, m4⟩
            have : i ≠ i' := fun z => by
              subst z
              have := m2 0 rfl (by simp [hv])
              omega
            rw [List.getElem?_set_ne this]; exact m1) f1 rs (fun a h h' => by
            rcases (f2 a).mp h' with z | z
            · exact n a z h
            · exact dj a (List.mem_append_right _ h) z)
          exact ⟨L3, h1, fun a h => by
            rcases h2 a h with z | z
            · exact .inl (List.mem_append_right _ z)
            · rcases (f2 a).mp z with z | z
              · exact .inl (List.mem_append_left _ z)
              · exact .inr z⟩
theorem ROs.length {σ : St} {xs : List OV} {vs : List V} {L : List Addr} (r : ROs mg H σ xs vs L) : vs.length = xs.length := by
  induction r with
  | nil => rfl
  | cons _ _ _ ih => rw [List.length_cons, List.length_cons, ih]
theorem RL.lim {H' : Hp} {ρ : Loc} {σ : St} {L LA : List Addr} (rl : RL mg H ρ σ L) (st : Stp true H H' LA) (dj : ∀ a ∈ LA, a ∉ L) : RL mg H' ρ σ L :=
  rl.stay st.fz fun b hb o q => st b o q (.inr (.inl fun z => dj b z hb))
/-- a call of a def of the text -/
theorem gO_callF {f : F} {cs : Loc → Rs (List OV)} {es : List Expr} {x : Str} {k : Nat} {fa : Addr} {fd : FuncData} {ps : List Str} {p pos : Pos} (tk : Takes X W) (G : FnG X.prog X.w X.K X.mg X.base k fa fd ps (spF X.mg f)) (hr : RoomG k X.A) (hg : Gl X x)
    (hm : X.mg x = some (.ref fa)) (hk : PySem.W.keepIn X.K (.ref fa) = true) (hb : Binds X.K fd ps []) (hdb : (x == ("__debug__" : Str)) = false) (hst : isStar e = false) (hss : es.all (fun e => !isStar e) = true) (ha : GA m X W (e :: es) cs) :
    GO true X W (.Call (.Name x p) (e :: es) [] pos) (callF f cs) := by
  obtain ⟨t, pa, ga⟩ := ha
  refine ⟨_, pe_callG G hr hg hm hk hb (fun σ => passAt tk σ) pa hdb (starEach_cons hst) (star_plain hss), fun ρ σ H L Q rl po => ga ρ σ H L _ rl ?_⟩
  unfold callF bindR at po
  cases hc : cs ρ with
  | no => rw [hc] at po; exact po
  | ex x ρ1 => rw [hc] at po; exact fun cls d H' L' r a2 => po cls d H' L' r (a2.mono fun _ => rfl)
  | ok ovs ρ1 =>
    rw [hc] at po
    intro vs H1 Lt L1 ro aft dj sb hρ
    have aft' := aft.mono (m' := true) fun _ => rfl
    dsimp only at po
    cases ht : takeAll ρ1 ovs with
    | none => rw [ht] at po; exact po.elim
    | some q =>
      obtain ⟨ss, ρ2⟩ := q
      rw [ht] at po
      dsimp only at po
      obtain ⟨LA, L2, k1, k2, k3, k4, k5, _⟩ := takeAll_ok aft.rl ro dj ht
      have sl := takeAll_slots aft.rl ro dj ht
      have hlen : ovs.length = ss.length := by rw [← ro.length, k1.length]
      -- what is owned behind the call
      have fin : ∀ {H' : Hp} {outs : List SV} {L' : List Addr}, RAs X.mg H' outs vs L' → Stp true H1 H' LA → Sub L' LA H1 → ∃ L3, Aft X.mg true H L (putAll ρ2 ovs ss outs) σ H' L3 ∧ ∀ a ∈ L3, a ∈ L' ∨ a ∈ L2 := by
        intro H' outs L' ra st sb'
        have rl2 := k2.lim st k3
        have dj' : ∀ a ∈ L', a ∉ L2 := fun a h h' => by
          rcases sb' a h with z | z
          · exact k3 a z h'
          · obtain ⟨o, e, _⟩ := k2.there a h'; rw [z] at e; cases e
        obtain ⟨L3, g1, g2⟩ := putAll_ok hlen sl rl2 ra dj'
        have inL : ∀ a ∈ LA, a ∈ L ∨ H a = none := fun a h => by
          rcases k4 a h with z | z
          · exact sb a z
          · exact aft'.sb a z
        refine ⟨L3, ⟨g1, fun b o q c => ?_, fun a h => ?_⟩, g2⟩
        · refine st b o (aft'.st b o q c) ?_
          rcases c with c | c | c
          · exact .inl c
          · refine .inr (.inl fun z => ?_)
            rcases inL b z with y | y
            · exact c y
            · rw [q] at y; cases y
          · cases c
        · rcases g2 a h with z | z
          · rcases sb' a z with y | y
            · exact inL a y
            · by_cases k : a ∈ L
              · exact .inl k
              · cases z' : H a with
                | none => exact .inr rfl
                | some o =>
                  have := aft'.st a o z' (.inr (.inl k))
                  rw [y] at this; cases this
          · exact aft'.sb a (k5 a z)
      refine ⟨ss, LA, k1, ?_⟩
      cases hf : f ss with
      | no => rw [hf] at po; exact po
      | ex x outs =>
        rw [hf] at po
        intro cls d H' L' rx ra st sb'
        obtain ⟨L3, g1, _⟩ := fin ra st sb'
        exact po cls d H' L3 rx g1
      | ok s outs =>
        rw [hf] at po
        intro v H' Lt' L' rs ra djo st sbt sb'
        obtain ⟨L3, g1, g2⟩ := fin ra st sb'
        refine po v H' Lt' L3 rs g1 (fun a h h' => ?_) (fun a h => ?_) (fun z => nomatch z)
        · rcases g2 a h' with z | z
          · exact djo a h z
          · rcases sbt a h with y | y
            · exact k3 a y z
            · obtain ⟨o, e, _⟩ := k2.there a z; rw [y] at e; cases e
        · rcases sbt a h with y | y
          · rcases k4 a y with z | z
            · exact sb a z
            · exact aft'.sb a z
          · by_cases k : a ∈ L
            · exact .inl k
            · cases z' : H a with
              | none => exact .inr rfl
              | some o =>
                have := aft'.st a o z' (.inr (.inl k))
                rw [y] at this; cases this
/-! ### a def's body -/
def out1 (K : List Nat) (i : Nat) : Loc → Option (List SV) → Option (List SV)
  | some o :: _, some os => if i ∈ K then some (o :: os) else none
  | _, _ => none
def outsF (K : List Nat) : Nat → List SV → Loc → Option (List SV)
  | _, [], _ => some []
  | i, .v p :: ss, ρ => match outsF K (i + 1) ss (ρ.drop 1) with
    | some os => some (.v p :: os)
    | none => none
  | i, _ :: ss, ρ => out1 K i ρ (outsF K (i + 1) ss (ρ.drop 1))
/-- the def's semantics by its body's: n names, K the parameters that keep their objects -/
def semF (n : Nat) (K : List Nat) (c : Loc → Rs Fl) : F := fun ss => match c (ss.map some ++ List.replicate (n - ss.length) none) with
  | .ok (.rt s) ρ' => match outsF K 0 ss ρ' with
    | some os => .ok s os
    | none => .no
  | .ok .nx ρ' => match outsF K 0 ss ρ' with
    | some os => .ok (.v .non) os
    | none => .no
  | .ex x ρ' => match outsF K 0 ss ρ' with
    | some os => .ex x os
    | none => .no
  | _ => .no
theorem RAs.start {n : Nat} : ∀ {ss : List SV} {vs : List V} {L : List Addr}, RAs mg H ss vs L → RL mg H (ss.map some ++ List.replicate n none) (vs.map some ++ List.replicate n none) L
  | _, _, _, .nil => by
    show RL mg H (List.replicate n none) (List.replicate n none) []
    induction n with
    | zero => exact .nil
    | succ n ih => exact .no ih
  | _, _, _, .cons r rs d => .cons r (RAs.start rs) d
theorem outsF_ok {H' : Hp} {LA : List Addr} (st : Stp true H H' LA) : ∀ {ss : List SV} {vs : List V} {L : List Addr} {i : Nat} {ρ : Loc} {σ : St} {L' : List Addr} {os : List SV}, RAs mg H ss vs L → RL mg H' ρ σ L' → (∀ j, i + j ∈ K → j < vs.length → σ[j]? = (vs[j]?).map some) → outsF K i ss ρ = some os →
    ∃ LO, RAs mg H' os vs LO ∧ ∀ a ∈ LO, a ∈ L'
  | _, _, _, i, ρ, σ, L', os, .nil, rl, hk, e => by cases e; exact ⟨[], .nil, fun _ h => nomatch h⟩
  | _, _, _, i, ρ, σ, L', os, .cons (s := s) (v := v) (ss := ss) (vs := vs) r rs d, rl, hk, e => by
    have tail : ∀ {os' : List SV}, outsF K (i + 1) ss (ρ.drop 1) = some os' → ∀ {Lr : List Addr}, RL mg H' (ρ.drop 1) (σ.drop 1) Lr → ∃ LO, RAs mg H' os' vs LO ∧ ∀ a ∈ LO, a ∈ Lr := by
      intro os' e' Lr rl'
      refine outsF_ok st rs rl' (fun j hj hl => ?_) e'
      have := hk (j + 1) (by rw [show i + (j + 1) = i + 1 + j by omega]; exact hj) (by simpa using hl)
      rw [List.getElem?_drop, Nat.add_comm 1 j, this]
      simp
    have dropRL : ∃ Lr, RL mg H' (ρ.drop 1) (σ.drop 1) Lr ∧ ∀ a ∈ Lr, a ∈ L' := by
      cases rl with
      | nil => exact ⟨[], .nil, fun _ h => h⟩
      | no r => exact ⟨_, r, fun _ h => h⟩
      | cons r rs n => exact ⟨_, rs, fun a h => List.mem_append_right _ h⟩
    have own : (∀ p, s ≠ .v p) → out1 K i ρ (outsF K (i + 1) ss (ρ.drop 1)) = some os → ∃ LO, RAs mg H' os (v :: vs) LO ∧ ∀ a ∈ LO, a ∈ L' := by
      intro _ e
      cases rl with
      | nil => cases e
      | no r => cases e
      | @cons o x ρ2 σ2 L1 L2 r' rs' n' =>
        cases h : outsF K (i + 1) ss ((some o :: ρ2).drop 1) with
        | none => rw [h] at e; cases e
        | some os' =>
          rw [h] at e
          unfold out1 at e
          dsimp only at e
          split at e
          · rename_i hi
            cases e
            obtain ⟨LO, h1, h2⟩ := tail h rs'
            have hx : x = v := by
              have := hk 0 (by simpa using hi) (by simp)
              simpa using this
            subst hx
            exact ⟨L1 ++ LO, .cons r' h1 fun a h h' => n' a h (h2 a h'), fun a h => by
              rcases List.mem_append.mp h with z | z
              · exact List.mem_append_left _ z
              · exact List.mem_append_right _ (h2 a z)⟩
          · cases e
    cases s with
    | v p =>
      unfold outsF at e
      cases h : outsF K (i + 1) ss (ρ.drop 1) with
      | none => rw [h] at e; cases e
      | some os' =>
        rw [h] at e; cases e
        obtain ⟨Lr, r1, r2⟩ := dropRL
        obtain ⟨LO, h1, h2⟩ := tail h r1
        cases r with
        | v q => exact ⟨[] ++ LO, .cons (.v (q.step st)) h1 (fun _ h => nomatch h), fun a h => r2 a (h2 a h)⟩
    | l _ => exact own (fun _ h => nomatch h) e
    | d _ => exact own (fun _ h => nomatch h) e
    | r _ => exact own (fun _ h => nomatch h) e
    | o _ _ => exact own (fun _ h => nomatch h) e
/-- a def by its body: k parameters, n slots -/
def defF (k n : Nat) (K : List Nat) (c : Loc → Rs Fl) : F := fun ss => if ss.length = k then semF n K c ss else .no
/-- THE RULE for a def -/
theorem fn_ok {P : Program} {w : World} {Kf : PySem.W.Frag} {base : Heap} {x qual : Str} {st : Stmt} {f : Addr} {fd : FuncData} {N ps : List Str} {k : Nat} {c : Loc → Rs Fl} (F : Fun Kf x qual st f fd) (S : FnScope N ps (defScope st)) (hnp : ps.length ≤ N.length)
    (hbody : ∀ X : Cx, X.prog = P → X.w = w → X.K = Kf → X.mg = mg → X.base = base → X.N = N → X.env.scope = defScope st → X.calm = true → X.fn = (fun _ => true) → RoomG k X.A → PassesOwn (model X.prog X.w) X.A X.env X.xe → X.stack = X.env :: X.outer → X.env.frame = some X.env.locals → X.ex = [] →
      ∀ W : WX, Takes X W → GSs X W K (defBody st) c)
    :
    FnG P w Kf mg base (k + 1) f fd ps (spF mg (defF ps.length N.length K c)) := by
  refine fnG_of F S (fun {vs H Q E} h => ?_) (fun cdv A outer s H vs Q E hr h => ?_)
  · obtain ⟨ss, L, ra, h⟩ := h
    by_cases hl : ss.length = ps.length
    · rw [ra.length]; exact hl
    · unfold defF at h; rw [if_neg hl] at h; exact h.elim
  · obtain ⟨ss, L, ra, h⟩ := h
    have hl : ss.length = ps.length := Classical.byContradiction fun z => by unfold defF at h; rw [if_neg z] at h; exact h
    unfold defF at h
    rw [if_pos hl] at h
    obtain ⟨t, pt, dt⟩ := hbody (cxOf (L2.CX P w) P w Kf mg base N qual (defScope st) f cdv A outer s H E) rfl rfl rfl rfl rfl rfl rfl rfl rfl hr (passes_of rfl) rfl rfl rfl (fun cls d _ H => E cls d H) (takes_of rfl rfl rfl rfl)
    refine ⟨t, pt, dt (ss.map some ++ List.replicate (N.length - ss.length) none) (L2.start N vs) H L _ ?_ ?_⟩
    · unfold L2.start
      rw [ra.length]
      exact ra.start
    · have keep : ∀ {σ' : St}, Kp K (L2.start N vs) σ' → ∀ j, 0 + j ∈ K → j < vs.length → σ'[j]? = (vs[j]?).map some := by
        intro σ' hk j hj hjl
        rw [Nat.zero_add] at hj
        rw [hk j hj]
        unfold L2.start
        rw [List.getElem?_append_left (by simpa using hjl), List.getElem?_map]
      unfold semF at h
      cases hc : c (ss.map some ++ List.replicate (N.length - ss.length) none) with
      | no => rw [hc] at h; exact h
      | ex x ρ' =>
        rw [hc] at h
        intro cls d σ' H' L' rx aft hk
        dsimp only at h
        cases ho : outsF K 0 ss ρ' with
        | none => rw [ho] at h; exact h.elim
        | some os =>
          rw [ho] at h
          obtain ⟨LO, h1, h2⟩ := outsF_ok aft.st ra aft.rl (keep hk) ho
          exact h cls d H' LO rx h1 aft.st fun a ha => aft.sb a (h2 a ha)
      | ok fl ρ' =>
        rw [hc] at h
        cases fl with
        | nx =>
          intro σ' H' L' aft hk
          dsimp only at h
          cases ho : outsF K 0 ss ρ' with
          | none => rw [ho] at h; exact h.elim
          | some os =>
            rw [ho] at h
            obtain ⟨LO, h1, h2⟩ := outsF_ok aft.st ra aft.rl (keep hk) ho
            exact h .non H' [] LO (.v rfl) h1 (fun _ h => nomatch h) aft.st (fun _ h => nomatch h) fun a ha => aft.sb a (h2 a ha)
        | bk => exact h.elim
        | ct => exact h.elim
        | rt s =>
          intro v σ' H' Lt L' rs aft dj sb hk
          dsimp only at h
          cases ho : outsF K 0 ss ρ' with
          | none => rw [ho] at h; exact h.elim
          | some os =>
            rw [ho] at h
            obtain ⟨LO, h1, h2⟩ := outsF_ok aft.st ra aft.rl (keep hk) ho
            exact h v H' Lt LO rs h1 (fun a ha hb => dj a ha (h2 a hb)) aft.st sb fun a ha => aft.sb a (h2 a ha)
end Lt
set_option maxHeartbeats 1000000
/-! LtM: what is walked; list comprehensions. -/
namespace Lt
open PySem PySem.Spec L2
open PyProof.Rows hiding St
variable {mg : Str → Option Value} {X : Cx} {W : WX} {e a b tg : Expr} {m mb m' : Bool} {H : Hp} {K : List Nat}

/-! ### lists and tuples -/
def itemsP : PV → Option (List PV)
  | .tup xs => some xs
  | .lst xs => some xs
  | _ => none
def walkV (c : Loc → Rs PV) : Loc → Rs (List PV) := bindR c fun p ρ => match itemsP p with
  | some ps => .ok ps ρ
  | none => .no
theorem itOk_list {Kf : PySem.W.Frag} {ps : List PV} {a : Addr} : ItOk mg (Itl Kf a) ps (fun H => ∃ o vs, H a = some (.frz o (.lst vs)) ∧ RVs mg H ps vs) where
  stay := fun H H' ⟨o, vs, h, r⟩ k => ⟨o, vs, k _ _ h trivial, r.stay k⟩
  stop := fun H i ⟨o, vs, h, r⟩ hl => ⟨vs, .inl (.inr ⟨o, h⟩), by rw [r.length]; exact hl⟩
  go := fun H i p ⟨o, vs, h, r⟩ hp => by
    obtain ⟨x, hx, rx⟩ := r.get hp
    refine ⟨⟨vs, x, .inl (.inr ⟨o, h⟩), hx⟩, fun y H' hy => ?_⟩
    obtain ⟨rfl, hy⟩ := hy
    have := hy vs (.inl (.inr ⟨o, h⟩))
    rw [hx] at this; cases this
    exact ⟨rx, fun _ _ q => q⟩
theorem itOk_tup {Kf : PySem.W.Frag} {ps : List PV} {a : Addr} : ItOk mg (Itt Kf a) ps (fun H => ∃ o vs, H a = some (.frz o (.tup vs)) ∧ RVs mg H ps vs) where
  stay := fun H H' ⟨o, vs, h, r⟩ k => ⟨o, vs, k _ _ h trivial, r.stay k⟩
  stop := fun H i ⟨o, vs, h, r⟩ hl => ⟨vs, .inl (.inr ⟨o, h⟩), by rw [r.length]; exact hl⟩
  go := fun H i p ⟨o, vs, h, r⟩ hp => by
    obtain ⟨x, hx, rx⟩ := r.get hp
    refine ⟨⟨vs, x, .inl (.inr ⟨o, h⟩), hx⟩, fun y H' hy => ?_⟩
    obtain ⟨rfl, hy⟩ := hy
    have := hy vs (.inl (.inr ⟨o, h⟩))
    rw [hx] at this; cases this
    exact ⟨rx, fun _ _ q => q⟩
theorem PI.or {iter : Expr} {w1 w2 : TI} (h1 : PI X tg iter w1) (h2 : PI X tg iter w2) : PI X tg iter (fun σ H R => w1 σ H R ∨ w2 σ H R) :=
  ⟨fun pins s σ H R I q => q.elim (h1.run pins s σ H R I) (h2.run pins s σ H R I)⟩
theorem gWk_val {c : Loc → Rs PV} (h : GP X W e c) : GWk X W tg e (walkV c) := by
  obtain ⟨t, p, g⟩ := h
  refine ⟨_, PI.or (pi_list p) (pi_tup p), fun ρ σ H L R rl po => ?_⟩
  unfold walkV bindR at po
  cases hc : c ρ with
  | no => rw [hc] at po; exact po.elim
  | ex x ρ1 => exact .inl (g ρ σ H L _ rl (by rw [hc] at po ⊢; exact po))
  | ok q ρ1 =>
    rw [hc] at po
    dsimp only at po
    cases q with
    | tup xs =>
      refine .inr (g ρ σ H L _ rl ?_)
      rw [hc]
      intro v H1 L1 rv aft
      obtain ⟨a, o, vs, rfl, ha, _, ra⟩ := rv
      exact ⟨a, rfl, ⟨vs, .inl (.inr ⟨o, ha⟩)⟩, po _ _ H1 L1 itOk_tup ⟨o, vs, ha, ra⟩ aft⟩
    | lst xs =>
      refine .inl (g ρ σ H L _ rl ?_)
      rw [hc]
      intro v H1 L1 rv aft
      obtain ⟨a, o, vs, rfl, ha, ra⟩ := rv
      exact ⟨a, rfl, ⟨vs, .inl (.inr ⟨o, ha⟩)⟩, po _ _ H1 L1 itOk_list ⟨o, vs, ha, ra⟩ aft⟩
    | _ => exact po.elim
/-! ### range -/
def rangeP (lo hi : Int) : List PV := (List.range (hi - lo).toNat).map fun (i : Nat) => .int (lo + (i : Int))
theorem itOk_rng {lo : Int} {n : Nat} : ItOk mg (Itr lo n) ((List.range n).map fun (i : Nat) => .int (lo + (i : Int))) (fun _ => True) where
  stay := fun _ _ _ _ => trivial
  stop := fun H i _ hl => by show n ≤ i; simpa using hl
  go := fun H i p _ hp => by
    rw [List.getElem?_map] at hp
    have hi : i < n := by
      by_cases h : i < n
      · exact h
      · rw [List.getElem?_eq_none (by simpa using h)] at hp; cases hp
    rw [List.getElem?_range hi] at hp
    cases hp
    exact ⟨hi, fun x H' hy => by obtain ⟨rfl, rfl⟩ := hy; exact ⟨rfl, fun _ _ q => q⟩⟩
def big (i : Int) : Bool := decide (-(2 ^ 61) ≤ i ∧ i ≤ 2 ^ 61)
def walkR1 (c : Loc → Rs (List OV)) : Loc → Rs (List PV) := bindR c fun xs ρ => match getAll ρ xs with
  | some [.v (.int j)] => if big j then .ok (rangeP 0 j) ρ else .no
  | _ => .no
def walkR2 (c : Loc → Rs (List OV)) : Loc → Rs (List PV) := bindR c fun xs ρ => match getAll ρ xs with
  | some [.v (.int i), .v (.int j)] => if big i && big j then .ok (rangeP i j) ρ else .no
  | _ => .no
theorem gWk_range1 {cs : Loc → Rs (List OV)} {p pos : Pos} (hg : Gl X "range") (hm : X.mg "range" = none) (hst : isStar a = false) (h : GA m X W [a] cs) : GWk X W tg (.Call (.Name "range" p) [a] [] pos) (walkR1 cs) := by
  obtain ⟨t, pa, g⟩ := h
  refine ⟨_, pi_range1 hg hm pa (starEach_cons hst), fun ρ σ H L R rl po => g ρ σ H L _ rl ?_⟩
  unfold walkR1 bindR at po
  cases hc : cs ρ with
  | no => rw [hc] at po; exact po
  | ex x ρ1 => rw [hc] at po; exact fun cls d H' L' r a2 => po cls d H' L' r (a2.mono fun _ => rfl)
  | ok ovs ρ1 =>
    rw [hc] at po
    intro vs H1 Lt L1 ro aft dj sb hρ
    dsimp only at po
    split at po
    · rename_i j hj
      split at po
      · rename_i hb
        have hb := of_decide_eq_true hb
        obtain ⟨v, L, rfl, r⟩ := (ro.get aft.rl hj).one
        refine ⟨j, by rw [show v = _ from r.val], by omega, by omega, ?_⟩
        have : rangeP 0 j = (List.range j.toNat).map fun (i : Nat) => .int (0 + (i : Int)) := by unfold rangeP; rw [Int.sub_zero]
        rw [this] at po
        exact po _ (fun _ => True) H1 L1 itOk_rng trivial (aft.mono fun _ => rfl)
      · exact po.elim
    · exact po.elim
/-- range(i, j, -1) -/
def rangeD (i j : Int) : List PV := (List.range (i - j).toNat).map fun (k : Nat) => .int (i - (k : Int))
def walkR3 (c : Loc → Rs (List OV)) : Loc → Rs (List PV) := bindR c fun xs ρ => match getAll ρ xs with
  | some [.v (.int i), .v (.int j), .v (.int (-1))] => if big i && big j then .ok (rangeD i j) ρ else .no
  | _ => .no
theorem itOk_rngD {lo : Int} {n : Nat} : ItOk mg (Itc lo (-1) n) ((List.range n).map fun (i : Nat) => .int (lo - (i : Int))) (fun _ => True) where
  stay := fun _ _ _ _ => trivial
  stop := fun H i _ hl => by show n ≤ i; simpa using hl
  go := fun H i p _ hp => by
    rw [List.getElem?_map] at hp
    have hi : i < n := by
      by_cases h : i < n
      · exact h
      · rw [List.getElem?_eq_none (by simpa using h)] at hp; cases hp
    rw [List.getElem?_range hi] at hp
    cases hp
    exact ⟨hi, fun x H' hy => by obtain ⟨rfl, rfl⟩ := hy; exact ⟨by show _ = _; congr 1; omega, fun _ _ q => q⟩⟩
theorem gWk_range3 {c : Expr} {cs : Loc → Rs (List OV)} {p pos : Pos} (hg : Gl X "range") (hm : X.mg "range" = none) (hst : isStar a = false) (hst2 : isStar b = false) (hst3 : isStar c = false) (h : GA m X W [a, b, c] cs) : GWk X W tg (.Call (.Name "range" p) [a, b, c] [] pos) (walkR3 cs) := by
  obtain ⟨t, pa, g⟩ := h
  refine ⟨_, pi_range3 hg hm pa (starEach_cons hst) (star_plain (es := [b, c]) (by simp [hst2, hst3])), fun ρ σ H L R rl po => g ρ σ H L _ rl ?_⟩
  unfold walkR3 bindR at po
  cases hc : cs ρ with
  | no => rw [hc] at po; exact po
  | ex x ρ1 => rw [hc] at po; exact fun cls d H' L' r a2 => po cls d H' L' r (a2.mono fun _ => rfl)
  | ok ovs ρ1 =>
    rw [hc] at po
    intro vs H1 Lt L1 ro aft dj sb hρ
    dsimp only at po
    split at po
    · rename_i i j hj
      split at po
      · rename_i hb
        rw [Bool.and_eq_true] at hb
        have b1 := of_decide_eq_true hb.1
        have b2 := of_decide_eq_true hb.2
        have rr := ro.get aft.rl hj
        cases rr with
        | cons r1 rr =>
          cases rr with
          | cons r2 rr =>
            cases rr with
            | cons r3 rr =>
              cases rr
              refine ⟨i, j, -1, (i - j).toNat, by rw [show _ = _ from r1.val, show _ = _ from r2.val, show _ = _ from r3.val], RgC.neg (by omega) (by omega) (by omega) (by omega), ?_⟩
              exact po _ (fun _ => True) H1 L1 itOk_rngD trivial (aft.mono fun _ => rfl)
      · exact po.elim
    · exact po.elim
theorem gWk_range2 {cs : Loc → Rs (List OV)} {p pos : Pos} (hg : Gl X "range") (hm : X.mg "range" = none) (hst : isStar a = false) (hst2 : isStar b = false) (h : GA m X W [a, b] cs) : GWk X W tg (.Call (.Name "range" p) [a, b] [] pos) (walkR2 cs) := by
  obtain ⟨t, pa, g⟩ := h
  refine ⟨_, pi_range2 hg hm pa (by rw [starEach_cons hst, starEach_cons hst2]; rfl) (starEach_cons hst2), fun ρ σ H L R rl po => g ρ σ H L _ rl ?_⟩
  unfold walkR2 bindR at po
  cases hc : cs ρ with
  | no => rw [hc] at po; exact po
  | ex x ρ1 => rw [hc] at po; exact fun cls d H' L' r a2 => po cls d H' L' r (a2.mono fun _ => rfl)
  | ok ovs ρ1 =>
    rw [hc] at po
    intro vs H1 Lt L1 ro aft dj sb hρ
    dsimp only at po
    split at po
    · rename_i i j hj
      split at po
      · rename_i hb
        rw [Bool.and_eq_true] at hb
        have h1 := of_decide_eq_true hb.1
        have h2 := of_decide_eq_true hb.2
        obtain ⟨v, w, L, L', rfl, r, r2⟩ := (ro.get aft.rl hj).two
        refine ⟨i, j, by rw [show v = _ from r.val, show w = _ from r2.val], ⟨by omega, by omega, by omega, by omega⟩, ?_⟩
        exact po _ (fun _ => True) H1 L1 itOk_rng trivial (aft.mono fun _ => rfl)
      · exact po.elim
    · exact po.elim
/-! ### the readings by the semantics -/
def canO (mg : Str → Option Value) (m : Bool) (W : WX) (c : Loc → Rs OV) : TE := fun σ H Q => ∃ ρ L, RL mg H ρ σ L ∧ PoO mg m W H L ρ σ Q (c ρ)
def canP (mg : Str → Option Value) (W : WX) (c : Loc → Rs PV) : TE := fun σ H Q => ∃ ρ L, RL mg H ρ σ L ∧ PoP mg true W H L ρ σ Q (c ρ)
def canT (mg : Str → Option Value) (m : Bool) (W : WX) (c : Loc → Rs Bool) : TT := fun σ H Q => ∃ ρ L, RL mg H ρ σ L ∧ PoT mg m W H L ρ σ Q (c ρ)
def canG (mg : Str → Option Value) (K : List Nat) (tg : Tg) : TG := fun v σ H Q => ∃ ρ L Ls s ρ', RL mg H ρ σ L ∧ RS mg H s v Ls ∧ (∀ a ∈ Ls, a ∉ L) ∧ setTg tg s ρ = some ρ' ∧ ∀ σ' L', RL mg H ρ' σ' L' → (∀ a ∈ L', a ∈ Ls ∨ a ∈ L) → Kp K σ σ' → Q σ' H
theorem GO.pe {c : Loc → Rs OV} (h : GO m X W e c) : PE X e (canO X.mg m W c) := let ⟨_, p, g⟩ := h; ⟨fun pins s σ H Q I ⟨ρ, L, rl, po⟩ => p.run pins s σ H Q I (g ρ σ H L Q rl po)⟩
theorem GP.pe {c : Loc → Rs PV} (h : GP X W e c) : PE X e (canP X.mg W c) := let ⟨_, p, g⟩ := h; ⟨fun pins s σ H Q I ⟨ρ, L, rl, po⟩ => p.run pins s σ H Q I (g ρ σ H L Q rl po)⟩
theorem GT.pt {c : Loc → Rs Bool} (h : GT m X W e c) : PT X e (canT X.mg m W c) := let ⟨_, p, g⟩ := h; ⟨fun pins s σ H Q I ⟨ρ, L, rl, po⟩ => p.run pins s σ H Q I (g ρ σ H L Q rl po)⟩
theorem GG.pg {t : Tg} (h : GG X K e t) : PG X e (canG X.mg K t) := let ⟨_, p, g⟩ := h; ⟨fun pins s σ H v u Q I r ⟨ρ, L, Ls, sv, ρ', h1, h2, h3, h4, h5⟩ => p.run pins s σ H v u Q I r (g ρ σ H L Ls sv v Q ρ' h1 h2 h3 h4 h5)⟩
/-! ### slots forgotten and brought back -/
def wipeL (ρ : Loc) : List Nat → Loc
  | [] => ρ
  | v :: vs => (wipeL ρ vs).set v none
def saved (ρ : Loc) (vs : List Nat) : Bool := vs.all fun v => match ρ[v]? with
  | some (some (.v _)) => true
  | some none => true
  | _ => false
def restL (ρ ρ0 : Loc) : List Nat → Loc
  | [] => ρ
  | v :: vs => match ρ0[v]? with
    | some (some s) => (restL ρ ρ0 vs).set v (some s)
    | _ => restL ρ ρ0 vs
theorem RL.reσ {ρ : Loc} {σ : St} {L : List Addr} (r : RL mg H ρ σ L) : ∀ {σ2 : St}, σ2.length = σ.length → (∀ i : Nat, ρ[i]? = some none ∨ σ[i]? = σ2[i]?) → RL mg H ρ σ2 L := by
  induction r with
  | nil => intro σ2 hl _; rw [List.eq_nil_of_length_eq_zero hl]; exact .nil
  | no r ih =>
    intro σ2 hl h
    cases σ2 with
    | nil => cases hl
    | cons y σ2 => exact .no (ih (by simpa using hl) fun i => by simpa using h (i + 1))
  | cons r rs n ih =>
    intro σ2 hl h
    cases σ2 with
    | nil => cases hl
    | cons y σ2 =>
      have h0 := h 0
      simp at h0
      subst h0
      exact .cons r (ih (by simpa using hl) fun i => by simpa using h (i + 1)) n
theorem wipeL_length (ρ : Loc) : ∀ vs : List Nat, (wipeL ρ vs).length = ρ.length
  | [] => rfl
  | v :: vs => by unfold wipeL; rw [List.length_set, wipeL_length]
theorem wipeL_at {ρ : Loc} : ∀ {vs : List Nat} {i : Nat}, i < ρ.length → i ∈ vs → (wipeL ρ vs)[i]? = some none
  | v :: vs, i, hi, h => by
    unfold wipeL
    by_cases e : v = i
    · subst e; rw [List.getElem?_set_self (by rw [wipeL_length]; exact hi)]
    · rw [List.getElem?_set_ne e]; exact wipeL_at hi ((List.mem_cons.mp h).resolve_left (fun z => e z.symm))
theorem wipe_ne {σ : St} : ∀ {vs : List Nat} {i : Nat}, i ∉ vs → (wipe σ vs)[i]? = σ[i]?
  | [], i, _ => rfl
  | v :: vs, i, h => by
    unfold wipe
    rw [List.getElem?_set_ne (show v ≠ i from fun z => h (z ▸ List.mem_cons_self)), wipe_ne fun z => h (List.mem_cons_of_mem _ z)]
theorem RL.wipe {ρ : Loc} {σ : St} {L : List Addr} (r : RL mg H ρ σ L) : ∀ vs : List Nat, ∃ L', RL mg H (wipeL ρ vs) σ L' ∧ ∀ a ∈ L', a ∈ L
  | [] => ⟨L, r, fun _ h => h⟩
  | v :: vs => by
    obtain ⟨L1, h1, h2⟩ := RL.wipe r vs
    obtain ⟨L2, h3, h4⟩ := h1.forget v
    exact ⟨L2, h3, fun a h => h2 a (h4 a h)⟩
theorem RL.wipe2 {ρ : Loc} {σ : St} {L : List Addr} (r : RL mg H ρ σ L) (vs : List Nat) : ∃ L', RL mg H (wipeL ρ vs) (L2.wipe σ vs) L' ∧ ∀ a ∈ L', a ∈ L := by
  obtain ⟨L', h1, h2⟩ := r.wipe vs
  refine ⟨L', h1.reσ (L2.wipe_length σ vs) fun i => ?_, h2⟩
  by_cases hi : i < ρ.length
  · by_cases hv : i ∈ vs
    · exact .inl (wipeL_at hi hv)
    · exact .inr (wipe_ne hv).symm
  · refine .inr ?_
    rw [List.getElem?_eq_none (by rw [r.length]; omega), List.getElem?_eq_none (by rw [L2.wipe_length, r.length]; omega)]
theorem RL.rest {H1 : Hp} {ρ ρ0 : Loc} {σ : St} {L L0 : List Addr} (r0 : RL mg H1 ρ0 σ L0) (fz : ∀ b o, H1 b = some o → isFz o → H b = some o) (r : RL mg H ρ σ L) : ∀ {vs : List Nat}, saved ρ0 vs = true → ∃ L', RL mg H (restL ρ ρ0 vs) σ L' ∧ ∀ a ∈ L', a ∈ L
  | [], _ => ⟨L, r, fun _ h => h⟩
  | v :: vs, h => by
    unfold saved at h
    rw [List.all_cons, Bool.and_eq_true] at h
    obtain ⟨L1, h1, h2⟩ := RL.rest r0 fz r (vs := vs) h.2
    unfold restL
    have hv := h.1
    split at hv
    · rename_i p hp
      rw [hp]
      obtain ⟨x, Ls, Lr, k1, k2, _⟩ := r0.get hp
      have hlen : v < (restL ρ ρ0 vs).length := by
        rw [← h1.length]
        exact (List.getElem?_eq_some_iff.mp k1).1
      obtain ⟨L2, g1, g2⟩ := h1.set (i := v) hlen (.v (k2.val.stay fz)) (fun _ h => nomatch h)
      rw [set_same k1] at g1
      exact ⟨L2, g1, fun a h => h2 a ((g2 a h).elim (fun z => nomatch z) id)⟩
    · rename_i hp
      rw [hp]
      exact ⟨L1, h1, h2⟩
    · cases hv
/-! ### list comprehensions -/
def lcL (tg : Tg) (vs : List Nat) (t : Loc → Rs Bool) (c : Loc → Rs PV) : List PV → Loc → List PV → Rs (List PV)
  | [], ρ, acc => .ok acc ρ
  | p :: ps, ρ, acc => match setTg tg (.v p) ρ with
    | none => .no
    | some ρ1 => match t ρ1 with
      | .ok true ρ2 => match c ρ2 with
        | .ok y ρ3 => if acc.length < 1000000 then lcL tg vs t c ps (wipeL ρ3 vs) (acc ++ [y]) else .no
        | _ => .no
      | .ok false ρ2 => lcL tg vs t c ps (wipeL ρ2 vs) acc
      | _ => .no
def lcO (n : Nat) (tg : Tg) (vs : List Nat) (ci : Loc → Rs (List PV)) (t : Loc → Rs Bool) (c : Loc → Rs PV) : Loc → Rs OV := fun ρ0 => if ρ0.length = n then bindR ci (fun ps ρ => if saved ρ vs = true then match lcL tg vs t c ps (wipeL ρ vs) [] with
  | .ok acc ρ' => .ok (.tm (.l acc)) (restL ρ' ρ vs)
  | _ => .no
  else .no) ρ0 else .no
def WF : WX := fun _ _ _ _ => False
/-- all slots but these -/
def others (n : Nat) (vs : List Nat) : List Nat := (List.range n).filter fun i => decide (i ∉ vs)
theorem wipe_at {σ : St} : ∀ {vs : List Nat} {i : Nat}, i < σ.length → i ∈ vs → (L2.wipe σ vs)[i]? = some none
  | v :: vs, i, hi, h => by
    unfold L2.wipe
    by_cases e : v = i
    · subst e; rw [List.getElem?_set_self (by rw [L2.wipe_length]; exact hi)]
    · rw [List.getElem?_set_ne e]; exact wipe_at hi ((List.mem_cons.mp h).resolve_left (fun z => e z.symm))
theorem wipe_same {σ σ2 : St} {vs : List Nat} {n : Nat} (hn : σ.length = n) (hl : σ2.length = σ.length) (k : Kp (others n vs) (L2.wipe σ vs) σ2) : L2.wipe σ2 vs = L2.wipe σ vs := by
  apply List.ext_getElem?
  intro i
  by_cases hi : i < σ.length
  · by_cases hv : i ∈ vs
    · rw [wipe_at (by omega) hv, wipe_at hi hv]
    · rw [wipe_ne hv, k i (List.mem_filter.mpr ⟨List.mem_range.mpr (by omega), decide_eq_true hv⟩)]
  · rw [List.getElem?_eq_none (by rw [L2.wipe_length]; omega), List.getElem?_eq_none (by rw [L2.wipe_length]; omega)]
theorem lc_core {tg : Tg} {vs : List Nat} {ci : Loc → Rs (List PV)} {t : Loc → Rs Bool} {c : Loc → Rs PV} {wi : TI} {tt : TT} {n : Nat} (htt : DT true mg WF t tt)
    (gi : ∀ ρ σ H L R, RL mg H ρ σ L → PoW mg W H L σ R (ci ρ) → wi σ H R) : DO true mg W (lcO n tg vs ci t c) (tLc wi (canG mg (others n vs) tg) tt (canP mg WF c) vs) := by
  intro ρ σ H L Q rl po
  have hlen : σ.length = n := by
    rw [rl.length]
    exact Classical.byContradiction fun z => by unfold lcO at po; rw [if_neg z] at po; exact po
  unfold lcO at po
  rw [if_pos (by rw [← rl.length]; exact hlen)] at po
  refine gi ρ σ H L _ rl ?_
  unfold bindR at po
  cases hc : ci ρ with
  | no => rw [hc] at po; exact po
  | ex x ρ1 => rw [hc] at po; exact po
  | ok ps ρ1 =>
    rw [hc] at po
    intro J Ok H1 L1 it ok aft D hD
    dsimp only at po
    split at po
    · rename_i hsv
      have nD : ∀ o, H D = some o → ¬ (isFz o ∨ D ∉ L ∨ true = false) := fun o q z => by
        have := aft.st D o q z
        rw [hD] at this; cases this
      have hlen1 : ρ1.length = n := by rw [← aft.rl.length]; exact hlen
      obtain ⟨Lw, rlw, sw⟩ := aft.rl.wipe2 vs
      have lay : ∀ b o, H1 b = some o → upd H1 D (.lst []) b = some o := fun b o q => by rw [upd_ne (ne_of_none q hD)]; exact q
      have inD : D ∈ L ∨ H D = none := by
        cases q : H D with
        | none => exact .inr rfl
        | some o => exact .inl (Classical.byContradiction fun z => nD o q (.inr (.inl z)))
      refine ⟨fun i k H' => k = ps.length - i ∧ Ok H' ∧ (∀ b o, H1 b = some o → isFz o → H' b = some o) ∧ Stp true H H' L ∧ ∃ ρ' L' acc va, RL mg H' (wipeL ρ' vs) (L2.wipe σ vs) L' ∧ Sub L' L H ∧ H' D = some (.lst va) ∧ RVs mg H' acc va ∧ D ∉ L' ∧
        PoO mg true W H L ρ σ Q (match lcL tg vs t c (ps.drop i) (wipeL ρ' vs) acc with | .ok acc ρ' => .ok (.tm (.l acc)) (restL ρ' ρ1 vs) | _ => .no), ⟨ps.length, rfl, it.stay _ _ ok fun b o q _ => lay b o q, fun b o q _ => lay b o q, fun b o q z => lay b o (aft.st b o q z), ρ1, Lw, [], [], rlw.stay (fun b o q _ => lay b o q) fun b _ o q => lay b o q, fun a h => aft.sb a (sw a h), upd_same, RVs.nil, fun z => ?_, po⟩, fun i k H' h => ?_⟩
      · obtain ⟨o, q, _⟩ := rlw.there D z
        rw [hD] at q; cases q
      · obtain ⟨hk, ok', fz, st, ρ', L', acc, va, rl', sb', hDv, ra, nDL, po'⟩ := h
        cases hp : ps[i]? with
        | none =>
          have hl : ps.length ≤ i := List.getElem?_eq_none_iff.mp hp
          rw [List.drop_eq_nil_of_le hl] at po'
          have rl2 : RL mg H' (wipeL ρ' vs) σ L' := rl'.reσ (L2.wipe_length σ vs).symm fun j => by
            by_cases hj : j < ρ'.length
            · by_cases hv : j ∈ vs
              · exact .inl (wipeL_at hj hv)
              · exact .inr (wipe_ne hv)
            · refine .inr ?_
              have := rl'.length
              rw [L2.wipe_length, wipeL_length] at this
              rw [List.getElem?_eq_none (by rw [L2.wipe_length]; omega), List.getElem?_eq_none (by omega)]
          obtain ⟨Lz, g1, g2⟩ := RL.rest aft.rl fz rl2 hsv
          refine .inl ⟨it.stop H' i ok' hl, po' (.ref D) H' [D] Lz (.l hDv ra) ⟨g1, st, fun a h => sb' a (g2 a h)⟩ (fun a h h' => ?_) (fun a h => ?_) (fun z => nomatch z)⟩
          · rw [List.mem_singleton.mp h] at h'; exact nDL (g2 D h')
          · rw [List.mem_singleton.mp h]; exact inD
        | some p =>
          obtain ⟨g1, g2⟩ := it.go H' i p ok' hp
          have hi : i < ps.length := (List.getElem?_eq_some_iff.mp hp).1
          rw [drop_cons_of hp] at po'
          unfold lcL at po'
          refine .inr ⟨g1, fun H' => ps.length - (i + 1) = ps.length - (i + 1) ∧ Ok H' ∧ (∀ b o, H1 b = some o → isFz o → H' b = some o) ∧ Stp true H H' L ∧ ∃ ρ' L' acc va, RL mg H' (wipeL ρ' vs) (L2.wipe σ vs) L' ∧ Sub L' L H ∧ H' D = some (.lst va) ∧ RVs mg H' acc va ∧ D ∉ L' ∧
            PoO mg true W H L ρ σ Q (match lcL tg vs t c (ps.drop (i + 1)) (wipeL ρ' vs) acc with | .ok acc ρ' => .ok (.tm (.l acc)) (restL ρ' ρ1 vs) | _ => .no), fun H2 h => ⟨_, by omega, h⟩, fun x H2 hy => ?_⟩
          obtain ⟨rv, kp⟩ := g2 x H2 hy
          have rl2 : RL mg H2 (wipeL ρ' vs) (L2.wipe σ vs) L' := rl'.stay (fun b o q _ => kp b o q) fun b _ o q => kp b o q
          have st2 : Stp true H H2 L := fun b o q z => kp b o (st b o q z)
          cases hs : setTg tg (.v p) (wipeL ρ' vs) with
          | none => rw [hs] at po'; exact po'.elim
          | some ρ2 =>
            rw [hs] at po'
            dsimp only at po'
            refine ⟨wipeL ρ' vs, L', [], .v p, ρ2, rl2, .v rv, (fun _ h => nomatch h), hs, fun σ2 Lz rl3 s3 k3 => ?_⟩
            have s3' : ∀ a ∈ Lz, a ∈ L' := fun a h => (s3 a h).elim (fun z => nomatch z) id
            have hlen2 : σ2.length = σ.length := by
              have a1 := rl3.length
              have a2 := rl2.length
              rw [L2.wipe_length] at a2
              have : ρ2.length = (wipeL ρ' vs).length := by
                have key : (∀ (t : Tg) (s : SV) (ρ ρ' : Loc), setTg t s ρ = some ρ' → ρ'.length = ρ.length) := by
                  intro t s ρ ρ' h
                  exact (Tg.rec (motive_1 := fun t => ∀ (s : SV) (ρ ρ' : Loc), setTg t s ρ = some ρ' → ρ'.length = ρ.length) (motive_2 := fun ts => ∀ (ps : List PV) (ρ ρ' : Loc), setTgs ts ps ρ = some ρ' → ρ'.length = ρ.length)
                    (fun i s ρ ρ' h => by
                      unfold setTg at h
                      split at h
                      · cases h; rw [List.length_set]
                      · cases h)
                    (fun ts ih s ρ ρ' h => by
                      cases s with
                      | v q => cases q with
                        | tup qs => exact ih qs ρ ρ' h
                        | tmp qs => exact ih qs ρ ρ' h
                        | _ => cases h
                      | _ => cases h)
                    (fun ps ρ ρ' h => by cases ps with | nil => cases h; rfl | cons _ _ => cases h)
                    (fun t ts ih1 ih2 ps ρ ρ' h => by
                      cases ps with
                      | nil => cases h
                      | cons q qs =>
                        unfold setTgs at h
                        cases hq : setTg t (.v q) ρ with
                        | none => rw [hq] at h; cases h
                        | some ρ3 => rw [hq] at h; rw [ih2 qs ρ3 ρ' h, ih1 (.v q) ρ ρ3 hq]) t) s ρ ρ' h
                exact key _ _ _ _ hs
              omega
            refine ⟨wipe_same hlen hlen2 k3, htt ρ2 σ2 H2 Lz _ rl3 ?_⟩
            have nD2 : D ∉ Lz := fun z => nDL (s3' D z)
            have hD2 : H2 D = some (.lst va) := kp D _ hDv
            -- what is kept by the test and the element
            have okN : ∀ {H3 : Hp}, Stp true H2 H3 Lz → Ok H3 := fun a => it.stay _ _ (it.stay _ _ ok' fun b o q _ => kp b o q) a.fz
            have fzN : ∀ {H3 : Hp}, Stp true H2 H3 Lz → ∀ b o, H1 b = some o → isFz o → H3 b = some o := fun a b o q z => a b o (kp b o (fz b o q z)) (.inl z)
            have sb2 : Sub Lz L H := fun a h => sb' a (s3' a h)
            have stN : ∀ {H3 : Hp}, Stp true H2 H3 Lz → Stp true H H3 L := fun a => st2.trans sb2 a
            have dN : ∀ {H3 : Hp}, Stp true H2 H3 Lz → H3 D = some (.lst va) := fun a => a D _ hD2 (.inr (.inl nD2))
            have raN : ∀ {H3 : Hp}, Stp true H2 H3 Lz → RVs mg H3 acc va := fun a => (ra.stay fun b o q _ => kp b o q).step a
            have wp : ∀ {H3 : Hp} {ρ3 : Loc} {L3 : List Addr}, Aft mg true H2 Lz ρ3 σ2 H3 L3 → ∃ L4, RL mg H3 (wipeL ρ3 vs) (L2.wipe σ vs) L4 ∧ Sub L4 L H ∧ D ∉ L4 := by
              intro H3 ρ3 L3 a3
              obtain ⟨L4, q1, q2⟩ := a3.rl.wipe2 vs
              rw [wipe_same hlen hlen2 k3] at q1
              refine ⟨L4, q1, fun a h => ?_, fun z => ?_⟩
              · exact Sub.trans st2 sb2 a3.sb a (q2 a h)
              · rcases a3.sb D (q2 D z) with y | y
                · exact nD2 y
                · rw [hD2] at y; cases y
            cases ht : t ρ2 with
            | no => rw [ht] at po'; exact po'.elim
            | ex x ρ3 => rw [ht] at po'; exact po'.elim
            | ok bb ρ3 =>
              rw [ht] at po'
              intro H3 L3 aft3 hρ3
              have a3 := aft3.mono (m' := true) fun _ => rfl
              cases bb with
              | false =>
                rw [if_neg Bool.false_ne_true]
                obtain ⟨L4, w1, w2, w3⟩ := wp a3
                exact ⟨rfl, okN a3.st, fzN a3.st, stN a3.st, ρ3, L4, acc, va, w1, w2, dN a3.st, raN a3.st, w3, po'⟩
              | true =>
                rw [if_pos rfl]
                refine ⟨ρ3, L3, a3.rl, ?_⟩
                dsimp only at po'
                cases he : c ρ3 with
                | no => rw [he] at po'; exact po'.elim
                | ex x ρ4 => rw [he] at po'; exact po'.elim
                | ok y ρ4 =>
                  rw [he] at po'
                  intro v H4 L4 rvy aft4
                  have a4 := a3.trans aft4
                  dsimp only at po'
                  by_cases hz : acc.length < 1000000
                  · rw [if_pos hz] at po'
                    have hz2 := (raN a4.st).length
                    refine ⟨va, dN a4.st, by rw [sizeLine_eq]; omega, rfl, ?_⟩
                    have dd : ∀ b o, b ≠ D → H4 b = some o → upd H4 D (.lst (va ++ [v])) b = some o := fun b o hb q => by rw [upd_ne hb]; exact q
                    have dfz : ∀ b o, H4 b = some o → isFz o → upd H4 D (.lst (va ++ [v])) b = some o := fun b o q z => dd b o (fun e => by subst e; rw [dN a4.st] at q; cases q; exact z) q
                    obtain ⟨L5, w1, w2, w3⟩ := wp a4
                    refine ⟨it.stay _ _ (okN a4.st) dfz, fun b o q z => dfz b o (fzN a4.st b o q z) z, fun b o q z => dd b o (fun e => by subst e; exact nD o q z) (stN a4.st b o q z), ρ4, L5, acc ++ [y], va ++ [v], w1.stay dfz fun b hb o q => dd b o (fun e => w3 (e ▸ hb)) q, w2, upd_same, ?_, w3, po'⟩
                    exact ((raN a4.st).append (RVs.cons rvy RVs.nil)).stay dfz
                  · rw [if_neg hz] at po'; exact po'.elim
    · exact po.elim
def yesT : Loc → Rs Bool := fun ρ => .ok true ρ
theorem dT_yes : DT m mg W yesT tYes := fun ρ σ H L Q rl po => po H L (.refl rl) fun _ => rfl
/-- the clauses' tests: none, or one -/
def GTs (X : Cx) (W : WX) (ifs : List Expr) (c : Loc → Rs Bool) : Prop := (ifs = [] ∧ c = yesT) ∨ ∃ e, ifs = [e] ∧ GT true X W e c
/-- what a comprehension's parts must be in every block -/
structure LcOk (X : Cx) (scope : Scope) (own : List (Str × Nat)) (elt tg : Expr) (ifs : List Expr) (t : Tg) (ct : Loc → Rs Bool) (c : Loc → Rs PV) : Prop where
  blk : BlkOk X.N X.env.scope scope own
  g : ∀ (s : Shared) (H : Hp) (C : Addr) (cl : List (Str × Addr)) (fp : List Addr), GG (X.blk s H scope (compEnvC scope cl C X.env) fp) (others X.N.length (own.map (·.2))) tg t
  ts : ∀ (s : Shared) (H : Hp) (C : Addr) (cl : List (Str × Addr)) (fp : List Addr), GTs (X.blk s H scope (compEnvC scope cl C X.env) fp) WF ifs ct
  e : ∀ (s : Shared) (H : Hp) (C : Addr) (cl : List (Str × Addr)) (fp : List Addr), GP (X.blk s H scope (compEnvC scope cl C X.env) fp) WF elt c
theorem lc_parts {scope : Scope} {own : List (Str × Nat)} {elt : Expr} {ifs : List Expr} {t : Tg} {ct : Loc → Rs Bool} {c : Loc → Rs PV} (ok : LcOk X scope own elt tg ifs t ct c) :
    ∃ tt, DT true X.mg WF ct tt ∧ (∀ (s : Shared) (H : Hp) (C : Addr) (cl : List (Str × Addr)) (fp : List Addr), PTs (X.blk s H scope (compEnvC scope cl C X.env) fp) ifs tt) := by
  rcases ok.ts X.s_0 X.H_0 0 [] [] with ⟨h1, h2⟩ | ⟨e, h1, h2⟩
  · subst h1 h2; exact ⟨_, dT_yes, fun _ _ _ _ _ => pts_nil⟩
  · subst h1
    refine ⟨canT X.mg true WF ct, fun ρ σ H L Q rl po => ⟨ρ, L, rl, po⟩, fun s H C cl fp => pts_one ?_⟩
    rcases ok.ts s H C cl fp with ⟨h, _⟩ | ⟨e', h, g⟩
    · cases h
    · cases h; exact g.pt
theorem gO_lc {iter elt : Expr} {ifs : List Expr} {scope : Scope} {own : List (Str × Nat)} {pos : Pos} {ci : Loc → Rs (List PV)} {t : Tg} {ct : Loc → Rs Bool} {c : Loc → Rs PV} (hc : X.calm = true) (hN : X.N.Nodup) (hi : GWk X W tg iter ci) (ok : LcOk X scope own elt tg ifs t ct c) (hset : isSet iter = false) :
    GO true X W (.ListComp elt [⟨tg, iter, ifs, 0⟩] scope pos) (lcO X.N.length t (own.map (·.2)) ci ct c) := by
  obtain ⟨wi, pi, gi⟩ := hi
  obtain ⟨tt, dt, pt⟩ := lc_parts ok
  exact ⟨_, pe_lc hc hN pi ok.blk (fun s H C cl fp => (ok.g s H C cl fp).pg) pt (fun s H C cl fp => (ok.e s H C cl fp).pe) (fun x => by cases iter <;> first | rfl | exact Bool.noConfusion hset), lc_core dt gi⟩
theorem lcO_tm {n : Nat} {t : Tg} {vs : List Nat} {ci : Loc → Rs (List PV)} {ct : Loc → Rs Bool} {c : Loc → Rs PV} {ρ ρ' : Loc} {ov : OV} (h : lcO n t vs ci ct c ρ = .ok ov ρ') : ∃ acc, ov = .tm (.l acc) := by
  unfold lcO at h
  split at h
  · unfold bindR at h
    cases hc : ci ρ with
    | no => rw [hc] at h; cases h
    | ex x ρ1 => rw [hc] at h; cases h
    | ok ps ρ1 =>
      rw [hc] at h
      dsimp only at h
      split at h
      · split at h
        · cases h; exact ⟨_, rfl⟩
        · cases h
      · cases h
  · cases h
/-- name = [..], on one line -/
theorem gS_asgLc {iter elt : Expr} {ifs : List Expr} {scope : Scope} {own : List (Str × Nat)} {pos spos py : Pos} {ci : Loc → Rs (List PV)} {t : Tg} {ct : Loc → Rs Bool} {c : Loc → Rs PV} {i : Nat} {y : Str} (hc : X.calm = true) (hN : X.N.Nodup) (hy : X.N[i]? = some y) (hyl : X.env.scope.names.lookup y = some .local)
    (hsw : swapsWith (.ListComp elt [⟨tg, iter, ifs, 0⟩] scope pos) (some (.Name y py)) spos.line X.env = pure true) (hK : i ∉ K) (hi : GWk X W tg iter ci) (ok : LcOk X scope own elt tg ifs t ct c) (hset : isSet iter = false) :
    GS X W K (.Assign [.Name y py] (.ListComp elt [⟨tg, iter, ifs, 0⟩] scope pos) spos) (asgS i (keepS (lcO X.N.length t (own.map (·.2)) ci ct c))) := by
  obtain ⟨wi, pi, gi⟩ := hi
  obtain ⟨tt, dt, pt⟩ := lc_parts ok
  refine ⟨_, ps_setLc hc hN hy hyl hsw pi ok.blk (fun s H C cl fp => (ok.g s H C cl fp).pg) pt (fun s H C cl fp => (ok.e s H C cl fp).pe) (fun x => by cases iter <;> first | rfl | exact Bool.noConfusion hset), fun ρ σ H L D rl po => lc_core (W := W) (n := X.N.length) dt gi ρ σ H L _ rl ?_⟩
  unfold asgS keepS bindR at po
  cases hcc : lcO X.N.length t (own.map (·.2)) ci ct c ρ with
  | no => rw [hcc] at po; exact po
  | ex x ρ1 => rw [hcc] at po; exact fun cls d H' L' r a2 => po cls d σ H' L' r a2 .refl
  | ok ov ρ1 =>
    obtain ⟨acc, rfl⟩ := lcO_tm hcc
    rw [hcc] at po
    exact fun v H' Lt L' rs aft dj sb hρ => po_set hK aft .refl rs dj sb po
/-- name = [..] where it is stored plainly -/
theorem gS_asgLc0 {iter elt : Expr} {ifs : List Expr} {scope : Scope} {own : List (Str × Nat)} {pos spos py : Pos} {ci : Loc → Rs (List PV)} {t : Tg} {ct : Loc → Rs Bool} {c : Loc → Rs PV} {i : Nat} {y : Str} (hc : X.calm = true) (hN : X.N.Nodup) (hy : X.N[i]? = some y) (hx : L2.Loc X.env.scope y) (hf : X.fn y = true ∨ X.env.scope.names.lookup y = some .local)
    (hsw : swapsWith (.ListComp elt [⟨tg, iter, ifs, 0⟩] scope pos) (some (.Name y py)) spos.line X.env = pure false) (hK : i ∉ K) (hi : GWk X W tg iter ci) (ok : LcOk X scope own elt tg ifs t ct c) (hset : isSet iter = false) :
    GS X W K (.Assign [.Name y py] (.ListComp elt [⟨tg, iter, ifs, 0⟩] scope pos) spos) (asgS i (keepS (lcO X.N.length t (own.map (·.2)) ci ct c))) := by
  obtain ⟨wi, pi, gi⟩ := hi
  obtain ⟨tt, dt, pt⟩ := lc_parts ok
  refine ⟨_, ps_set hN hy hx (pe_lc hc hN pi ok.blk (fun s H C cl fp => (ok.g s H C cl fp).pg) pt (fun s H C cl fp => (ok.e s H C cl fp).pe) (fun x => by cases iter <;> first | rfl | exact Bool.noConfusion hset)) hsw hf, fun ρ σ H L D rl po => lc_core (W := W) (n := X.N.length) dt gi ρ σ H L _ rl ?_⟩
  unfold asgS keepS bindR at po
  cases hcc : lcO X.N.length t (own.map (·.2)) ci ct c ρ with
  | no => rw [hcc] at po; exact po
  | ex x ρ1 => rw [hcc] at po; exact fun cls d H' L' r a2 => po cls d σ H' L' r a2 .refl
  | ok ov ρ1 =>
    obtain ⟨acc, rfl⟩ := lcO_tm hcc
    rw [hcc] at po
    exact fun v H' Lt L' rs aft dj sb hρ => po_set hK aft .refl rs dj sb po
end Lt
set_option maxHeartbeats 1000000
/-! LtN: records, stores, append, a, b = x, y. -/
namespace Lt
open PySem PySem.Spec L2
open PyProof.Rows hiding St
variable {mg : Str → Option Value} {X : Cx} {W : WX} {e a b tg : Expr} {m mb m' : Bool} {H : Hp} {K : List Nat}

/-! ### records -/
def putR {α : Type} (k : Str) (s : α) : List (Str × α) → List (Str × α)
  | [] => [(k, s)]
  | (g, x) :: r => if g = k then (g, s) :: r else (g, x) :: putR k s r
theorem putR_keys {α : Type} {k : Str} {s : α} : ∀ {kvs : List (Str × α)} {g : Str}, g ∈ (putR k s kvs).map (·.1) → g = k ∨ g ∈ kvs.map (·.1)
  | [], g, h => by simp [putR] at h; exact .inl h
  | (g0, x) :: r, g, h => by
    unfold putR at h
    split at h
    · exact .inr h
    · rcases List.mem_cons.mp h with h | h
      · exact .inr (by rw [h]; exact List.mem_cons_self)
      · exact (putR_keys h).imp id fun z => List.mem_cons_of_mem _ z
theorem putR_nodup {α : Type} {k : Str} {s : α} : ∀ {kvs : List (Str × α)}, (kvs.map (·.1)).Nodup → ((putR k s kvs).map (·.1)).Nodup
  | [], _ => by simp [putR]
  | (g0, x) :: r, h => by
    rw [List.map_cons, List.nodup_cons] at h
    unfold putR
    split
    · rw [List.map_cons, List.nodup_cons]; exact h
    · rename_i hg
      rw [List.map_cons, List.nodup_cons]
      exact ⟨fun z => (putR_keys z).elim hg h.1, putR_nodup h.2⟩
theorem any_key {k : Str} : ∀ {kws : List (Str × V)}, ((keyed kws).any fun kv => decide (kv.1 = Sum.inr k)) = (kws.map (·.1)).contains k
  | [] => rfl
  | (g, x) :: r => by
    show (decide ((Sum.inr g : Key) = Sum.inr k) || (keyed r).any fun kv => decide (kv.1 = Sum.inr k)) = (g :: r.map (·.1)).contains k
    rw [any_key (kws := r), List.contains_cons]
    congr 1
    by_cases h : g = k
    · subst h; simp
    · rw [decide_eq_false (fun z => h (Sum.inr.inj z))]
      exact (beq_eq_false_iff_ne.mpr fun z => h z.symm).symm
theorem putK_keyed {k : Str} {v : V} : ∀ {kws : List (Str × V)}, (kws.map (·.1)).Nodup → putK (keyed kws) (Sum.inr k) v = keyed (putR k v kws) := by
  intro kws nd
  unfold putK
  rw [any_key]
  by_cases h : (kws.map (·.1)).contains k = true
  · rw [if_pos h]
    induction kws with
    | nil => simp at h
    | cons p r ih =>
      obtain ⟨g, x⟩ := p
      rw [List.map_cons, List.nodup_cons] at nd
      unfold putR
      by_cases hg : g = k
      · subst hg
        rw [if_pos rfl]
        have nm : ∀ q ∈ r, q.1 ≠ g := fun q hq z => nd.1 (List.mem_map.mpr ⟨q, hq, z⟩)
        have : (keyed r).map (fun kv => if kv.1 = Sum.inr g then (kv.1, v) else kv) = keyed r := by
          unfold keyed
          rw [List.map_map]
          apply List.map_congr_left
          intro q hq
          show (if (Sum.inr q.1 : Key) = Sum.inr g then ((Sum.inr q.1 : Key), v) else (Sum.inr q.1, q.2)) = _
          rw [if_neg fun z => nm q hq (Sum.inr.inj z)]
        show (if (Sum.inr g : Key) = Sum.inr g then ((Sum.inr g : Key), v) else _) :: (keyed r).map _ = _
        rw [if_pos rfl, this]; rfl
      · rw [if_neg hg]
        have h' : (r.map (·.1)).contains k = true := by
          rw [List.map_cons, List.contains_cons, Bool.or_eq_true] at h
          rcases h with h | h
          · exact absurd (eq_of_beq h).symm hg
          · exact h
        show (if (Sum.inr g : Key) = Sum.inr k then ((Sum.inr g : Key), v) else (Sum.inr g, x)) :: (keyed r).map _ = _
        rw [if_neg fun z => hg (Sum.inr.inj z), ih nd.2 h']; rfl
  · rw [if_neg h]
    have nm : k ∉ kws.map (·.1) := fun z => h (by simpa using z)
    clear h
    induction kws with
    | nil => rfl
    | cons p r ih =>
      obtain ⟨g, x⟩ := p
      rw [List.map_cons, List.nodup_cons] at nd
      have hg : g ≠ k := fun z => nm (by rw [z]; exact List.mem_cons_self)
      unfold putR
      rw [if_neg hg]
      show (Sum.inr g, x) :: (keyed r ++ [(Sum.inr k, v)]) = (Sum.inr g, x) :: keyed (putR k v r)
      rw [ih nd.2 fun z => nm (List.mem_cons_of_mem _ z)]
theorem putR_len {α : Type} {k : Str} {s : α} : ∀ {kvs : List (Str × α)}, (putR k s kvs).length ≤ kvs.length + 1
  | [] => Nat.le_refl _
  | (g, x) :: r => by
    unfold putR
    split
    · simp
    · rw [List.length_cons, List.length_cons]; have := putR_len (k := k) (s := s) (kvs := r); omega
theorem RF.keys {kvs : List (Str × SV)} {kws : List (Str × V)} {L : List Addr} (r : RF mg H kvs kws L) : kws.map (·.1) = kvs.map (·.1) := by
  refine RF.rec (motive_1 := fun _ _ _ _ => True) (motive_2 := fun kvs kws L _ => kws.map (·.1) = kvs.map (·.1)) ?_ ?_ ?_ ?_ ?_ ?_ ?_ r
  · intros; trivial
  · intros; trivial
  · intros; trivial
  · intros; trivial
  · intros; trivial
  · rfl
  · intro k s x kvs kws L1 L2 _ _ _ _ ih
    rw [List.map_cons, List.map_cons, ih]
theorem RF.stay {H' : Hp} {kvs : List (Str × SV)} {kws : List (Str × V)} {L : List Addr} (r : RF mg H kvs kws L) (h : ∀ b o, H b = some o → isFz o → H' b = some o) (h2 : ∀ b ∈ L, ∀ o, H b = some o → H' b = some o) : RF mg H' kvs kws L := by
  refine RF.rec (motive_1 := fun _ _ _ _ => True) (motive_2 := fun kvs kws L _ => (∀ b ∈ L, ∀ o, H b = some o → H' b = some o) → RF mg H' kvs kws L) ?_ ?_ ?_ ?_ ?_ ?_ ?_ r h2
  · intros; trivial
  · intros; trivial
  · intros; trivial
  · intros; trivial
  · intros; trivial
  · intro _; exact .nil
  · intro k s x kvs kws L1 L2 r0 _ n _ ih q
    exact .cons (r0.stay h fun b hb => q b (List.mem_append_left _ hb)) (ih fun b hb => q b (List.mem_append_right _ hb)) n
/-- a field is set anew: the others stay -/
theorem RF.put {kvs : List (Str × SV)} {kws : List (Str × V)} {L Ls : List Addr} {k : Str} {s : SV} {x : V} (r : RF mg H kvs kws L) : RS mg H s x Ls → (∀ a ∈ Ls, a ∉ L) → ∃ L', RF mg H (putR k s kvs) (putR k x kws) L' ∧ ∀ a ∈ L', a ∈ Ls ∨ a ∈ L := by
  refine RF.rec (motive_1 := fun _ _ _ _ => True) (motive_2 := fun kvs kws L _ => RS mg H s x Ls → (∀ a ∈ Ls, a ∉ L) → ∃ L', RF mg H (putR k s kvs) (putR k x kws) L' ∧ ∀ a ∈ L', a ∈ Ls ∨ a ∈ L) ?_ ?_ ?_ ?_ ?_ ?_ ?_ r
  · intros; trivial
  · intros; trivial
  · intros; trivial
  · intros; trivial
  · intros; trivial
  · intro rs _
    exact ⟨Ls ++ [], .cons rs .nil (fun _ _ h => nomatch h), fun a h => .inl (by simpa using h)⟩
  · intro g s0 x0 kvs kws L1 L2 r0 rf n _ ih rs dj
    unfold putR
    by_cases hg : g = k
    · rw [if_pos hg, if_pos hg]
      exact ⟨Ls ++ L2, .cons rs rf fun a h h' => dj a h (List.mem_append_right _ h'), fun a h => (List.mem_append.mp h).imp id fun z => List.mem_append_right _ z⟩
    · rw [if_neg hg, if_neg hg]
      obtain ⟨L', h1, h2⟩ := ih rs fun a h h' => dj a h (List.mem_append_right _ h')
      refine ⟨L1 ++ L', .cons r0 h1 fun a h h' => ?_, fun a h => ?_⟩
      · rcases h2 a h' with z | z
        · exact dj a z (List.mem_append_left _ h)
        · exact n a h z
      · rcases List.mem_append.mp h with z | z
        · exact .inr (List.mem_append_left _ z)
        · exact (h2 a z).imp id fun y => List.mem_append_right _ y
/-- x['k'], x a record -/
def recO (i : Nat) (k : Str) : Loc → Rs OV := fun ρ => match ρ[i]? with
  | some (some (.r kvs)) => match kvs.lookup k with
    | some _ => .ok (.fd i k) ρ
    | none => .no
  | _ => .no
theorem valV_keyed {k : Str} : ∀ {kws : List (Str × V)}, valV (keyed kws) (Sum.inr k) = kws.lookup k
  | [] => rfl
  | (g, x) :: r => by
    rw [List.lookup_cons]
    by_cases h : g = k
    · subst h
      rw [show keyed ((g, x) :: r) = (Sum.inr g, x) :: keyed r from rfl, valV_pos rfl]; simp
    · rw [show keyed ((g, x) :: r) = (Sum.inr g, x) :: keyed r from rfl, valV_neg (show ¬ (Sum.inr g : Key) = Sum.inr k from fun z => h (Sum.inr.inj z)), valV_keyed (kws := r)]
      rw [show (k == g) = false from beq_eq_false_iff_ne.mpr fun z => h z.symm]
theorem gO_rec {i : Nat} {x k : Str} {p pos : Pos} {j : Nat} {p2 : Pos} (hu : X.A.units + 65 < cLine) (hN : X.N[i]? = some x) (hv : Vis X.env.scope x) (hd : (x == ("__debug__" : Str)) = false) (hcd : (x == ("__classdict__" : Str)) = false) :
    GO m X W (.Subscript (.Name x p) (.Constant (.str k) j p2) pos) (recO i k) := by
  refine ⟨_, pe_dget (by omega) (pe_var hN hv hd hcd) pe_str (fun _ _ => rfl), fun ρ σ H L Q rl po => ?_⟩
  unfold recO at po
  split at po
  · rename_i kvs hs
    obtain ⟨x, Ls, Lr, h1, h2, _, _, h5⟩ := rl.get hs
    cases hl : kvs.lookup k with
    | none => rw [hl] at po; exact po.elim
    | some s =>
      rw [hl] at po
      cases h2 with
      | @r ad _ kws _ e rf n nd =>
        obtain ⟨y, Ly, g1, g2, g3⟩ := rf.lookup hl
        refine ⟨.ref ad, h1, ad, y, rfl, ?_, po y H [] L ⟨rfl, ad, h1, .inl ⟨kws, e, g1⟩⟩ (.refl rl) (fun _ h => nomatch h) (fun _ h => nomatch h) fun _ => rfl⟩
        have := DGet.k (k := Sum.inr k) e
        rw [show valV (List.map (fun p => (Sum.inr p.1, p.2)) kws) (Sum.inr k) = kws.lookup k from valV_keyed] at this
        rw [g1] at this
        exact this
  · exact po.elim
/-- what a slot owns is written -/
theorem slot_write {ρ : Loc} {σ : St} {L Ls Lr Ls' : List Addr} {i : Nat} {s s' : SV} {x : V} {ad : Addr} {o : HO} (hr : ρ[i]? = some (some s)) (hx : σ[i]? = some (some x)) (rl : RL mg H (ρ.set i none) σ Lr) (inS : ad ∈ Ls) (nf : ∀ u, H ad = some u → ¬ isFz u) (dj : ∀ a ∈ Ls, a ∉ Lr)
    (h5 : ∀ a, a ∈ L ↔ a ∈ Ls ∨ a ∈ Lr) (rs : RS mg (upd H ad o) s' x Ls') (sub : ∀ a ∈ Ls', a ∈ Ls ∨ H a = none) : ∃ L', Aft mg true H L (ρ.set i (some s')) σ (upd H ad o) L' := by
  have st : Stp true H (upd H ad o) L := Stp.write ((h5 ad).mpr (.inl inS)) nf
  have rl2 : RL mg (upd H ad o) (ρ.set i none) σ Lr := rl.stay st.fz fun b hb u q => by rw [upd_ne (show b ≠ ad from fun z => dj ad inS (z ▸ hb))]; exact q
  have dj2 : ∀ a ∈ Ls', a ∉ Lr := fun a h h' => by
    rcases sub a h with z | z
    · exact dj a z h'
    · obtain ⟨u, q, _⟩ := rl.there a h'; rw [z] at q; cases q
  obtain ⟨L', g1, g2⟩ := RL.back (List.getElem?_eq_some_iff.mp hr).1 rl2 hx rs dj2
  refine ⟨L', g1, st, fun a h => ?_⟩
  rcases (g2 a).mp h with z | z
  · rcases sub a z with y | y
    · exact .inl ((h5 a).mpr (.inl y))
    · exact .inr y
  · exact .inl ((h5 a).mpr (.inr z))
/-- x['k'] = e, x a record -/
def recS (i : Nat) (k : Str) (c : Loc → Rs SV) : Loc → Rs Fl := bindR c fun s ρ => match ρ[i]? with
  | some (some (.r kvs)) => if kvs.length ≤ 100 then .ok .nx (ρ.set i (some (.r (putR k s kvs)))) else .no
  | _ => .no
theorem gS_rec {i : Nat} {x k : Str} {c : Loc → Rs SV} {p p2 p3 pos : Pos} {j : Nat} (hu : X.A.units + 65 < cLine) (hN : X.N[i]? = some x) (hv : Vis X.env.scope x) (hd : (x == ("__debug__" : Str)) = false) (hcd : (x == ("__classdict__" : Str)) = false) (h : GV true X W e c) :
    GS X W K (.Assign [.Subscript (.Name x p) (.Constant (.str k) j p2) p3] e pos) (recS i k c) := by
  obtain ⟨t, pe, g⟩ := h
  refine ⟨_, ps_dput (by omega) (pe_var hN hv hd hcd) pe_str pe (noSwapT fun _ _ h => nomatch h), fun ρ σ H L D rl po => g ρ σ H L _ rl ?_⟩
  unfold recS bindR at po
  cases hc : c ρ with
  | no => rw [hc] at po; exact po
  | ex x ρ1 => rw [hc] at po; exact fun cls d H' L' r a2 => po cls d σ H' L' r a2 .refl
  | ok s ρ1 =>
    rw [hc] at po
    intro v H1 Lt L1 rs aft dj sb hρ
    dsimp only at po
    split at po
    · rename_i kvs hs
      split at po
      · rename_i hlen
        obtain ⟨y, Ls, Lr, h1, h2, h3, h4, h5⟩ := aft.rl.get hs
        cases h2 with
        | @r ad _ kws Lf e rf n nd =>
          have nf : ∀ u, H1 ad = some u → ¬ isFz u := fun u q z => by rw [e] at q; cases q; exact z
          have ndw : (kws.map (·.1)).Nodup := by rw [rf.keys]; exact nd
          have hl : kws.length ≤ 100 := by
            have := congrArg List.length rf.keys
            rw [List.length_map, List.length_map] at this
            omega
          have ne : ad ∉ Lt := fun z => dj ad z ((h5 ad).mpr (.inl List.mem_cons_self))
          refine ⟨.ref ad, h1, ad, _, rfl, DPut.k (k := Sum.inr k) e (by rw [List.length_map, sizeLine_eq]; omega), ?_⟩
          have fz : ∀ b o, H1 b = some o → isFz o → upd H1 ad (.dK (putK (keyed kws) (Sum.inr k) v)) b = some o := fun b o q z => by rw [upd_ne (show b ≠ ad from fun w => by subst w; exact nf o q z)]; exact q
          have rs' : RS X.mg (upd H1 ad (.dK (putK (keyed kws) (Sum.inr k) v))) s v Lt := rs.stay fz fun b hb o q => by rw [upd_ne (show b ≠ ad from fun w => ne (w ▸ hb))]; exact q
          have rf' : RF X.mg (upd H1 ad (.dK (putK (keyed kws) (Sum.inr k) v))) kvs kws Lf := rf.stay fz fun b hb o q => by rw [upd_ne (show b ≠ ad from fun w => n (w ▸ hb))]; exact q
          obtain ⟨Lp, q1, q2⟩ := rf'.put (k := k) rs' fun a h h' => dj a h ((h5 a).mpr (.inl (List.mem_cons_of_mem _ h')))
          have nLp : ad ∉ Lp := fun z => (q2 ad z).elim ne n
          have hH : upd H1 ad (.dK (putK (keyed kws) (Sum.inr k) v)) ad = some (.dK (keyed (putR k v kws))) := by rw [upd_same, putK_keyed ndw]
          have rs2 : RS X.mg (upd H1 ad (.dK (putK (keyed kws) (Sum.inr k) v))) (.r (putR k s kvs)) (.ref ad) (ad :: Lp) := .r hH q1 nLp (putR_nodup nd)
          -- the slots
          have st : Stp true H1 (upd H1 ad (.dK (putK (keyed kws) (Sum.inr k) v))) L1 := Stp.write ((h5 ad).mpr (.inl List.mem_cons_self)) nf
          have rl2 : RL X.mg (upd H1 ad (.dK (putK (keyed kws) (Sum.inr k) v))) (ρ1.set i none) σ Lr := h3.stay fz fun b hb o q => by rw [upd_ne (show b ≠ ad from fun w => h4 ad List.mem_cons_self (w ▸ hb))]; exact q
          have dj2 : ∀ a ∈ ad :: Lp, a ∉ Lr := fun a h h' => by
            rcases List.mem_cons.mp h with z | z
            · subst z; exact h4 a List.mem_cons_self h'
            · rcases q2 a z with y | y
              · exact dj a y ((h5 a).mpr (.inr h'))
              · exact h4 a (List.mem_cons_of_mem _ y) h'
          obtain ⟨L', g1, g2⟩ := RL.back (List.getElem?_eq_some_iff.mp hs).1 rl2 h1 rs2 dj2
          refine po σ _ L' ⟨g1, aft.st.trans aft.sb st, fun a h => ?_⟩ .refl
          rcases (g2 a).mp h with z | z
          · rcases List.mem_cons.mp z with y | y
            · subst y; exact aft.sb a ((h5 a).mpr (.inl List.mem_cons_self))
            · rcases q2 a y with w | w
              · exact sb a w
              · exact aft.sb a ((h5 a).mpr (.inl (List.mem_cons_of_mem _ w)))
          · exact aft.sb a ((h5 a).mpr (.inr z))
      · exact po.elim
    · exact po.elim
/-! ### x[i] = e, x a list -/
def setO (i : Nat) (c : Loc → Rs PV) (ci : Loc → Rs OV) : Loc → Rs Fl := bindR c fun p ρ1 => match ρ1[i]? with
  | some (some (.l _)) => bindR ci (fun j ρ => match ρ[i]?, j.get ρ with
    | some (some (.l xs)), some (.v (.int k)) => match ixN xs.length k with
      | some n => .ok .nx (ρ.set i (some (.l (xs.set n p))))
      | none => .no
    | _, _ => .no) ρ1
  | _ => .no
theorem subTarget {o i : Expr} {pos : Pos} {env : Env} (h : isSlice i = false) : ∀ v, assign (.Subscript o i pos) env v = (do
      let ov ← holding [v] (eval o env)
      let iv ← holding [v, ov] (eval i env)
      standAt pos
      holding [v, ov, iv] (setItem ov iv v)
      release [v, ov, iv] []) := by
  intro v
  cases i <;> first | rfl | exact Bool.noConfusion h
theorem noStores {t e : Expr} {env : Env} (h : ∀ es k p, t ≠ .Tuple es k p) (h2 : ∀ es p, t ≠ .List es p) : swappedStores [t] e env = pure none := by
  cases t <;> first | rfl | exact absurd rfl (h _ _ _) | exact absurd rfl (h2 _ _)
theorem noSole {t e : Expr} {l : Nat} {env : Env} (h : isComp e = false) : swapsWithSole [t] e l env = pure false := noSwap (t := some t) h
theorem noSoleS {o i e : Expr} {p : Pos} {l : Nat} {env : Env} : swapsWithSole [.Subscript o i p] e l env = pure false := noSwapT (t := .Subscript o i p) (l := l) (env := env) fun _ _ h => nomatch h
theorem noSoleP {es e : _} {k : Nat} {p : Pos} {l : Nat} {env : Env} : swapsWithSole [.Tuple es k p] e l env = pure false := noSwapT (t := .Tuple es k p) (l := l) (env := env) fun _ _ h => nomatch h
theorem ixN_len {n n' : Nat} {k : Int} (h : n = n') : ixN n k = ixN n' k := by rw [h]
theorem gS_setL {i : Nat} {x : Str} {c : Loc → Rs PV} {ci : Loc → Rs OV} {p p3 pos : Pos} (hN : X.N[i]? = some x) (hv : Vis X.env.scope x) (hd : (x == ("__debug__" : Str)) = false) (hcd : (x == ("__classdict__" : Str)) = false) (hsl : isSlice b = false) (h : GP X W e c) (hi : GO m X W b ci) :
    GS X W K (.Assign [.Subscript (.Name x p) b p3] e pos) (setO i c ci) := by
  obtain ⟨t, pe, g⟩ := h
  obtain ⟨ti, pi, gi⟩ := hi
  refine ⟨_, ps_asg pe (pg_sub (pe_var hN hv hd hcd) pi set_list (subTarget hsl)) noSoleS (noStores (fun _ _ _ h => nomatch h) (fun _ _ h => nomatch h)) rfl, fun ρ σ H L D rl po => g ρ σ H L _ rl ?_⟩
  unfold setO bindR at po
  cases hc : c ρ with
  | no => rw [hc] at po; exact po
  | ex x ρ1 => rw [hc] at po; exact fun cls d H' L' r a2 => po cls d σ H' L' r a2 .refl
  | ok q ρ1 =>
    rw [hc] at po
    intro v H1 L1 rv aft
    dsimp only at po
    split at po
    · rename_i xs0 hs0
      obtain ⟨y, _, _, hy, _⟩ := aft.rl.get hs0
      refine ⟨y, hy, gi ρ1 σ H1 L1 _ aft.rl ?_⟩
      cases hj : ci ρ1 with
      | no => rw [hj] at po; exact po
      | ex x ρ2 => rw [hj] at po; exact fun cls d H' L' r a2 => po cls d σ H' L' r (aft.trans (a2.mono fun _ => rfl)) .refl
      | ok j ρ2 =>
        rw [hj] at po
        intro w H2 Lt2 L2 ro aft2 dj2 sb2 hρ2
        have aft12 := aft.trans (aft2.mono (m' := true) fun _ => rfl)
        dsimp only at po
        cases hs : ρ2[i]? with
        | none => rw [hs] at po; exact po.elim
        | some o =>
          cases o with
          | none => rw [hs] at po; exact po.elim
          | some s =>
            cases s with
            | l xs =>
              rw [hs] at po
              cases hg : j.get ρ2 with
              | none => rw [hg] at po; exact po.elim
              | some sj =>
                rw [hg] at po
                obtain ⟨Lj, rj, _⟩ := ro.get aft2.rl hg
                cases sj with
                | v pj =>
                  cases pj with
                  | int k =>
                    dsimp only at po
                    cases hi : ixN xs.length k with
                    | none => rw [hi] at po; exact po.elim
                    | some n =>
                      rw [hi] at po
                      obtain ⟨z, Ls, Lr, h1, h2, h3, h4, h5⟩ := aft2.rl.get hs
                      rw [hy] at h1; cases h1
                      cases h2 with
                      | @l ad _ vs ea ra =>
                        refine ⟨ad, vs, k, n, rfl, rj.val, ea, by rw [ra.length]; exact hi, ?_⟩
                        have nf : ∀ u, H2 ad = some u → ¬ isFz u := fun u q z => by rw [ea] at q; cases q; exact z
                        have fz : ∀ b o, H2 b = some o → isFz o → upd H2 ad (.lst (vs.set n v)) b = some o := fun b o q z => by rw [upd_ne (show b ≠ ad from fun w => by subst w; exact nf o q z)]; exact q
                        obtain ⟨L', a'⟩ := slot_write (o := .lst (vs.set n v)) hs hy h3 (List.mem_singleton.mpr rfl) nf h4 h5 (RS.l upd_same ((ra.set n (rv.step (aft2.mono (m' := true) fun _ => rfl).st)).stay fz)) (fun a h => .inl h)
                        exact po σ _ L' (aft12.trans a') .refl
                  | _ => exact po.elim
                | _ => exact po.elim
            | _ => rw [hs] at po; exact po.elim
    · exact po.elim
/-! ### x['k'][i] = e -/
def recIx (i : Nat) (f : Str) (c : Loc → Rs PV) (ci : Loc → Rs OV) : Loc → Rs Fl := bindR c fun p ρ1 => match ρ1[i]? with
  | some (some (.r kvs)) => match kvs.lookup f with
    | some (.l xs) => bindR ci (fun j ρ => match j.get ρ with
      | some (.v (.int k)) => match ixN xs.length k with
        | some n => .ok .nx (ρ.set i (some (.r (putR f (.l (xs.set n p)) kvs))))
        | none => .no
      | _ => .no) ρ1
    | _ => .no
  | _ => .no
/-- a field's own list is written in its place -/
theorem RF.write {kvs : List (Str × SV)} {kws : List (Str × V)} {L : List Addr} {f : Str} {ad : Addr} {xs xs' : List PV} {vs vs' : List V} (r : RF mg H kvs kws L) (hH : H ad = some (.lst vs)) :
    (kvs.map (·.1)).Nodup → kvs.lookup f = some (.l xs) → kws.lookup f = some (.ref ad) → RVs mg (upd H ad (.lst vs')) xs' vs' → RF mg (upd H ad (.lst vs')) (putR f (.l xs') kvs) kws L ∧ ad ∈ L := by
  have nf : ∀ u, H ad = some u → ¬ isFz u := fun u q z => by rw [hH] at q; cases q; exact z
  have fz : ∀ b o, H b = some o → isFz o → upd H ad (.lst vs') b = some o := fun b o q z => by rw [upd_ne (show b ≠ ad from fun w => by subst w; exact nf o q z)]; exact q
  refine RF.rec (motive_1 := fun _ _ _ _ => True) (motive_2 := fun kvs kws L _ => (kvs.map (·.1)).Nodup → kvs.lookup f = some (.l xs) → kws.lookup f = some (.ref ad) → RVs mg (upd H ad (.lst vs')) xs' vs' → RF mg (upd H ad (.lst vs')) (putR f (.l xs') kvs) kws L ∧ ad ∈ L) ?_ ?_ ?_ ?_ ?_ ?_ ?_ r
  · intros; trivial
  · intros; trivial
  · intros; trivial
  · intros; trivial
  · intros; trivial
  · intro _ h; simp at h
  · intro g s0 x0 kvs kws L1 L2 r0 rf n _ ih nd hl hw rv
    rw [List.lookup_cons] at hl hw
    rw [List.map_cons, List.nodup_cons] at nd
    unfold putR
    by_cases hg : g = f
    · subst hg
      rw [if_pos rfl]
      simp at hl hw
      subst hl hw
      cases r0 with
      | l e _ =>
        refine ⟨.cons (.l upd_same rv) (rf.stay fz fun b hb o q => ?_) n, List.mem_append_left _ (List.mem_singleton.mpr rfl)⟩
        rw [upd_ne (show b ≠ ad from fun w => n ad (List.mem_singleton.mpr rfl) (w ▸ hb))]; exact q
    · rw [if_neg hg]
      rw [show (f == g) = false from beq_eq_false_iff_ne.mpr fun z => hg z.symm] at hl hw
      obtain ⟨h1, h2⟩ := ih nd.2 hl hw rv
      refine ⟨.cons (r0.stay fz fun b hb o q => ?_) h1 n, List.mem_append_right _ h2⟩
      rw [upd_ne (show b ≠ ad from fun w => n b hb (w ▸ h2))]; exact q
theorem gS_recIx {i : Nat} {x f : Str} {c : Loc → Rs PV} {ci : Loc → Rs OV} {p p2 p3 p4 pos : Pos} {jj : Nat} (hu : X.A.units + 65 < cLine) (hN : X.N[i]? = some x) (hv : Vis X.env.scope x) (hd : (x == ("__debug__" : Str)) = false) (hcd : (x == ("__classdict__" : Str)) = false) (hsl : isSlice b = false)
    (h : GP X W e c) (hi : GO false X W b ci) : GS X W K (.Assign [.Subscript (.Subscript (.Name x p) (.Constant (.str f) jj p2) p3) b p4] e pos) (recIx i f c ci) := by
  obtain ⟨t, pe, g⟩ := h
  obtain ⟨ti, pi, gi⟩ := hi
  refine ⟨_, ps_asg pe (pg_sub (pe_dget (by omega) (pe_var hN hv hd hcd) pe_str (fun _ _ => rfl)) pi set_list (subTarget hsl)) noSoleS (noStores (fun _ _ _ h => nomatch h) (fun _ _ h => nomatch h)) rfl, fun ρ σ H L D rl po => g ρ σ H L _ rl ?_⟩
  unfold recIx bindR at po
  cases hc : c ρ with
  | no => rw [hc] at po; exact po
  | ex x ρ1 => rw [hc] at po; exact fun cls d H' L' r a2 => po cls d σ H' L' r a2 .refl
  | ok q ρ1 =>
    rw [hc] at po
    intro v H1 L1 rv aft
    dsimp only at po
    split at po
    · rename_i kvs hr
      cases hs0 : kvs.lookup f with
      | none => rw [hs0] at po; exact po.elim
      | some s0 =>
        cases s0 with
        | l xs0 =>
          rw [hs0] at po
          dsimp only at po
          obtain ⟨y, Ls, Lr, h1, h2, h3, h4, h5⟩ := aft.rl.get hr
          cases h2 with
          | @r ad _ kws Lf e rf n nd =>
            obtain ⟨z, Lz, g1, g2, g3⟩ := rf.lookup hs0
            cases g2 with
            | @l al _ vs ea ra =>
              refine ⟨.ref ad, h1, ad, .ref al, rfl, ?_, gi ρ1 σ H1 L1 _ aft.rl ?_⟩
              · have := DGet.k (k := Sum.inr f) e
                rw [show valV (List.map (fun p => (Sum.inr p.1, p.2)) kws) (Sum.inr f) = kws.lookup f from valV_keyed, g1] at this
                exact this
              · cases hj : ci ρ1 with
                | no => rw [hj] at po; exact po
                | ex x ρ2 => rw [hj] at po; exact fun cls d H' L' r a2 => po cls d σ H' L' r (aft.trans (a2.mono fun _ => rfl)) .refl
                | ok j ρ2 =>
                  rw [hj] at po
                  intro w H2 Lt2 L2 ro aft2 dj2 sb2 hρ2
                  have := hρ2 rfl
                  subst this
                  dsimp only at po
                  cases hg : j.get ρ2 with
                  | none => rw [hg] at po; exact po.elim
                  | some sj =>
                    rw [hg] at po
                    obtain ⟨Lj, rj, _⟩ := ro.get aft2.rl hg
                    cases sj with
                    | v pj =>
                      cases pj with
                      | int k =>
                        dsimp only at po
                        cases hi : ixN xs0.length k with
                        | none => rw [hi] at po; exact po.elim
                        | some nn =>
                          rw [hi] at po
                          have kp : ∀ b o, H1 b = some o → H2 b = some o := fun b o q => aft2.st b o q (.inr (.inr rfl))
                          have ea2 := kp _ _ ea
                          refine ⟨al, vs, k, nn, rfl, rj.val, ea2, by rw [ra.length]; exact hi, ?_⟩
                          have nf : ∀ u, H2 al = some u → ¬ isFz u := fun u q z => by rw [ea2] at q; cases q; exact z
                          have fz : ∀ b o, H2 b = some o → isFz o → upd H2 al (.lst (vs.set nn v)) b = some o := fun b o q z => by rw [upd_ne (show b ≠ al from fun w => by subst w; exact nf o q z)]; exact q
                          have rv' := ((ra.stay fun b o q _ => kp b o q).set nn (rv.stay fun b o q _ => kp b o q)).stay fz
                          have rf2 : RF X.mg H2 kvs kws Lf := rf.stay (fun b o q _ => kp b o q) fun b _ o q => kp b o q
                          obtain ⟨w1, w2⟩ := rf2.write ea2 nd hs0 g1 rv'
                          have nda : ad ≠ al := fun z => by rw [z] at e; rw [ea] at e; cases e
                          have rs2 : RS X.mg (upd H2 al (.lst (vs.set nn v))) (.r (putR f (.l (xs0.set nn q)) kvs)) (.ref ad) (ad :: Lf) := .r (by rw [upd_ne nda]; exact kp _ _ e) w1 n (putR_nodup nd)
                          obtain ⟨L', a'⟩ := slot_write (L := L1) hr h1 (h3.stay (fun b o q _ => kp b o q) fun b _ o q => kp b o q) (List.mem_cons_of_mem _ w2) nf h4 h5 rs2 (fun a h => .inl h)
                          refine po σ _ L' (aft.trans ?_) .refl
                          exact ⟨a'.rl, fun b o q c => a'.st b o (kp b o q) c, fun a h => by
                            rcases a'.sb a h with y | y
                            · exact .inl y
                            · refine .inr ?_
                              cases z : H1 a with
                              | none => rfl
                              | some o => rw [kp a o z] at y; cases y⟩
                      | _ => exact po.elim
                    | _ => exact po.elim
        | _ => rw [hs0] at po; exact po.elim
    · exact po.elim
end Lt
set_option maxHeartbeats 1000000
/-! LtO: append; a, b = x, y; record displays. -/
namespace Lt
open PySem PySem.Spec L2
open PyProof.Rows hiding St
variable {mg : Str → Option Value} {X : Cx} {W : WX} {e a b tg : Expr} {m mb m' : Bool} {H : Hp} {K : List Nat}

/-! ### x.append(e) -/
def appO (i : Nat) (c : Loc → Rs PV) : Loc → Rs OV := fun ρ => match ρ[i]? with
  | some (some (.l _)) => bindR c (fun p ρ1 => match ρ1[i]? with
    | some (some (.l xs)) => if xs.length < 1000000 then .ok (.tm (.v .non)) (ρ1.set i (some (.l (xs ++ [p])))) else .no
    | _ => .no) ρ
  | _ => .no
theorem few1 {cpos : Pos} {env : Env} {e : Expr} (h : isStar e = false) : ((backTo cpos (starEach [e] env)).all (fun x => !x.1) && (backToKw cpos (keywordEach [] env)).all (fun x => x.1.isSome)
      && decide (([e] : List Expr).length + ([] : List Keyword).length + (if ([] : List Keyword).isEmpty then 0 else 1) < 30)) = true := by
  rw [starEach_cons h]; rfl
theorem gO_append {i : Nat} {x : Str} {c : Loc → Rs PV} {p ap cp : Pos} (hN : X.N[i]? = some x) (hv : Vis X.env.scope x) (hd : (x == ("__debug__" : Str)) = false) (hcd : (x == ("__classdict__" : Str)) = false) (hst : isStar e = false) (hline : (ap.endLine == cp.line) = true) (h : GP X W e c) :
    GO true X W (.Call (.Attribute (.Name x p) "append" ap) [e] [] cp) (appO i c) := by
  obtain ⟨t, pe, g⟩ := h
  refine ⟨_, pe_bm PySem.F.plainAttrs_list PySem.F.slot_list_append PySem.F.type_list_append mt_append (pe_var hN hv hd hcd) (pa_cons pe pa_nil (starEach_cons hst)) rfl (few1 hst) hline (starEach_cons hst) rfl, fun ρ σ H L Q rl po => ?_⟩
  unfold appO at po
  cases hs0 : ρ[i]? with
  | none => rw [hs0] at po; exact po.elim
  | some o =>
    cases o with
    | none => rw [hs0] at po; exact po.elim
    | some s =>
      cases s with
      | l xs0 =>
        rw [hs0] at po
        dsimp only at po
        obtain ⟨y, Ls0, Lr0, hy, h20, _⟩ := rl.get hs0
        cases h20 with
        | @l ad _ vs0 ea0 ra0 =>
          refine ⟨.ref ad, hy, .inl ⟨rfl, vs0, .inl (.inl ea0)⟩, g ρ σ H L _ rl ?_⟩
          unfold bindR at po
          cases hc : c ρ with
          | no => rw [hc] at po; exact po
          | ex x ρ1 => rw [hc] at po; exact fun cls d H' L' r a2 => po cls d H' L' r a2
          | ok q ρ1 =>
            rw [hc] at po
            intro v H1 L1 rv aft
            dsimp only at po
            cases hs : ρ1[i]? with
            | none => rw [hs] at po; exact po.elim
            | some o =>
              cases o with
              | none => rw [hs] at po; exact po.elim
              | some s =>
                cases s with
                | l xs =>
                  rw [hs] at po
                  dsimp only at po
                  split at po
                  · rename_i hz
                    obtain ⟨z, Ls, Lr, h1, h2, h3, h4, h5⟩ := aft.rl.get hs
                    rw [hy] at h1; cases h1
                    cases h2 with
                    | @l _ _ vs ea ra =>
                      have hl := ra.length
                      refine ⟨ad, vs, v, rfl, rfl, ea, by rw [sizeLine_eq]; omega, ?_⟩
                      have nf : ∀ u, H1 ad = some u → ¬ isFz u := fun u q z => by rw [ea] at q; cases q; exact z
                      have fz : ∀ b o, H1 b = some o → isFz o → upd H1 ad (.lst (vs ++ [v])) b = some o := fun b o q z => by rw [upd_ne (show b ≠ ad from fun w => by subst w; exact nf o q z)]; exact q
                      obtain ⟨L', a'⟩ := slot_write (o := .lst (vs ++ [v])) hs hy h3 (List.mem_singleton.mpr rfl) nf h4 h5 (RS.l upd_same ((ra.append (RVs.cons rv RVs.nil)).stay fz)) (fun a h => .inl h)
                      exact po .non _ [] L' (.v rfl) (aft.trans a') (fun _ h => nomatch h) (fun _ h => nomatch h) (fun z => nomatch z)
                  · exact po.elim
                | _ => rw [hs] at po; exact po.elim
      | _ => rw [hs0] at po; exact po.elim
/-! ### values one behind the other, to be kept -/
def seqV : List (Loc → Rs SV) → Loc → Rs (List SV)
  | [] => fun ρ => .ok [] ρ
  | c :: cs => bindR c fun x => bindR (seqV cs) fun xs ρ => .ok (x :: xs) ρ
def PoVs (mg : Str → Option Value) (W : WX) (H : Hp) (L : List Addr) (σ : St) (Q : List V → Hp → Prop) : Rs (List SV) → Prop
  | .ok ss ρ' => ∀ vs H' Lt L', RAs mg H' ss vs Lt → Aft mg true H L ρ' σ H' L' → (∀ a ∈ Lt, a ∉ L') → Sub Lt L H → Q vs H'
  | .ex x ρ' => ∀ cls d H' L', RX mg H' x cls d → Aft mg true H L ρ' σ H' L' → W cls d σ H'
  | .no => False
def GVs (X : Cx) (W : WX) (es : List Expr) (c : Loc → Rs (List SV)) : Prop :=
  ∃ t, PA X es t ∧ ∀ ρ σ H L Q, RL X.mg H ρ σ L → PoVs X.mg W H L σ Q (c ρ) → t σ H Q
theorem gVs_nil : GVs X W [] (seqV []) := ⟨_, pa_nil, fun ρ σ H L Q rl po => po [] H [] L .nil (.refl rl) (fun _ h => nomatch h) (fun _ h => nomatch h)⟩
theorem RAs.step {H' : Hp} {ss : List SV} {vs : List V} {L Ls : List Addr} (r : RAs mg H ss vs Ls) (st : Stp true H H' L) (n : ∀ a ∈ Ls, a ∉ L) : RAs mg H' ss vs Ls := by
  induction r with
  | nil => exact .nil
  | cons r rs d ih => exact .cons (r.step st fun a h => n a (List.mem_append_left _ h)) (ih fun a h => n a (List.mem_append_right _ h)) d
theorem gVs_cons {c : Loc → Rs SV} {cs : List (Loc → Rs SV)} {es : List Expr} (ha : GV true X W e c) (hb : GVs X W es (seqV cs)) (hst : isStar e = false) : GVs X W (e :: es) (seqV (c :: cs)) := by
  obtain ⟨ta, pa, ga⟩ := ha
  obtain ⟨tb, pb, gb⟩ := hb
  refine ⟨_, pa_cons pa pb (starEach_cons hst), fun ρ σ H L Q rl po => ga ρ σ H L _ rl ?_⟩
  unfold seqV at po
  unfold bindR at po
  cases hc : c ρ with
  | no => rw [hc] at po; exact po
  | ex x ρ1 => rw [hc] at po; exact po
  | ok p ρ1 =>
    rw [hc] at po
    intro v H1 Lt L1 rs aft dj sb _
    refine gb ρ1 σ H1 L1 _ aft.rl ?_
    dsimp only at po
    cases hd : seqV cs ρ1 with
    | no => rw [hd] at po; exact po
    | ex x ρ2 => rw [hd] at po; exact fun cls d H' L' r a2 => po cls d H' L' r (aft.trans a2)
    | ok ps ρ2 =>
      rw [hd] at po
      intro vs H2 Lt2 L2 rvs aft2 dj2 sb2
      have th : ∀ a ∈ Lt, ∃ o, H1 a = some o := fun a h => let ⟨o, e, _⟩ := rs.there a h; ⟨o, e⟩
      refine po (v :: vs) H2 (Lt ++ Lt2) L2 (.cons (rs.step aft2.st dj) rvs (stayApart th dj sb2)) (aft.trans aft2) (fun a h => ?_) (fun a h => ?_)
      · rcases List.mem_append.mp h with h | h
        · exact stayApart th dj aft2.sb a h
        · exact dj2 a h
      · rcases List.mem_append.mp h with h | h
        · exact sb a h
        · exact Sub.trans aft.st aft.sb sb2 a h
/-! ### a, b = x, y (plain local names) -/
def parS (is : List Nat) (c : Loc → Rs (List SV)) : Loc → Rs Fl := bindR c fun ss ρ => match is, ss with
  | [i, j], [s, t] => if i < ρ.length ∧ j < ρ.length then .ok .nx ((ρ.set i (some s)).set j (some t)) else .no
  | [i, j, k], [s, t, u] => if i < ρ.length ∧ j < ρ.length ∧ k < ρ.length then .ok .nx (((ρ.set i (some s)).set j (some t)).set k (some u)) else .no
  | _, _ => .no
theorem gS_par2 {i j : Nat} {x y : Str} {c : Loc → Rs (List SV)} {px py pt pt2 pos : Pos} {kt k2 : Nat} (hc : X.calm = true) (hN : X.N.Nodup) (hi : X.N[i]? = some x) (hj : X.N[j]? = some y) (hij : i ≠ j)
    (hx : X.env.scope.names.lookup x = some .local) (hy : X.env.scope.names.lookup y = some .local) (hw : swappedStores [.Tuple [.Name x px, .Name y py] kt pt] (.Tuple [a, b] k2 pt2) X.env = pure (some [x, y])) (hK : i ∉ K) (hK2 : j ∉ K) (h : GVs X W [a, b] c) :
    GS X W K (.Assign [.Tuple [.Name x px, .Name y py] kt pt] (.Tuple [a, b] k2 pt2) pos) (parS [i, j] c) := by
  obtain ⟨t, pa, g⟩ := h
  refine ⟨_, ps_par hc hN hi hj hij hx hy pa hw (noSole rfl), fun ρ σ H L D rl po => g ρ σ H L _ rl ?_⟩
  unfold parS bindR at po
  cases hcc : c ρ with
  | no => rw [hcc] at po; exact po
  | ex x ρ1 => rw [hcc] at po; exact fun cls d H' L' r a2 => po cls d σ H' L' r a2 .refl
  | ok ss ρ1 =>
    rw [hcc] at po
    intro vs H1 Lt L1 ra aft dj sb
    cases ra with
    | nil => exact po.elim
    | @cons s v ss vs La Lb r1 ra n1 =>
      cases ra with
      | nil => exact po.elim
      | @cons s2 v2 ss vs Lc Ld r2 ra n2 =>
        cases ra with
        | cons _ _ _ => exact po.elim
        | nil =>
          refine ⟨v, v2, rfl, ?_⟩
          dsimp only at po
          split at po
          · rename_i hl
            obtain ⟨L3, g1, g2⟩ := aft.rl.set hl.1 r1 fun a h => dj a (List.mem_append_left _ h)
            obtain ⟨L4, g3, g4⟩ := g1.set (i := j) (by rw [List.length_set]; exact hl.2) r2 fun a h h' => by
              rcases g2 a h' with z | z
              · exact n1 a z (List.mem_append_left _ h)
              · exact dj a (List.mem_append_right _ (List.mem_append_left _ h)) z
            refine po _ H1 L4 ⟨g3, aft.st, fun a h => ?_⟩ ((Kp.refl.set hK).set hK2)
            rcases g4 a h with z | z
            · exact sb a (List.mem_append_right _ (List.mem_append_left _ z))
            · rcases g2 a z with y | y
              · exact sb a (List.mem_append_left _ y)
              · exact aft.sb a y
          · exact po.elim
theorem gS_par3 {i j l : Nat} {x y z : Str} {c : Loc → Rs (List SV)} {d : Expr} {px py pz pt pt2 pos : Pos} {kt k2 : Nat} (hc : X.calm = true) (hN : X.N.Nodup) (hi : X.N[i]? = some x) (hj : X.N[j]? = some y) (hl : X.N[l]? = some z) (hij : i ≠ j) (hil : i ≠ l) (hjl : j ≠ l)
    (hx : X.env.scope.names.lookup x = some .local) (hy : X.env.scope.names.lookup y = some .local) (hz : X.env.scope.names.lookup z = some .local) (hw : swappedStores [.Tuple [.Name x px, .Name y py, .Name z pz] kt pt] (.Tuple [a, b, d] k2 pt2) X.env = pure (some [x, y, z])) (hK : i ∉ K) (hK2 : j ∉ K) (hK3 : l ∉ K)
    (h : GVs X W [a, b, d] c) : GS X W K (.Assign [.Tuple [.Name x px, .Name y py, .Name z pz] kt pt] (.Tuple [a, b, d] k2 pt2) pos) (parS [i, j, l] c) := by
  obtain ⟨t, pa, g⟩ := h
  refine ⟨_, ps_par3 hc hN hi hj hl hij hil hjl hx hy hz pa hw (noSole rfl), fun ρ σ H L D rl po => g ρ σ H L _ rl ?_⟩
  unfold parS bindR at po
  cases hcc : c ρ with
  | no => rw [hcc] at po; exact po
  | ex x ρ1 => rw [hcc] at po; exact fun cls d H' L' r a2 => po cls d σ H' L' r a2 .refl
  | ok ss ρ1 =>
    rw [hcc] at po
    intro vs H1 Lt L1 ra aft dj sb
    cases ra with
    | nil => exact po.elim
    | @cons s v ss vs La Lb r1 ra n1 =>
      cases ra with
      | nil => exact po.elim
      | @cons s2 v2 ss vs Lc Ld r2 ra n2 =>
        cases ra with
        | nil => exact po.elim
        | @cons s3 v3 ss vs Le Lf r3 ra n3 =>
          cases ra with
          | cons _ _ _ => exact po.elim
          | nil =>
            refine ⟨v, v2, v3, rfl, ?_⟩
            dsimp only at po
            split at po
            · rename_i hl
              obtain ⟨L3, g1, g2⟩ := aft.rl.set hl.1 r1 fun a h => dj a (List.mem_append_left _ h)
              obtain ⟨L4, g3, g4⟩ := g1.set (i := j) (by rw [List.length_set]; exact hl.2.1) r2 fun a h h' => by
                rcases g2 a h' with z | z
                · exact n1 a z (List.mem_append_left _ h)
                · exact dj a (List.mem_append_right _ (List.mem_append_left _ h)) z
              obtain ⟨L5, g5, g6⟩ := g3.set (i := l) (by rw [List.length_set, List.length_set]; exact hl.2.2) r3 fun a h h' => by
                rcases g4 a h' with z | z
                · exact n2 a z (List.mem_append_left _ h)
                · rcases g2 a z with y | y
                  · exact n1 a y (List.mem_append_right _ (List.mem_append_left _ h))
                  · exact dj a (List.mem_append_right _ (List.mem_append_right _ (List.mem_append_left _ h))) y
              refine po _ H1 L5 ⟨g5, aft.st, fun a h => ?_⟩ (((Kp.refl.set hK).set hK2).set hK3)
              rcases g6 a h with z | z
              · exact sb a (List.mem_append_right _ (List.mem_append_right _ (List.mem_append_left _ z)))
              · rcases g4 a z with y | y
                · exact sb a (List.mem_append_right _ (List.mem_append_left _ y))
                · rcases g2 a y with w | w
                  · exact sb a (List.mem_append_left _ w)
                  · exact aft.sb a w
            · exact po.elim
/-! ### a, b, .. = x, y, .. by a tuple (any number of names; captured ones, too) -/
def setAll : List Nat → List SV → Loc → Option Loc
  | [], [], ρ => some ρ
  | i :: is, s :: ss, ρ => if i < ρ.length then setAll is ss (ρ.set i (some s)) else none
  | _, _, _ => none
def parN (is : List Nat) (c : Loc → Rs (List SV)) : Loc → Rs Fl := bindR c fun ss ρ => match setAll is ss ρ with
  | some ρ' => .ok .nx ρ'
  | none => .no
inductive NamesAt (X : Cx) (K : List Nat) : List Expr → List Nat → Prop where
  | nil : NamesAt X K [] []
  | cons {i : Nat} {x : Str} {p : Pos} {ts : List Expr} {is : List Nat} : X.N[i]? = some x → L2.Loc X.env.scope x → (X.fn x = true ∨ X.env.scope.names.lookup x = some .local) → i ∉ K → NamesAt X K ts is → NamesAt X K (.Name x p :: ts) (i :: is)
theorem NamesAt.star {ts : List Expr} {is : List Nat} (h : NamesAt X K ts is) : ts.all (fun e => !isStar e) = true := by
  induction h with
  | nil => rfl
  | cons _ _ _ _ _ ih => rw [List.all_cons, ih]; rfl
theorem setAll_len : ∀ {is : List Nat} {ss : List SV} {ρ ρ' : Loc}, setAll is ss ρ = some ρ' → ss.length = is.length
  | [], [], _, _, _ => rfl
  | [], _ :: _, _, _, h => by cases h
  | _ :: _, [], _, _, h => by cases h
  | i :: is, s :: ss, ρ, ρ', h => by
    unfold setAll at h
    split at h
    · rw [List.length_cons, List.length_cons, setAll_len h]
    · cases h
theorem NamesAt.len {ts : List Expr} {is : List Nat} (h : NamesAt X K ts is) : ts.length = is.length := by
  induction h with
  | nil => rfl
  | cons _ _ _ _ _ ih => rw [List.length_cons, List.length_cons, ih]
theorem NamesAt.pgs {ts : List Expr} {is : List Nat} (hN : X.N.Nodup) (h : NamesAt X K ts is) : ∃ g, PGs X ts g ∧ ∀ ρ σ H L ss vs Ls Q ρ', RL X.mg H ρ σ L → RAs X.mg H ss vs Ls → (∀ a ∈ Ls, a ∉ L) → setAll is ss ρ = some ρ' →
    (∀ σ' L', RL X.mg H ρ' σ' L' → (∀ a ∈ L', a ∈ Ls ∨ a ∈ L) → Kp K σ σ' → Q σ' H) → g vs σ H Q := by
  induction h with
  | nil =>
    refine ⟨_, pgs_nil, fun ρ σ H L ss vs Ls Q ρ' rl ra dj e q => ?_⟩
    cases ra with
    | nil => cases e; exact ⟨rfl, q σ L rl (fun _ h => .inr h) .refl⟩
    | cons _ _ _ => cases e
  | @cons i x p ts is h1 h2 h3 h4 _ ih =>
    obtain ⟨gs, ps, ds⟩ := ih
    refine ⟨_, pgs_cons (pg_name hN h1 h2 h3) ps rfl, fun ρ σ H L ss vs Ls Q ρ' rl ra dj e q => ?_⟩
    cases ra with
    | nil => cases e
    | @cons s v ss vs La Lb r1 ra n1 =>
      unfold setAll at e
      split at e
      · rename_i hl
        obtain ⟨L3, g1, g2⟩ := rl.set hl r1 fun a h => dj a (List.mem_append_left _ h)
        refine ⟨v, vs, rfl, ds (ρ.set i (some s)) (σ.set i (some v)) H L3 ss vs Lb Q ρ' g1 ra (fun a h h' => ?_) e fun σ' L' rl' s' k' => q σ' L' rl' (fun a ha => ?_) ((Kp.refl.set h4).trans k')⟩
        · rcases g2 a h' with z | z
          · exact n1 a z h
          · exact dj a (List.mem_append_right _ h) z
        · rcases s' a ha with z | z
          · exact .inl (List.mem_append_right _ z)
          · rcases g2 a z with y | y
            · exact .inl (List.mem_append_left _ y)
            · exact .inr y
      · cases e
theorem seqV_length : ∀ {cs : List (Loc → Rs SV)} {ρ ρ' : Loc} {ss : List SV}, seqV cs ρ = .ok ss ρ' → ss.length = cs.length
  | [], _, _, _, h => by cases h; rfl
  | c :: cs, ρ, ρ', ss, h => by
    unfold seqV bindR at h
    split at h
    · dsimp only at h
      split at h
      · cases h; rename_i h2; rw [List.length_cons, List.length_cons, seqV_length h2]
      · cases h
      · cases h
    · cases h
    · cases h
theorem gS_parN {ts vs : List Expr} {is : List Nat} {cs : List (Loc → Rs SV)} {pt pt2 pos : Pos} {kt k2 : Nat} (hc : X.calm = true) (hN : X.N.Nodup) (hn : NamesAt X K ts is) (hw : swappedStores [.Tuple ts kt pt] (.Tuple vs k2 pt2) X.env = pure none) (hz : cs.length ≤ 1000) (h : GVs X W vs (seqV cs)) :
    GS X W K (.Assign [.Tuple ts kt pt] (.Tuple vs k2 pt2) pos) (parN is (seqV cs)) := by
  obtain ⟨t, pa, g⟩ := h
  obtain ⟨gs, ps, ds⟩ := hn.pgs hN
  refine ⟨_, ps_asg (pe_tup pa) (pg_tup (n := ts.length) hc ps each_len (each_plain hn.star)) noSoleP hw rfl, fun ρ σ H L D rl po => g ρ σ H L _ rl ?_⟩
  unfold parN bindR at po
  cases hcc : seqV cs ρ with
  | no => rw [hcc] at po; exact po
  | ex x ρ1 => rw [hcc] at po; exact fun cls d H' L' r a2 => po cls d σ H' L' r a2 .refl
  | ok ss ρ1 =>
    rw [hcc] at po
    intro us H1 Lt L1 ra aft dj sb
    dsimp only at po
    split at po
    · rename_i ρ' hs
      have hl1 := ra.length
      have hl2 := seqV_length hcc
      have hl3 := setAll_len hs
      refine ⟨by rw [hl1, hl2]; exact small_of hz, fun p hp => ⟨p, us, rfl, .inl (.inl upd_same), by rw [hl1, hl3, hn.len], ?_⟩⟩
      have aft2 := aft.alloc (o := .tup us) hp
      have ra2 := ra.step (Stp.alloc (m := true) (L := L1) (o := .tup us) hp) dj
      exact ds ρ1 σ _ L1 ss us Lt _ ρ' aft2.rl ra2 dj hs fun σ' L' rl' s' k' => po σ' _ L' ⟨rl', aft2.st, fun a ha => (s' a ha).elim (sb a) (aft2.sb a)⟩ k'
    · exact po.elim
end Lt
set_option maxHeartbeats 1000000
/-! LtIt: walks that yield new tuples: enumerate, zip. -/
namespace Lt
open PySem PySem.Spec L2
open PyProof.Rows hiding St
/-- a walk that yields new tuples of these, while Src holds -/
def Itn (xs : List (List V)) (Src : Hp → Prop) : It where
  go i H := Src H ∧ i < xs.length
  yld i H v H' := ∃ T x, v = .ref T ∧ H T = none ∧ H' = upd H T (.tup x) ∧ xs[i]? = some x
  stop i H := Src H ∧ xs.length ≤ i
structure NewSrc (P : Program) (w : World) (K : PySem.W.Frag) (tg : Expr) (xs : List (List V)) (Src : Hp → Prop) (own : List Addr) (it : Addr) (tn : Nat → Heap → Prop) : Prop where
  mem : it ∈ own
  obj : ∀ i h, tn i h → ∀ b ∈ own, ∃ o, h.get? b = some o ∧ ∀ v, o.data ≠ .cell v
  keep : ∀ i h h', tn i h → (∀ b ∈ own, ∀ o, h.get? b = some o → h'.get? b = some o) → tn i h'
  small : ∀ x ∈ xs, x.length ≤ sizeLine
  self : ∀ (A : Around) (i : Nat) (s : Shared) (Q : Value → Shared → Prop) (E : Value → Shared → Prop), tn i s.heap → Q (.ref it) s → wpAny (model P w) A (pyIter (.ref it)) Q E s
  goes : ∀ (X : Cx), X.prog = P → X.w = w → X.K = K → X.calm = true → ∀ (pins : List (Addr × Obj)) (s : Shared) (σ : St) (H : Hp), Inv X pins σ H s → Src H → ∀ i, tn i s.heap →
    ∃ fp wr Y Sv, GoesN P w X.A tg it fp wr xs.length Y Sv ∧ (∀ b ∈ wr, b ∈ own) ∧ Sv i s.heap ∧ (∀ j h, Sv j h → tn j h) ∧
      ∀ j h0 v h, j < xs.length → Y j h0 v h → ∃ T its x, v = .ref T ∧ h0.objs.size ≤ T ∧ IsTup h T its.toArray ∧ xs[j]? = some x ∧ Vals x its
theorem turn_new {P : Program} {w : World} {K : PySem.W.Frag} {tg : Expr} {xs : List (List V)} {Src : Hp → Prop} {own : List Addr} {it : Addr} {tn : Nat → Heap → Prop} (N : NewSrc P w K tg xs Src own it tn) :
    Turn P w K tg (Itn xs Src) own it (fun i h => i ≤ xs.length ∧ tn i h) where
  mem := N.mem
  obj := fun i h st => N.obj i h st.2
  keep := fun i h h' st k => ⟨st.1, N.keep i h h' st.2 k⟩
  self := fun A i s Q E st => N.self A i s Q E st.2
  item := by
    intro X hP hw hK hc i pins s σ H E I hf st hg
    obtain ⟨fp, wr, Y, Sv, G, hwr, hS, hT, hY⟩ := N.goes X hP hw hK hc pins s σ H I hg.1 i st.2
    subst hP hw hK
    have hlt : ∀ b ∈ own, b < s.heap.objs.size := fun b hb => let ⟨o, e, _⟩ := N.obj i _ st.2 b hb; Heap.lt_size e
    refine wpAny_mono (G.goes i s (fun v s2 => ∃ x H', Inv X pins σ H' s2 ∧ RelV x v ∧ (Itn xs Src).yld i H x H' ∧ (i + 1 ≤ xs.length ∧ tn (i + 1) s2.heap) ∧ ∀ b ∈ own, H' b = none) E hg.2 hS fun v h' tk y S' k _ => ?_) (fun r s1 q => q) fun _ _ q => q
    obtain ⟨T, its, x, rfl, hn, ht, hx, rv⟩ := hY i _ v h' hg.2 y
    have hsz := N.small x (List.mem_of_getElem? hx)
    have new : ObjOk X.prog X.w (upd H T (.tup x)) h' T (.tup x) := ⟨hsz, its, rv, ht⟩
    have I1 : Inv X pins σ (upd H T (.tup x)) { s with heap := h', toks := tk } := I.turnedNew (ch := wr) k (fun b hb => hf b (hwr b hb)) hn new
    refine ⟨.ref T, _, I1, rfl, ⟨T, x, rfl, I.hok.fresh hn, rfl, hx⟩, ⟨hg.2, hT _ _ S'⟩, fun b hb => ?_⟩
    rw [upd_ne (Nat.ne_of_lt (Nat.lt_of_lt_of_le (hlt b hb) hn))]
    exact (hf b hb).1
  done := by
    intro X hP hw hK hc i pins s σ H E I hf st hg
    obtain ⟨fp, wr, Y, Sv, G, hwr, hS, hT, hY⟩ := N.goes X hP hw hK hc pins s σ H I hg.1 i st.2
    subst hP hw hK
    have e : i = xs.length := Nat.le_antisymm st.1 hg.2
    subst e
    refine wpAny_mono (G.stops s (fun s1 => Inv X pins σ H s1) E hS fun h' tk k _ => ?_) (fun r s1 q => q) fun _ _ q => q
    exact I.turnedL (ch := wr) k fun b hb => hf b (hwr b hb)
/-! ### enumerate -/
abbrev enObj (it : Addr) : Obj := { cls := .type "enumerate", data := .fields #[.none, .bool false, .ref it, rawInt 0, .none, .none] }
theorem enum1_meets {v : Value} {o : Obj} {H : Heap → Prop} (B : Begins v o H) :
    Meets (Builtin.«enumerate.__new__» ⟨[.type "enumerate", v], []⟩) (fun _ R s => H s.heap ∧ R (.ok (.ret (.ref (s.heap.push o).objs.size))) { s with heap := (s.heap.push o).push (enObj s.heap.objs.size) }) :=
  .of_wp fun prog w A R s h => by
    obtain ⟨hp, g, d, tk, os⟩ := s
    obtain ⟨h1, h⟩ := h
    have hsub := sub_enumerate
    have q1 : ∀ {A' : Around} {E Q : Value → Shared → Prop}, Q (.ref hp.objs.size) ⟨hp.push o, g, d, tk, os⟩ → wpAny (model prog w) A' (pyIter v) Q E ⟨hp, g, d, tk, os⟩ := fun q => B.iter prog w _ _ ⟨hp, g, d, tk, os⟩ _ h1 q
    wp_walk using q1
    refine wpAny_stack_any fun st => wpAny_pure ?_
    split
    · rename_i c _ _ _ _ _
      cases (c == Value.type "enumerate") <;> (wp_walk using q1; exact ⟨_, rfl, h⟩)
    · wp_walk using q1; exact ⟨_, rfl, h⟩
theorem enum1_begins {prog : Program} {w : World} {A : Around} {E : Value → Shared → Prop} {s : Shared} {v : Value} {o : Obj} {H : Heap → Prop} {Q : Value → Shared → Prop} (B : Begins v o H) (h1 : H s.heap)
    (h : ∀ h', IsEnum h' (s.heap.objs.size + 1) s.heap.objs.size 0 .none → h'.get? s.heap.objs.size = some o → (∀ b u, s.heap.get? b = some u → h'.get? b = some u) → Q (.ref (s.heap.objs.size + 1)) { s with heap := h' }) :
    wpAny (model prog w) A (call (.type "enumerate") [v]) Q E s := by
  refine callType_new F.called_enumerate (by decide) (F.typeCall_enumerate_1 _) (F.newCall_enumerate_1 _) (fun obj => F.args_object_init_2 obj _) F.entry_enumerate_new (enum1_meets B) ⟨h1, ?_⟩
  have hz : (s.heap.push o).objs.size = s.heap.objs.size + 1 := Heap.size_push ..
  show _ ∧ _
  rw [hz]
  have he : ((s.heap.push o).push (enObj s.heap.objs.size)).get? (s.heap.objs.size + 1) = some (enObj s.heap.objs.size) := by
    have := Heap.get?_push_size (s.heap.push o) (o := enObj s.heap.objs.size) rfl
    rwa [hz] at this
  exact ⟨⟨_, he, rfl⟩, h _ he (Heap.get?_push_of_some _ (Heap.get?_push_size _ B.free)) fun b u x => Heap.get?_push_of_some _ (Heap.get?_push_of_some _ x)⟩
/-- a tuple, or a list that stays -/
def SeqU (u : HO) (ys : List V) : Prop := (∃ o, u = .frz o (.tup ys)) ∨ ∃ o, u = .frz o (.lst ys)
theorem SeqU.fz {u : HO} {ys : List V} (x : SeqU u ys) : isFz u := by
  rcases x with ⟨o, rfl⟩ | ⟨o, rfl⟩ <;> trivial
theorem vals_at {xs : List V} {us : List Value} (r : Vals xs us) : ∀ {i : Nat} {u : Value}, us[i]? = some u → ∃ x, xs[i]? = some x ∧ RelV x u := by
  induction r with
  | nil => intro i u e; simp at e
  | cons r _ ih =>
    intro i u e
    cases i with
    | zero => simp at e; subst e; exact ⟨_, rfl, r⟩
    | succ i => obtain ⟨x, h1, h2⟩ := ih (i := i) (by simpa using e); exact ⟨x, by simpa using h1, h2⟩
def enumV (ys : List V) : List (List V) := ys.zipIdx.map fun p => [V.int (p.2 : Nat), p.1]
theorem enumV_at {ys : List V} {i : Nat} : (enumV ys)[i]? = ys[i]?.map fun y => [V.int (i : Nat), y] := by
  unfold enumV
  rw [List.getElem?_map, List.getElem?_zipIdx]
  cases ys[i]? <;> simp
theorem enumV_length {ys : List V} : (enumV ys).length = ys.length := by unfold enumV; simp
theorem enumV_small {ys : List V} : ∀ x ∈ enumV ys, x.length ≤ sizeLine := fun x hx => by
  obtain ⟨p, _, rfl⟩ := List.mem_map.mp hx
  show 2 ≤ sizeLine
  decide
section
variable {X : Cx} {pins : List (Addr × Obj)} {σ : St} {H : Hp} {s : Shared} {a e it : Addr} {ys : List V}
theorem Inv.fzT {o : Obj} (I : Inv X pins σ H s) (h : H a = some (.frz o (.tup ys))) : ∃ its : List Value, Vals ys its ∧ s.heap.IsTuple a its.toArray := by
  obtain ⟨its, rv, p, _⟩ := Inv.tuple I (a := a) (xs := ys) (.inl (.inr ⟨o, h⟩))
  exact ⟨its, rv, p⟩
theorem Inv.fzL {o : Obj} (I : Inv X pins σ H s) (h : H a = some (.frz o (.lst ys))) : ∃ its : List Value, Vals ys its ∧ s.heap.IsList a its.toArray := by
  obtain ⟨its, rv, p, _⟩ := Inv.list I (a := a) (xs := ys) (.inl (.inr ⟨o, h⟩))
  exact ⟨its, rv, p.isList⟩
end
section
variable {P : Program} {w : World} {K : PySem.W.Frag} {elts : List Expr} {kk : Nat} {tpos : Pos} {a e it : Addr} {ys : List V}
theorem enumT_src {o : Obj} (h1 : e ≠ it) (h2 : a ≠ it) (h3 : e ≠ a) : NewSrc P w K (.Tuple elts kk tpos) (enumV ys) (fun H => H a = some (.frz o (.tup ys))) [e, it] e (fun i h => (∃ old, IsEnum h e it (0 + (i : Int)) old) ∧ h.IsTupleIter it a i) where
  mem := by simp
  obj := fun i h st b hb => by
    obtain ⟨⟨old, he⟩, ⟨o, ho, hc, hd⟩⟩ := st
    rcases List.mem_cons.mp hb with z | z
    · rw [z]; exact ⟨_, he, fun v q => nomatch q⟩
    · rw [List.mem_singleton.mp z]; exact ⟨o, ho, fun v q => by rw [hd] at q; cases q⟩
  keep := fun i h h' st k => let ⟨⟨old, he⟩, hi⟩ := st; ⟨⟨old, k e (by simp) _ he⟩, hi.at fun o q => k it (by simp) o q⟩
  small := enumV_small
  self := fun A i s Q E st h => let ⟨⟨_, he⟩, _⟩ := st; wpAny_pyIter_enum he h
  goes := by
    intro X hP hw hK hc pins s σ H I hs i st
    obtain ⟨its, rv, ht⟩ := Inv.fzT I hs
    have D := Draws.tuple (prog := P) (w := w) (A := X.A.in1) (I.ok.hd hc) it a h2 its.toArray
    have G := GoesN.enumFrom (elts := elts) (x1 := kk) (pos := tpos) 0 D e h1 (by simp [h1, h3]) (by simp)
    have hl : its.toArray.size = (enumV ys).length := by rw [enumV_length, List.size_toArray, rv.length]
    rw [hl] at G
    refine ⟨_, _, _, _, G, fun b hb => hb, ⟨st.1, st.2, ht⟩, fun j h q => ⟨q.1, q.2.1⟩, fun j h0 v h hj ⟨T, t, x, ev, hn, hx, hT⟩ => ?_⟩
    rw [enumV_length] at hj
    have hx' : its[j]? = some x := by simpa using hx
    obtain ⟨y, hy, ry⟩ := vals_at rv hx'
    exact ⟨T, [.int (0 + (j : Int)) t, x], [.int (j : Nat), y], ev, hn, hT, by rw [enumV_at, hy]; rfl, .cons ⟨t, by rw [Int.zero_add]⟩ (.cons ry .nil)⟩
theorem enumL_src {o : Obj} (h1 : e ≠ it) (h2 : a ≠ it) (h3 : e ≠ a) : NewSrc P w K (.Tuple elts kk tpos) (enumV ys) (fun H => H a = some (.frz o (.lst ys))) [e, it] e (fun i h => (∃ old, IsEnum h e it (0 + (i : Int)) old) ∧ h.IsListIter it a i) where
  mem := by simp
  obj := fun i h st b hb => by
    obtain ⟨⟨old, he⟩, ⟨o, ho, hc, hd⟩⟩ := st
    rcases List.mem_cons.mp hb with z | z
    · rw [z]; exact ⟨_, he, fun v q => nomatch q⟩
    · rw [List.mem_singleton.mp z]; exact ⟨o, ho, fun v q => by rw [hd] at q; cases q⟩
  keep := fun i h h' st k => let ⟨⟨old, he⟩, hi⟩ := st; ⟨⟨old, k e (by simp) _ he⟩, hi.at fun o q => k it (by simp) o q⟩
  small := enumV_small
  self := fun A i s Q E st h => let ⟨⟨_, he⟩, _⟩ := st; wpAny_pyIter_enum he h
  goes := by
    intro X hP hw hK hc pins s σ H I hs i st
    obtain ⟨its, rv, ht⟩ := Inv.fzL I hs
    have D := Draws.list (prog := P) (w := w) (A := X.A.in1) (I.ok.hd hc) it a h2 its.toArray
    have G := GoesN.enumFrom (elts := elts) (x1 := kk) (pos := tpos) 0 D e h1 (by simp [h1, h3]) (by simp)
    have hl : its.toArray.size = (enumV ys).length := by rw [enumV_length, List.size_toArray, rv.length]
    rw [hl] at G
    refine ⟨_, _, _, _, G, fun b hb => hb, ⟨st.1, st.2, ht⟩, fun j h q => ⟨q.1, q.2.1⟩, fun j h0 v h hj ⟨T, t, x, ev, hn, hx, hT⟩ => ?_⟩
    rw [enumV_length] at hj
    have hx' : its[j]? = some x := by simpa using hx
    obtain ⟨y, hy, ry⟩ := vals_at rv hx'
    exact ⟨T, [.int (0 + (j : Int)) t, x], [.int (j : Nat), y], ev, hn, hT, by rw [enumV_at, hy]; rfl, .cons ⟨t, by rw [Int.zero_add]⟩ (.cons ry .nil)⟩
end
/-- for i, x in enumerate(e) -/
def iEnumN (ta : TA) : TI := fun σ H R => ta σ H fun vs H1 => ∃ a u ys, vs = [.ref a] ∧ H1 a = some u ∧ SeqU u ys ∧ R (Itn (enumV ys) (fun H => H a = some u)) H1
theorem pi_enumN {X : Cx} {e : Expr} {ta : TA} {p pos tpos : Pos} {elts : List Expr} {kk : Nat} (hg : Gl X "enumerate") (hm : X.mg "enumerate" = none) (ha : PA X [e] ta) (hs : starEach [e] X.env = [(false, eval e X.env)]) :
    PI X (.Tuple elts kk tpos) (.Call (.Name "enumerate" p) [e] [] pos) (iEnumN ta) := by
  refine ⟨fun pins s σ H R I h => ?_⟩
  refine Call_ (ld_blt I hg hm boot_enumerate (PyProof.Rows.callWith_type1 (thn (ha.run pos pins s σ H _ I h) fun us s1 ⟨vs, H1, I1, r1, q1⟩ => ?_) hs rfl))
  obtain ⟨a, u, ys, ex, hq, hu, q⟩ := q1
  subst ex
  cases r1 with
  | cons r rr =>
    cases rr
    cases r
    have fp : ∀ b ∈ [s1.heap.objs.size + 1, s1.heap.objs.size], FpOk X pins H1 b := fun b hb => by
      have hle : s1.heap.objs.size ≤ b := by
        rcases List.mem_cons.mp hb with z | z
        · rw [z]; exact Nat.le_add_right _ _
        · rw [List.mem_singleton.mp z]; exact Nat.le_refl _
      exact I1.fpOk hle (I1.hok.fresh hle)
    rcases hu with ⟨o, rfl⟩ | ⟨o, rfl⟩
    · obtain ⟨its, rv, ht⟩ := Inv.fzT I1 hq
      have hal : a < s1.heap.objs.size := by obtain ⟨o, e, _⟩ := ht; exact Heap.lt_size e
      refine enum1_begins (begins_tuple a its.toArray) ht fun h' he ho hk => wpAny_pyIter_enum he ?_
      have I2 : Inv X pins σ H1 { s1 with heap := h' } := I1.kept (t' := s1.toks) hk
      exact ⟨s1.heap.objs.size + 1, [s1.heap.objs.size + 1, s1.heap.objs.size], _, _, H1, rfl, I2, turn_new (enumT_src (Nat.succ_ne_self _) (Nat.ne_of_lt hal) (Nat.ne_of_gt (Nat.lt_succ_of_lt hal))), ⟨Nat.zero_le _, ⟨.none, he⟩, ⟨_, ho, rfl, rfl⟩⟩, fp, q⟩
    · obtain ⟨its, rv, ht⟩ := Inv.fzL I1 hq
      have hal : a < s1.heap.objs.size := by obtain ⟨o, e, _⟩ := ht; exact Heap.lt_size e
      refine enum1_begins (begins_list a its.toArray) ht fun h' he ho hk => wpAny_pyIter_enum he ?_
      have I2 : Inv X pins σ H1 { s1 with heap := h' } := I1.kept (t' := s1.toks) hk
      exact ⟨s1.heap.objs.size + 1, [s1.heap.objs.size + 1, s1.heap.objs.size], _, _, H1, rfl, I2, turn_new (enumL_src (Nat.succ_ne_self _) (Nat.ne_of_lt hal) (Nat.ne_of_gt (Nat.lt_succ_of_lt hal))), ⟨Nat.zero_le _, ⟨.none, he⟩, ⟨_, ho, rfl, rfl⟩⟩, fp, q⟩
/-! ### .. of the evaluator -/
section
variable {mg : Str → Option Value} {X : Cx} {W : WX} {e a b tg : Expr} {m : Bool} {H : Hp}
def enumP (ps : List PV) : List PV := ps.zipIdx.map fun p => .tmp [.int (p.2 : Nat), p.1]
theorem enumP_at {ps : List PV} {i : Nat} : (enumP ps)[i]? = ps[i]?.map fun y => .tmp [.int (i : Nat), y] := by
  unfold enumP
  rw [List.getElem?_map, List.getElem?_zipIdx]
  cases ps[i]? <;> simp
theorem enumP_length {ps : List PV} : (enumP ps).length = ps.length := by unfold enumP; simp
theorem itOk_enum {a : Addr} {u : HO} {ps : List PV} {ys : List V} (hu : SeqU u ys) : ItOk mg (Itn (enumV ys) (fun H => H a = some u)) (enumP ps) (fun H => H a = some u ∧ RVs mg H ps ys) where
  stay := fun H H' ⟨h, r⟩ k => ⟨k _ _ h hu.fz, r.stay k⟩
  stop := fun H i ⟨h, r⟩ hl => ⟨h, by rw [enumV_length, r.length]; rw [enumP_length] at hl; exact hl⟩
  go := fun H i p ⟨h, r⟩ hp => by
    rw [enumP_at] at hp
    obtain ⟨q, hq, rfl⟩ := Option.map_eq_some_iff.mp hp
    obtain ⟨x, hx, rx⟩ := r.get hq
    refine ⟨⟨h, by rw [enumV_length]; exact (List.getElem?_eq_some_iff.mp hx).1⟩, fun y H' ⟨T, z, e1, e2, e3, e4⟩ => ?_⟩
    rw [enumV_at, hx] at e4
    cases e4
    subst e1 e3
    have kp : ∀ b o, H b = some o → upd H T (.tup [V.int (i : Nat), x]) b = some o := fun b o q => by rw [upd_ne (ne_of_none q e2)]; exact q
    exact ⟨⟨T, _, rfl, upd_same, ⟨_, _, rfl, rfl, _, _, rfl, rx.stay fun b o q _ => kp b o q, rfl⟩⟩, kp⟩
def walkE (c : Loc → Rs PV) : Loc → Rs (List PV) := bindR c fun p ρ => match itemsP p with
  | some ps => .ok (enumP ps) ρ
  | none => .no
def isTupT : Expr → Bool
  | .Tuple .. => true
  | _ => false
theorem gWk_enum {c : Loc → Rs PV} {p pos : Pos} (ht : isTupT tg = true) (hg : Gl X "enumerate") (hm : X.mg "enumerate" = none) (hst : isStar a = false) (h : GP X W a c) : GWk X W tg (.Call (.Name "enumerate" p) [a] [] pos) (walkE c) := by
  obtain ⟨t, pa, g⟩ := h
  cases tg with
  | Tuple elts kk tpos =>
    refine ⟨_, pi_enumN hg hm (pa_cons pa pa_nil (starEach_cons hst)) (starEach_cons hst), fun ρ σ H L R rl po => ?_⟩
    refine g ρ σ H L _ rl ?_
    unfold walkE bindR at po
    cases hc : c ρ with
    | no => rw [hc] at po; exact po
    | ex x ρ1 => rw [hc] at po; exact po
    | ok q ρ1 =>
      rw [hc] at po
      dsimp only at po
      intro v H1 L1 rv aft
      cases q with
      | tup xs =>
        obtain ⟨a, o, vs, rfl, ha, _, ra⟩ := rv
        exact ⟨a, _, vs, rfl, ha, .inl ⟨o, rfl⟩, po _ _ H1 L1 (itOk_enum (.inl ⟨o, rfl⟩)) ⟨ha, ra⟩ aft⟩
      | lst xs =>
        obtain ⟨a, o, vs, rfl, ha, ra⟩ := rv
        exact ⟨a, _, vs, rfl, ha, .inr ⟨o, rfl⟩, po _ _ H1 L1 (itOk_enum (.inr ⟨o, rfl⟩)) ⟨ha, ra⟩ aft⟩
      | _ => exact po.elim
  | _ => cases ht
/-! ### zip -/
def zipP (ps qs : List PV) : List PV := (ps.zip qs).map fun p => .tmp [p.1, p.2]
theorem zipP_at {ps qs : List PV} {i : Nat} {z : PV} (h : (zipP ps qs)[i]? = some z) : ∃ p q, ps[i]? = some p ∧ qs[i]? = some q ∧ z = .tmp [p, q] := by
  unfold zipP at h
  rw [List.getElem?_map] at h
  obtain ⟨⟨p, q⟩, h1, rfl⟩ := Option.map_eq_some_iff.mp h
  obtain ⟨h2, h3⟩ := List.getElem?_zip_eq_some.mp h1
  exact ⟨p, q, h2, h3, rfl⟩
theorem zipP_stop {ps qs : List PV} {i : Nat} (h : (zipP ps qs).length ≤ i) : ps.length ≤ i ∨ qs.length ≤ i := by
  unfold zipP at h
  rw [List.length_map, List.length_zip] at h
  omega
theorem itOk_zipL {Kf : PySem.W.Frag} {a b : Addr} {ps qs : List PV} : ItOk mg (Itz Kf a b) (zipP ps qs) (fun H => (∃ o vs, H a = some (.frz o (.lst vs)) ∧ RVs mg H ps vs) ∧ ∃ o ws, H b = some (.frz o (.lst ws)) ∧ RVs mg H qs ws) where
  stay := fun H H' ⟨⟨o, vs, h, r⟩, o2, ws, h2, r2⟩ k => ⟨⟨o, vs, k _ _ h trivial, r.stay k⟩, o2, ws, k _ _ h2 trivial, r2.stay k⟩
  stop := fun H i ⟨⟨o, vs, h, r⟩, o2, ws, h2, r2⟩ hl => ⟨vs, ws, .inl (.inr ⟨o, h⟩), .inl (.inr ⟨o2, h2⟩), by rw [r.length, r2.length]; exact zipP_stop hl⟩
  go := fun H i z ⟨⟨o, vs, h, r⟩, o2, ws, h2, r2⟩ hz => by
    obtain ⟨p, q, hp, hq, rfl⟩ := zipP_at hz
    obtain ⟨x, hx, rx⟩ := r.get hp
    obtain ⟨y, hy, ry⟩ := r2.get hq
    refine ⟨⟨vs, ws, x, y, .inl (.inr ⟨o, h⟩), .inl (.inr ⟨o2, h2⟩), hx, hy⟩, fun v H' ⟨T, x', y', e1, e2, e3, e4, e5⟩ => ?_⟩
    have g1 := e4 vs (.inl (.inr ⟨o, h⟩)); have g2 := e5 ws (.inl (.inr ⟨o2, h2⟩))
    rw [hx] at g1; rw [hy] at g2
    cases g1; cases g2
    subst e1 e3
    have kp : ∀ c u, H c = some u → upd H T (.tup [x, y]) c = some u := fun c u q => by rw [upd_ne (ne_of_none q e2)]; exact q
    exact ⟨⟨T, _, rfl, upd_same, ⟨_, _, rfl, rx.stay fun b o q _ => kp b o q, _, _, rfl, ry.stay fun b o q _ => kp b o q, rfl⟩⟩, kp⟩
theorem itOk_zipT {Kf : PySem.W.Frag} {a b : Addr} {ps qs : List PV} : ItOk mg (RZ.ItzT Kf a b) (zipP ps qs) (fun H => (∃ o vs, H a = some (.frz o (.tup vs)) ∧ RVs mg H ps vs) ∧ ∃ o ws, H b = some (.frz o (.tup ws)) ∧ RVs mg H qs ws) where
  stay := fun H H' ⟨⟨o, vs, h, r⟩, o2, ws, h2, r2⟩ k => ⟨⟨o, vs, k _ _ h trivial, r.stay k⟩, o2, ws, k _ _ h2 trivial, r2.stay k⟩
  stop := fun H i ⟨⟨o, vs, h, r⟩, o2, ws, h2, r2⟩ hl => ⟨vs, ws, .inl (.inr ⟨o, h⟩), .inl (.inr ⟨o2, h2⟩), by rw [r.length, r2.length]; exact zipP_stop hl⟩
  go := fun H i z ⟨⟨o, vs, h, r⟩, o2, ws, h2, r2⟩ hz => by
    obtain ⟨p, q, hp, hq, rfl⟩ := zipP_at hz
    obtain ⟨x, hx, rx⟩ := r.get hp
    obtain ⟨y, hy, ry⟩ := r2.get hq
    refine ⟨⟨vs, ws, x, y, .inl (.inr ⟨o, h⟩), .inl (.inr ⟨o2, h2⟩), hx, hy⟩, fun v H' ⟨T, x', y', e1, e2, e3, e4, e5⟩ => ?_⟩
    have g1 := e4 vs (.inl (.inr ⟨o, h⟩)); have g2 := e5 ws (.inl (.inr ⟨o2, h2⟩))
    rw [hx] at g1; rw [hy] at g2
    cases g1; cases g2
    subst e1 e3
    have kp : ∀ c u, H c = some u → upd H T (.tup [x, y]) c = some u := fun c u q => by rw [upd_ne (ne_of_none q e2)]; exact q
    exact ⟨⟨T, _, rfl, upd_same, ⟨_, _, rfl, rx.stay fun b o q _ => kp b o q, _, _, rfl, ry.stay fun b o q _ => kp b o q, rfl⟩⟩, kp⟩
def walkZ (c : Loc → Rs (List PV)) : Loc → Rs (List PV) := bindR c fun ps ρ => match ps with
  | [.tup xs, .tup ys] => .ok (zipP xs ys) ρ
  | [.lst xs, .lst ys] => .ok (zipP xs ys) ρ
  | _ => .no
theorem gWk_zip {c : Loc → Rs (List PV)} {p pos : Pos} (ht : isTupT tg = true) (hg : Gl X "zip") (hm : X.mg "zip" = none) (hst : isStar a = false) (hst2 : isStar b = false) (h : GPs X W [a, b] c) : GWk X W tg (.Call (.Name "zip" p) [a, b] [] pos) (walkZ c) := by
  obtain ⟨t, pa, g⟩ := h
  cases tg with
  | Tuple elts kk tpos =>
    refine ⟨_, RZ.pi_zipA hg hm pa (starEach_cons hst) (star_plain (es := [b]) (by simp [hst2])), fun ρ σ H L R rl po => ?_⟩
    refine g ρ σ H L _ rl ?_
    unfold walkZ bindR at po
    cases hc : c ρ with
    | no => rw [hc] at po; exact po
    | ex x ρ1 => rw [hc] at po; exact po
    | ok ps ρ1 =>
      rw [hc] at po
      dsimp only at po
      intro vs H1 L1 rv aft
      split at po
      · rename_i xs ys
        obtain ⟨v1, _, rfl, r1, v2, _, rfl, r2, rfl⟩ := rv
        obtain ⟨a, o, us, rfl, ha, _, ra⟩ := r1
        obtain ⟨b, o2, ws, rfl, hb, _, rb⟩ := r2
        exact ⟨a, b, us, ws, rfl, .inr ⟨.inl (.inr ⟨o, ha⟩), .inl (.inr ⟨o2, hb⟩), po _ _ H1 L1 itOk_zipT ⟨⟨o, us, ha, ra⟩, o2, ws, hb, rb⟩ aft⟩⟩
      · rename_i xs ys
        obtain ⟨v1, _, rfl, r1, v2, _, rfl, r2, rfl⟩ := rv
        obtain ⟨a, o, us, rfl, ha, ra⟩ := r1
        obtain ⟨b, o2, ws, rfl, hb, rb⟩ := r2
        exact ⟨a, b, us, ws, rfl, .inl ⟨.inl (.inr ⟨o, ha⟩), .inl (.inr ⟨o2, hb⟩), po _ _ H1 L1 itOk_zipL ⟨⟨o, us, ha, ra⟩, o2, ws, hb, rb⟩ aft⟩⟩
      · exact po.elim
  | _ => cases ht
end
end Lt
set_option maxHeartbeats 1000000
/-! LtMe: methods of built-in values that change nothing. -/
namespace Lt
open PySem PySem.Spec L2
open PyProof.Rows hiding St
variable {mg : Str → Option Value} {X : Cx} {W : WX} {e a b : Expr} {m mb m' : Bool} {H : Hp}

/-- the receiver's type is looked at first, then the arguments are read -/
def metB (T : SV → Bool) (f : SV → List SV → Option SV) (c : Loc → Rs OV) (d : Loc → Rs (List OV)) : Loc → Rs OV := bindR c fun x ρ1 => match x.get ρ1 with
  | some p => if T p then bindR d (fun ys ρ2 => opt (x.get ρ2) fun p => opt (getAll ρ2 ys) fun ps => opt (f p ps) fun s => .ok (.tm s) ρ2) ρ1 else .no
  | none => .no
/-- what a receiver must be for a method of the type T -/
def TyB (P : Program) (w : World) (K : PySem.W.Frag) (T : String) (x : V) (H : Hp) : Prop := ∀ (X : Cx) (pins : List (Addr × Obj)) (σ : St) (s : Shared) (u : Value), X.prog = P → X.w = w → X.K = K → Inv X pins σ H s → RelV x u →
  s.TypeIs u T ∧ ∀ a, u = .ref a → ∃ ob, s.heap.get? a = some ob ∧ ob.dict = none
def tMt (P : Program) (w : World) (K : PySem.W.Frag) (T : String) (r : V → List V → Hp → VK → Prop) (to : TE) (t : TA) : TE := fun σ H Q => to σ H fun x H1 => TyB P w K T x H1 ∧ t σ H1 fun xs H2 => r x xs H2 Q
theorem pe_met {o : Expr} {es : List Expr} {to : TE} {t : TA} {name : Str} {ap cp : Pos} {T id : String} {r : V → List V → Hp → VK → Prop} (pa : PlainAttrs T) (slot : Slot T name id) (hty : typeOf (.builtin id) = pure (.type "method_descriptor")) (hm : MtR X id r) (ho : PE X o to) (ha : PA X es t)
    (hbase : attributeBase o name X.env (eval o X.env) = eval o X.env) (hst : es.all (fun e => !isStar e) = true) (hl : es.length < 30) (hne : es ≠ []) (hline : (ap.endLine == cp.line) = true) :
    PE X (.Call (.Attribute o name ap) es [] cp) (tMt X.prog X.w X.K T r to t) := by
  have plain : ∀ {es : List Expr}, es.all (fun e => !isStar e) = true → (backTo cp (starEach es X.env)).all (fun x => !x.1) = true := by
    intro es
    induction es with
    | nil => intro _; rfl
    | cons e es ih =>
      intro h
      simp only [List.all_cons, Bool.and_eq_true, Bool.not_eq_true'] at h
      rw [starEach_cons h.1]
      show (!false && (backTo cp (starEach es X.env)).all (fun x => !x.1)) = true
      rw [ih h.2]; rfl
  refine ⟨fun pins s σ H Q I h => ?_⟩
  refine wpAny_Call_method_late hbase (by
    rw [plain hst]
    show (true && true && decide (es.length + 0 + 0 < 30)) = true
    rw [decide_eq_true (by omega)]; rfl) hline rfl (thn (ho.run pins s σ H _ I h) fun v s1 ⟨x, H1, I1, r1, ty, q1⟩ => ?_)
  obtain ⟨h1, h2⟩ := ty X pins σ s1 v rfl rfl rfl I1 r1
  refine ⟨T, id, pa, slot, hty, h1, h2, ?_⟩
  have hA := ha.run cp pins s1 σ H1 _ I1 q1
  refine Calls.callWith_builtin (star_plain hst) ?_
  cases es with
  | nil => exact absurd rfl hne
  | cons e es =>
    simp only [List.all_cons, Bool.and_eq_true, Bool.not_eq_true'] at hst
    rw [starEach_cons hst.1] at hA ⊢
    exact Calls.evalArgs_plain (thn hA fun us s2 ⟨vs, H2, I2, r2, q2⟩ => hm pins s2 σ H2 x vs v us Q I2 r1 r2 q2)
def MetS (mg : Str → Option Value) (f : SV → List SV → Option SV) (r : V → List V → Hp → VK → Prop) : Prop := ∀ p ps s x vs H L Q, RS mg H p x L → RSs mg H ps vs → f p ps = some s → Does mg H s Q → r x vs H Q
theorem gO_metB {o : Expr} {es : List Expr} {name : Str} {ap cp : Pos} {T id : String} {r : V → List V → Hp → VK → Prop} {Tb : SV → Bool} {f : SV → List SV → Option SV} {c : Loc → Rs OV} {d : Loc → Rs (List OV)} (pa : PlainAttrs T) (slot : Slot T name id) (hty : typeOf (.builtin id) = pure (.type "method_descriptor")) (hm : MtR X id r)
    (hT : ∀ p x H L, RS X.mg H p x L → Tb p = true → TyB X.prog X.w X.K T x H) (hs : MetS X.mg f r) (ho : GO m X W o c) (ha : GA mb X W es d) (hmb : mb = true → m = true) (hf : mb = true → NoFd c)
    (hbase : attributeBase o name X.env (eval o X.env) = eval o X.env) (hst : es.all (fun e => !isStar e) = true) (hl : es.length < 30) (hne : es ≠ []) (hline : (ap.endLine == cp.line) = true) :
    GO m X W (.Call (.Attribute o name ap) es [] cp) (metB Tb f c d) := by
  obtain ⟨ta, pa', ga⟩ := ho
  obtain ⟨tb, pb, gb⟩ := ha
  refine ⟨_, pe_met pa slot hty hm pa' pb hbase hst hl hne hline, fun ρ σ H L Q rl po => ga ρ σ H L _ rl ?_⟩
  unfold metB at po
  unfold bindR at po
  cases hc : c ρ with
  | no => rw [hc] at po; exact po
  | ex x ρ1 => rw [hc] at po; exact po
  | ok ov ρ1 =>
    rw [hc] at po
    intro v H1 Lt L1 ro aft dj sb hρ
    dsimp only at po
    cases hg : ov.get ρ1 with
    | none => rw [hg] at po; exact po.elim
    | some p0 =>
      rw [hg] at po
      dsimp only at po
      split at po
      · rename_i hTb
        obtain ⟨Ls0, rs0, _⟩ := ro.get aft.rl hg
        refine ⟨hT p0 v H1 Ls0 rs0 hTb, gb ρ1 σ H1 L1 _ aft.rl ?_⟩
        cases hd : d ρ1 with
        | no => rw [hd] at po; exact po
        | ex x ρ2 => rw [hd] at po; exact fun cls d H' L' r a2 => po cls d H' L' r (aft.trans (a2.mono hmb))
        | ok ov2 ρ2 =>
          rw [hd] at po
          intro y H2 Lt2 L2 ro2 aft2 dj2 sb2 hρ2
          obtain ⟨p, e1, po⟩ := no_opt po
          obtain ⟨q, e2, po⟩ := no_opt po
          obtain ⟨s, e3, po⟩ := no_opt po
          have ro' := ro.stay aft2.st dj fun z i k => hf z ρ ov ρ1 hc i k
          obtain ⟨Ls, rs, _⟩ := ro'.get aft2.rl e1
          exact hs p q s v y H2 Ls Q rs (ROs.get aft2.rl ro2 e2) e3 (does_of (aft.trans (aft2.mono hmb)) (fun z => by
            rw [hρ2 (by cases mb with | false => rfl | true => rw [hmb rfl] at z; cases z)]; exact hρ z) po)
      · exact po.elim
/-! ### t.count(i) -/
def isTupS : SV → Bool
  | .v (.tup _) => true
  | _ => false
theorem ty_tup {P : Program} {w : World} {K : PySem.W.Frag} {p : SV} {x : V} {L : List Addr} (r : RS mg H p x L) (h : isTupS p = true) : TyB P w K "tuple" x H := by
  intro X pins σ s u hP hw hK I ru
  cases r with
  | v q =>
    rename_i p
    cases p with
    | tup xs =>
      obtain ⟨a, o, vs, rfl, ha, ho, _⟩ := q
      cases ru
      obtain ⟨hg, _, its, _, ob, hb, hc, _⟩ := I.hok a _ ha
      rw [hg] at hb; cases hb
      refine ⟨⟨o, hg, hc⟩, fun a' e => ?_⟩
      cases e
      exact ⟨o, hg, ho⟩
    | _ => cases h
  | _ => cases h
def sCnt (p : SV) (ps : List SV) : Option SV := match p, ps with
  | .v (.tup xs), [.v (.int k)] => match allI xs with
    | some ns => some (.v (.int (ns.count k : Nat)))
    | none => none
  | _, _ => none
def rCntT (K : PySem.W.Frag) : V → List V → Hp → VK → Prop := fun x xs H Q => ∃ (p : Addr) (ns : List Int) (k : Int), x = .ref p ∧ xs = [.int k] ∧ SqT K H p (ns.map V.int) ∧ Q (.int (ns.count k : Nat)) H
theorem mt_tcount : MtR X "tuple.count" (rCntT X.K) := by
  intro pins s σ H x xs v us Q I rx rxs ⟨p, ns, k, e1, e2, hs, q⟩
  subst e1 e2
  cases rx
  obtain ⟨u, rfl, t, rfl⟩ := rxs.one
  obtain ⟨its, rv, ⟨⟨c, dd, dt, sl⟩, ho, hc, n, hd⟩, _⟩ := I.tuple hs
  simp only at hc hd
  subst hc hd
  have hi := ints_of_vals rv
  refine call_meets F.slot_tuple_count ⟨_, ho, rfl⟩ F.entry_tuple_count (F.args_tuple_count_2 _ _) (SeqAt.tuple_countAt p its.toArray n dd sl (.int k t) (eqk k)) ⟨ho, fun y hy => (eqk_gives hi y (by simpa using hy)).at _ _, ?_⟩
  have ec : its.toArray.toList.countP (eqk k) = ns.count k := eqk_count hi
  refine ⟨.int (ns.count k : Nat), H, I.tok _, ⟨s.toks, ?_⟩, q⟩
  show Value.int ((its.toArray.toList.countP (eqk k) : Nat) : Int) s.toks = _
  rw [ec]
theorem sCnt_ok {K : PySem.W.Frag} : MetS mg sCnt (rCntT K) := by
  intro p ps s x vs H L Q rp rs e h
  unfold sCnt at e
  split at e
  · rename_i xs k
    split at e
    · rename_i ns en
      cases e
      obtain ⟨a, o, ws, rfl, ha, _, ra⟩ := rp.val
      obtain ⟨v, L', rfl, rv⟩ := rs.one
      have := ra.ints en; subst this
      have hv := rv.val
      exact ⟨a, ns, k, rfl, by rw [show v = _ from hv], .inl (.inr ⟨o, ha⟩), does_int h⟩
    · cases e
  · cases e
/-! ### the table -/
def plainR : Expr → Bool
  | .Call (.Name _ _) [] [] _ => false
  | _ => true
theorem base_plain {o : Expr} {n : Str} {env : Env} (h : plainR o = true) : attributeBase o n env (eval o env) = eval o env := by
  unfold attributeBase
  cases o <;> first | rfl | skip
  rename_i f args kws pos
  cases f <;> first | rfl | skip
  cases args <;> first | rfl | skip
  cases kws <;> first | rfl | exact Bool.noConfusion h
def sMet (x : Str) : Option ((SV → Bool) × (SV → List SV → Option SV)) := if x = "count" then some (isTupS, sCnt) else none
theorem gO_evMet {o : Expr} {es : List Expr} {name : Str} {ap cp : Pos} {Tb : SV → Bool} {f : SV → List SV → Option SV} {c : Loc → Rs OV} {d : Loc → Rs (List OV)} (hn : sMet name = some (Tb, f)) (ho : GO m X W o c) (ha : GA mb X W es d) (hmb : mb = true → m = true) (hf : mb = true → NoFd c)
    (hb : plainR o = true) (hst : es.all (fun e => !isStar e) = true) (hl : es.length < 30) (hne : es ≠ []) (hline : (ap.endLine == cp.line) = true) : GO m X W (.Call (.Attribute o name ap) es [] cp) (metB Tb f c d) := by
  unfold sMet at hn
  split at hn
  · rename_i e; subst e; cases hn
    exact gO_metB F.plainAttrs_tuple F.slot_tuple_count F.type_tuple_count mt_tcount (fun p x H L r h => ty_tup r h) sCnt_ok ho ha hmb hf (base_plain hb) hst hl hne hline
  · cases hn
end Lt
set_option maxHeartbeats 1000000
/-! LtP: record displays; exceptions raised. -/
namespace Lt
open PySem PySem.Spec L2
open PyProof.Rows hiding St
variable {mg : Str → Option Value} {X : Cx} {W : WX} {e a b tg : Expr} {m mb m' : Bool} {H : Hp} {K : List Nat}

theorem lookup_none {k : Str} : ∀ {kws : List (Str × V)}, k ∉ kws.map (·.1) → kws.lookup k = none
  | [], _ => rfl
  | (g, x) :: r, h => by
    rw [List.lookup_cons, show (k == g) = false from beq_eq_false_iff_ne.mpr fun z => h (by rw [z]; exact List.mem_cons_self)]
    exact lookup_none fun z => h (List.mem_cons_of_mem _ z)
theorem merge_keyed : ∀ {b a : List (Str × V)}, ((a ++ b).map (·.1)).Nodup → mergeK (keyed a) (keyed b) = keyed (a ++ b)
  | [], a, _ => by rw [List.append_nil]; rfl
  | (k, v) :: b, a, h => by
    have h' : ((a ++ [(k, v)] ++ b).map (·.1)).Nodup := by rw [List.append_assoc]; exact h
    show mergeK (putK (keyed a) (Sum.inr k) v) (keyed b) = _
    have hk : k ∉ a.map (·.1) := fun z => by
      rw [List.map_append, List.nodup_append] at h
      exact h.2.2 k z k (by simp) rfl
    rw [putK_new v (by rw [valV_keyed]; exact lookup_none hk)]
    have : keyed a ++ [((Sum.inr k : Key), v)] = keyed (a ++ [(k, v)]) := by unfold keyed; rw [List.map_append]; rfl
    rw [this, merge_keyed h', List.append_assoc]
    rfl
def strKeys : List Str → List (Option Expr)
  | [] => []
  | _ :: ks => none :: strKeys ks
/-- the pairs of a display whose keys are written texts -/
def GDs (X : Cx) (W : WX) (pos : Pos) (keys : List (Option Expr)) (ks : List Str) (es : List Expr) (c : Loc → Rs (List SV)) : Prop :=
  ∃ trs, PPs X pos keys es trs ∧ keys.all (·.isSome) = true ∧ keys.length = ks.length ∧ es.length = ks.length ∧ ∀ ρ σ H L Q, RL X.mg H ρ σ L → PoVs X.mg W H L σ (fun vs H' => Q ((ks.zip vs).map fun kv => (V.str kv.1, kv.2)) H') (c ρ) → tPairs trs σ H Q
theorem gDs_nil {pos : Pos} : GDs X W pos [] [] [] (seqV []) := ⟨[], pps_nil, rfl, rfl, rfl, fun ρ σ H L Q rl po => po [] H [] L .nil (.refl rl) (fun _ h => nomatch h) (fun _ h => nomatch h)⟩
theorem gDs_cons {pos p2 : Pos} {j : Nat} {k : Str} {keys : List (Option Expr)} {ks : List Str} {es : List Expr} {c : Loc → Rs SV} {cs : List (Loc → Rs SV)} (ha : GV true X W e c) (hb : GDs X W pos keys ks es (seqV cs)) : GDs X W pos (some (.Constant (.str k) j p2) :: keys) (k :: ks) (e :: es) (seqV (c :: cs)) := by
  obtain ⟨ta, pa, ga⟩ := ha
  obtain ⟨trs, pb, h1, h2, h2', gb⟩ := hb
  refine ⟨_, pps_cons pe_str pa pb, by rw [List.all_cons, h1]; rfl, by rw [List.length_cons, List.length_cons, h2], by rw [List.length_cons, List.length_cons, h2'], fun ρ σ H L Q rl po => ga ρ σ H L _ rl ?_⟩
  unfold seqV at po
  unfold bindR at po
  cases hc : c ρ with
  | no => rw [hc] at po; exact po
  | ex x ρ1 => rw [hc] at po; exact po
  | ok p ρ1 =>
    rw [hc] at po
    intro v H1 Lt L1 rs aft dj sb _
    refine gb ρ1 σ H1 L1 _ aft.rl ?_
    dsimp only at po
    cases hd : seqV cs ρ1 with
    | no => rw [hd] at po; exact po
    | ex x ρ2 => rw [hd] at po; exact fun cls d H' L' r a2 => po cls d H' L' r (aft.trans a2)
    | ok ps ρ2 =>
      rw [hd] at po
      intro vs H2 Lt2 L2 rvs aft2 dj2 sb2
      have th : ∀ a ∈ Lt, ∃ o, H1 a = some o := fun a h => let ⟨o, e, _⟩ := rs.there a h; ⟨o, e⟩
      refine po (v :: vs) H2 (Lt ++ Lt2) L2 (.cons (rs.step aft2.st dj) rvs (stayApart th dj sb2)) (aft.trans aft2) (fun a h => ?_) (fun a h => ?_)
      · rcases List.mem_append.mp h with h | h
        · exact stayApart th dj aft2.sb a h
        · exact dj2 a h
      · rcases List.mem_append.mp h with h | h
        · exact sb a h
        · exact Sub.trans aft.st aft.sb sb2 a h
def recD (ks : List Str) (c : Loc → Rs (List SV)) : Loc → Rs OV := bindR c fun ss ρ => if ss.length = ks.length then .ok (.tm (.r (ks.zip ss))) ρ else .no
theorem RAs.fields : ∀ {ks : List Str} {ss : List SV} {vs : List V} {L : List Addr}, RAs mg H ss vs L → ss.length = ks.length → RF mg H (ks.zip ss) (ks.zip vs) L
  | [], _, _, _, .nil, _ => .nil
  | k :: ks, _, _, _, .cons r rs d, h => .cons r (RAs.fields rs (by simpa using h)) d
  | [], _, _, _, .cons _ _ _, h => by cases h
  | _ :: _, _, _, _, .nil, h => by cases h
theorem gO_recD {pos : Pos} {keys : List (Option Expr)} {ks : List Str} {es : List Expr} {c : Loc → Rs (List SV)} (h : GDs X W pos keys ks es c) (hnd : ks.Nodup) (h0 : keys ≠ []) (h15 : ks.length ≤ 15) : GO true X W (.Dict keys es pos) (recD ks c) := by
  obtain ⟨trs, pp, h1, h2, h2', g⟩ := h
  refine ⟨_, pe_disp pp h1 (by omega) h0 (by omega), fun ρ σ H L Q rl po p hp => ?_⟩
  have al : Aft X.mg true H L ρ σ (upd H p (.dK [])) L := (Aft.refl rl).alloc hp
  refine g ρ σ _ L _ al.rl ?_
  unfold recD bindR at po
  cases hc : c ρ with
  | no => rw [hc] at po; exact po
  | ex x ρ1 => rw [hc] at po; exact fun cls d H' L' r a2 => po cls d H' L' r (al.trans a2)
  | ok ss ρ1 =>
    rw [hc] at po
    intro vs H1 Lt L1 ra aft dj sb
    dsimp only at po
    split at po
    · rename_i hl
      have nL : p ∉ L := fun z => by obtain ⟨o, q, _⟩ := rl.there p z; rw [hp] at q; cases q
      have hp1 : H1 p = some (.dK []) := aft.st p _ upd_same (.inr (.inl nL))
      have npt : p ∉ Lt := fun z => by
        rcases sb p z with y | y
        · exact nL y
        · rw [upd_same] at y; cases y
      have np1 : p ∉ L1 := fun z => by
        rcases aft.sb p z with y | y
        · exact nL y
        · rw [upd_same] at y; cases y
      have rf := ra.fields (ks := ks) hl
      have hzk : (ks.zip vs).map (·.1) = ks := by
        rw [rf.keys]
        exact List.map_fst_zip (by omega)
      refine ⟨hp1, keyed (ks.zip vs), by unfold keyed; rw [List.map_map]; rfl, by unfold keyed; rw [List.length_map, List.length_zip, ra.length]; omega, ?_⟩
      have em : mergeK [] (keyed (ks.zip vs)) = keyed (ks.zip vs) := merge_keyed (a := []) (by rw [List.nil_append, hzk]; exact hnd)
      rw [em]
      have nf : ∀ u, H1 p = some u → ¬ isFz u := fun u q z => by rw [hp1] at q; cases q; exact z
      have fz : ∀ b o, H1 b = some o → isFz o → upd H1 p (.dK (keyed (ks.zip vs))) b = some o := fun b o q z => by rw [upd_ne (show b ≠ p from fun w => by subst w; exact nf o q z)]; exact q
      have rs : RS X.mg (upd H1 p (.dK (keyed (ks.zip vs)))) (.r (ks.zip ss)) (.ref p) (p :: Lt) := .r upd_same (rf.stay fz fun b hb o q => by rw [upd_ne (show b ≠ p from fun w => npt (w ▸ hb))]; exact q) npt (by rw [← rf.keys, hzk]; exact hnd)
      have st1 : Stp true H H1 L := fun b o q c => aft.st b o (by rw [upd_ne (ne_of_none q hp)]; exact q) c
      refine po (.ref p) _ (p :: Lt) L1 rs ⟨aft.rl.stay fz fun b hb o q => by rw [upd_ne (show b ≠ p from fun w => np1 (w ▸ hb))]; exact q, fun b o q c => by rw [upd_ne (ne_of_none q hp)]; exact st1 b o q c, fun a h => ?_⟩ (fun a h h' => ?_) (fun a h => ?_) (fun z => nomatch z)
      · rcases aft.sb a h with z | z
        · exact .inl z
        · refine .inr ?_
          cases q : H a with
          | none => rfl
          | some o => rw [upd_ne (ne_of_none q hp), q] at z; cases z
      · rcases List.mem_cons.mp h with z | z
        · subst z; exact np1 h'
        · exact dj a z h'
      · rcases List.mem_cons.mp h with z | z
        · subst z; exact .inr hp
        · rcases sb a z with y | y
          · exact .inl y
          · refine .inr ?_
            cases q : H a with
            | none => rfl
            | some o => rw [upd_ne (ne_of_none q hp), q] at y; cases y
    · exact po.elim
end Lt
set_option maxHeartbeats 1000000
/-! LtMk: an error of the package is made. -/
namespace Lt
open PySem PySem.Spec L2 PySem.W
open PyProof.Rows hiding St
/-- the first line of an error's __init__ -/
def supSt (arg : Expr) (p0 p1 ap cp ep : Pos) : Stmt := .Expr (.Call (.Attribute (.Call (.Name "super" p0) [] [] p1) "__init__" ap) [arg] [] cp) ep
/-- what the module says of the class of an error, and of its __init__ -/
structure ErrC (P : Program) (K : Frag) (C fI cc cda : Addr) (B newId initId : String) (bmB : List Value) (y : Str) (body : List Stmt) : Prop where
  FB : ExcBaseFacts B newId initId bmB
  KF : KxsFacts B initId
  q : excInitIn K C bmB newId = true
  hi : findIn K (.ref C) "__init__" = some (some (.ref fI))
  ti : typeIn K (.ref fI) = some (.type "function")
  fn : ∃ oc od qual params scope dV kV doc pm an ct osl, K.lookup fI = some ⟨oc, od, .func (ksFn "__init__" qual params body scope dV kV doc pm an (.ref cda) ct cc), osl⟩ ∧ codeIn K (.ref cda) qual = true ∧
    (∃ ar, (params.posonlyargs ++ params.args).head? = some ar ∧ ar.arg = "self") ∧ (∀ u v, bindArgs (ksFn "__init__" qual params body scope dV kV doc pm an (.ref cda) ct cc) ⟨[u, v], []⟩ = pure [(("self" : Str), u), (y, v)]) ∧
    scope.names.lookup ("super" : Str) = some .globalImplicit ∧ scope.names.lookup ("__class__" : Str) = some .free ∧ scope.names.lookup ("self" : Str) = some .local ∧ scope.names.lookup y = some .local ∧ (scope.names.all fun z => !(z.2 == .cell)) = true ∧
    scope.kind = .function ∧ scope.isCoroutine = false ∧ scope.isGenerator = false ∧ (y == ("self" : Str)) = false ∧ (y == ("__debug__" : Str)) = false
  code : ∃ ccl cdd vs ccs file tf, K.lookup cda = some ⟨ccl, cdd, .fields vs, ccs⟩ ∧ vs[2]? = some (.str file tf) ∧ ((P.main.file : Str) == file) = true
  cell : ∃ cl cld csl, K.lookup cc = some ⟨cl, cld, .cell (some (.ref C)), csl⟩
  sub : mroIn K C (.ref C) = some true
  sup : nsIn K mainGlobals "super" = some none
  third : nsIn K cStatics "thirdparty.any" = some none
  along : ks_superIn K C C "__init__" = some (some (.builtin initId))
  subB : subIn K (.ref C) (.type B) = some true
  top : (P.main.scope.names.lookup ("super" : Str)).isSome = false
  exC : subIn K (.ref C) (.type "BaseException") = some true
  tyC : typeIn K (.ref C) = some (.type "type")
  kC : keepIn K (.ref C) = true
section
variable {P : Program} {w : World} {K : Frag} {A : Around} {E : Value → Shared → Prop} {C fI cc cda L : Addr} {B newId initId : String} {bmB : List Value} {y qual : Str} {body : List Stmt} {scope : Scope} {mg mb m : Str → Option Value} {hp : Heap} {s : Shared}
theorem sup_ok {oc dV kV doc pm ct : Value} {od an : Option Addr} {osl : Array (Option Value)} {params : Arguments} {arg : Expr} {p0 p1 ap cp ep : Pos} {e t0 : Addr} {ar : Arg} {Q : Flow → Shared → Prop} (T : ErrC P K C fI cc cda B newId initId bmB y body)
    (hfn : K.lookup fI = some ⟨oc, od, .func (ksFn "__init__" qual params body scope dV kV doc pm an (.ref cda) ct cc), osl⟩) (har : (params.posonlyargs ++ params.args).head? = some ar) (hself : ar.arg = "self")
    (h1 : scope.names.lookup ("super" : Str) = some .globalImplicit) (h2 : scope.names.lookup ("__class__" : Str) = some .free) (h3 : scope.names.lookup ("self" : Str) = some .local) (hk : scope.kind = .function)
    (F : Fr hp L s.heap m) (kin : K.In hp) (G : hp.Ns mainGlobals mg) (hb : hp.Ns builtinsNs mb) (hbb : ∀ x : Str, x ≠ "__name__" → mb x = bootBuiltins x) (N : News hp L s.heap [(e, excObj C t0 none .none)]) (hm : m "self" = some (.ref e)) (hst0 : isStar arg = false) (hline : (ap.endLine == cp.line) = true)
    (harg : ∀ (s1 : Shared) (Q1 : Value → Shared → Prop), Fr hp L s1.heap m → (∀ v t, Q1 v { s1 with toks := t }) → wpAny (model P w) A (eval arg (ksEnv qual scope L fI (.ref cda) cc)) Q1 E s1)
    (h : ∀ t' h' tk, Fr hp L h' m → News hp L h' [(e, excObj C t' none .none)] → Q .next { s with heap := h', toks := tk }) :
    _root_.PySem.wpAt (model P w) A (.func body (ksEnv qual scope L fI (.ref cda) cc)) (exec (supSt arg p0 p1 ap cp ep) (ksEnv qual scope L fI (.ref cda) cc)) Q E s := by
  obtain ⟨ccl, cdd, vs, ccs, file, tf, hcode, hvs, hfile⟩ := T.code
  obtain ⟨cl, cld, csl, hcell⟩ := T.cell
  obtain ⟨g0, g1, g2, g3, g4⟩ := s
  have X : K.In g0 := kin.keeps F.keep
  have he := (N _ List.mem_cons_self).1
  obtain ⟨nm, N', qn, bs, bm, hdct, sn, sub, ab, col, dd, k0, k1, k2, k3, k5, hC, hT⟩ := excInit_of X T.q
  have I : ∀ {h : Heap} {t : Addr}, h.get? e = some (excObj C t none .none) → InstAt h e (excObj C t none .none) C none := fun z => ⟨z, rfl, rfl, trivial⟩
  have hst : starEach [arg] (ksEnv qual scope L fI (.ref cda) cc) = (false, eval arg (ksEnv qual scope L fI (.ref cda) cc)) :: starEach [] (ksEnv qual scope L fI (.ref cda) cc) := starEach_cons hst0
  have hform : methodCallForm (([arg] : List Expr).length + ([] : List Keyword).length) (backTo cp (starEach [arg] (ksEnv qual scope L fI (.ref cda) cc))) (backToKw cp (keywordEach [] (ksEnv qual scope L fI (.ref cda) cc))) = true := few1 hst0
  have hpos : methodCallPos true (.Call (.Name "super" p0) [] [] p1) (ksEnv qual scope L fI (.ref cda) cc) ap cp = pure cp := by
    unfold methodCallPos
    simp [hline]
  refine ks_wpAt_Expr_any (ks_wpAt_MethodCall ?_ (pl := ?_) (by
    rw [arm_eval_Call]
    simp only [methodCall, hform, hpos, pure_bind]
    rfl)) (by unfold interactive; rw [show (ksEnv qual scope L fI (.ref cda) cc).scope.kind = .function from hk]; rfl) (by rfl)
  refine ks_wpAt_super_base (env := ksEnv qual scope L fI (.ref cda) cc) h1 h2 (by decide +kernel) rfl (X _ _ hfn) rfl har rfl (X _ _ hcode) rfl hvs hfile T.top ?_
  refine ks_loadName_global hk h1 (Calls.loadGlobal_builtin (env := ksEnv qual scope L fI (.ref cda) cc) (G.keeps F.keep) (mg_none_of kin G T.sup) (hb.keeps F.keep) ((hbb _ (by decide +kernel)).trans (by kernel_rfl)) ⟨rfl, ?_⟩)
  refine wpAny_loadName_free hk h2 rfl ⟨_, X _ _ hcell, rfl⟩ ?_
  refine wpAny_loadName_local hk (by rw [hself]; exact h3) F.ns (by rw [hself]; exact hm) ?_
  refine ks_wpAny_isType_cls hC rfl ⟨rfl, ?_⟩
  refine ks_wpAny_call_super hC rfl he rfl (fun c z => by cases z) (looks_mroIn X T.sub) (fun h' e' k => ?_)
  obtain ⟨F1, N1, l1⟩ := ks_newsPush (s := ⟨g0, g1, g2, g3, g4⟩) F N rfl e' k
  have N1' : News hp L h' [(g0.objs.size, ks_superObj C e C), (e, excObj C t0 none .none)] := N1
  refine kxs_method (s := ⟨h', g1, g2, g3, g4⟩) (D := C) T.KF F1 kin N1' List.mem_cons_self (I (N1' _ (List.mem_cons_of_mem _ List.mem_cons_self)).1) T.third T.along T.subB (by decide +kernel) fun qq h2' F2 N2 l2 => ?_
  refine kxs_callWith1 (i := initId) (x := e) N2 List.mem_cons_self ?_ hst rfl
  rw [hst]
  refine Calls.spliced_cons ?_
  refine harg _ _ F2 fun v t => ?_
  refine Calls.spliced_nil ⟨(N2 _ List.mem_cons_self).1, ?_⟩
  have ne1 : qq ≠ e := fun z => by
    have := l2 (e, excObj C t0 none .none) (List.mem_cons_of_mem _ List.mem_cons_self)
    rw [z] at this; exact absurd this (Nat.lt_irrefl _)
  have ne2 : g0.objs.size ≠ e := fun z => by
    have := l1 (e, excObj C t0 none .none) List.mem_cons_self
    rw [z] at this; exact absurd this (Nat.lt_irrefl _)
  refine kxs_call (s := ⟨h2', g1, g2, t, g4⟩) (rest := [v]) F2 kin N2 T.FB T.q List.mem_cons_self (.tail ne1 (.tail ne2 (.head fun p z => nomatch z))) (by simp [sizeLine_eq]) fun t' h3' F3 N3 l3 => ?_
  exact h t' h3' t F3 fun p hp' => by
    rw [List.mem_singleton.mp hp']
    exact N3 _ (by simp)

/-- the shapes of an error's __init__: without a field, with one -/
inductive ErrSh (K : Frag) (C : Addr) (B : String) (bmB : List Value) (y : Str) : Option Str → List Stmt → Prop where
  | no {pa p0 p1 ap cp ep : Pos} : (ap.endLine == cp.line) = true → ErrSh K C B bmB y none [supSt (.Name y pa) p0 p1 ap cp ep]
  | fld {f tx : Str} {kk : Nat} {pa p0 p1 ap cp ep p2 p3 p4 p5 : Pos} : (ap.endLine == cp.line) = true → StoreFacts B bmB "object.__setattr__" "object" → findIn K (.ref C) "__setattr__" = some (some (.builtin "object.__setattr__")) → excOver K C bmB = true →
      takerIn K C f = some none → hasDictIn K C = true → ErrSh K C B bmB y (some f) [supSt (.Constant (.str tx) kk pa) p0 p1 ap cp ep, .Assign [.Attribute (.Name "self" p2) f p3] (.Name y p4) p5]
/-- what an __init__ leaves -/
def Inited (hp h' : Heap) (e C : Addr) (u : Value) : Option Str → Prop
  | none => ∃ t', h'.get? e = some (excObj C t' none .none)
  | some f => ∃ t' dx, hp.objs.size ≤ dx ∧ dx ≠ e ∧ h'.get? e = some (excObj C t' (some dx) .none) ∧ h'.Ns1 dx (fun z => if z = f then some u else none)
theorem ns1_one {h : Heap} {dx : Addr} {f : Str} {hs : Int} {tk : Tok} {u : Value} {n : Nat} (e : h.get? dx = some (dictOf [⟨hs, .str f tk, u⟩] n)) : h.Ns1 dx (fun z => if z = f then some u else none) := by
  refine ⟨_, _, _, e, rfl, fun x hx => ?_, ?_, fun z => ?_⟩
  · have : x ∈ [(⟨hs, .str f tk, u⟩ : DictEntry)] := by simpa using hx
    rw [List.mem_singleton.mp this]; exact ⟨f, tk, rfl⟩
  · unfold UniqKeys; simp
  · unfold nsFind findBy
    by_cases hz : z = f
    · subst hz; simp [Value.isStr]
    · show _ = if z = f then some u else none
      rw [if_neg hz]
      simp [Value.isStr, Ne.symm hz]
theorem init_ok {fo : Option Str} {e t0 : Addr} {u : Value} {R : Result → Shared → Prop} (T : ErrC P K C fI cc cda B newId initId bmB y body) (S : ErrSh K C B bmB y fo body) (hroom : A.depth < recursionLimit)
    (kin : K.In hp) (G : hp.Ns mainGlobals mg) (hb : hp.Ns builtinsNs mb) (hbb : ∀ x : Str, x ≠ "__name__" → mb x = bootBuiltins x) (hlim : hp.NoLimit)
    (keep : ∀ b o, hp.get? b = some o → s.heap.get? b = some o) (hle : hp.objs.size ≤ s.heap.objs.size) (he : s.heap.get? e = some (excObj C t0 none .none)) (hen : hp.objs.size ≤ e)
    (h : ∀ h' tk, (∀ b o, hp.get? b = some o → h'.get? b = some o) → Inited hp h' e C u fo → R (.ok (.ret .none)) { s with heap := h', toks := tk }) :
    codeAny (model P w) A (.call (.ref fI) ⟨[.ref e, u], []⟩) R s := by
  obtain ⟨oc, od, qual, params, scope, dV, kV, doc, pm, an, ct, osl, hfn, hcd, ⟨ar, har, hself⟩, hbind, h1, h2, h3, h4, hcell, hk, hco, hgen, hys, hyd⟩ := T.fn
  have kin' : K.In s.heap := kin.keeps keep
  have hcell' : ∀ x ∈ scope.names, x.2 ≠ .cell := fun x hx z => by
    have := List.all_eq_true.mp hcell x hx
    rw [z] at this; cases this
  have yself : (("self" : Str) == y) = false := by
    have : y ≠ ("self" : Str) := by simpa using hys
    simpa using (Ne.symm this)
  have he0 : hp.get? e = none := by
    cases z : hp.get? e with
    | none => rfl
    | some o => exact absurd (Heap.lt_size z) (Nat.not_lt.mpr hen)
  refine ks_codeAny_call_defAt (fd := ksFn "__init__" qual params body scope dV kV doc pm an (.ref cda) ct cc) (body := body) (binds := [(("self" : Str), .ref e), (y, u)]) hroom (kin' _ _ hfn) rfl (hlim.keeps keep) (codeRec_of kin' hcd) rfl (.of_eq (hbind _ _)) hcell' ?_ (fun h₁ hns hk₁ => ?_) hco hgen hk
  · intro x hx
    rcases List.mem_cons.mp hx with rfl | hx
    · exact h3
    · rw [List.mem_singleton.mp hx]; exact h4
  have F : Fr hp s.heap.objs.size h₁ (fun x => ([(("self" : Str), .ref e), (y, u)] : List (Str × Value)).reverse.lookup x) := ⟨hns, fun b o q => hk₁ b o (keep b o q), hle⟩
  have N : News hp s.heap.objs.size h₁ [(e, excObj C t0 none .none)] := fun p hp' => by
    rw [List.mem_singleton.mp hp']
    exact ⟨hk₁ _ _ he, Nat.ne_of_lt (Heap.lt_size he), he0⟩
  have ms : (fun x => ([(("self" : Str), .ref e), (y, u)] : List (Str × Value)).reverse.lookup x) "self" = some (.ref e) := by
    show ([(y, u), (("self" : Str), .ref e)] : List (Str × Value)).lookup ("self" : Str) = _
    rw [List.lookup_cons, yself]; rfl
  have my : (fun x => ([(("self" : Str), .ref e), (y, u)] : List (Str × Value)).reverse.lookup x) y = some u := by
    show ([(y, u), (("self" : Str), .ref e)] : List (Str × Value)).lookup y = _
    rw [List.lookup_cons, beq_self_eq_true]
  have ldY : ∀ {s1 : Shared} {Q1 : Value → Shared → Prop} {E1 : Value → Shared → Prop} {A1 : Around} {pos : Pos}, Fr hp s.heap.objs.size s1.heap (fun x => ([(("self" : Str), .ref e), (y, u)] : List (Str × Value)).reverse.lookup x) → Q1 u s1 → wpAny (model P w) A1 (eval (.Name y pos) (ksEnv qual scope s.heap.objs.size fI (.ref cda) cc)) Q1 E1 s1 := fun {s1 Q1 E1 A1 pos} F1 q =>
    wpAny_Name (wpAny_loadName_local hk h4 F1.ns my q) hyd
  have ldS : ∀ {s1 : Shared} {Q1 : Value → Shared → Prop} {E1 : Value → Shared → Prop} {A1 : Around} {pos : Pos}, Fr hp s.heap.objs.size s1.heap (fun x => ([(("self" : Str), .ref e), (y, u)] : List (Str × Value)).reverse.lookup x) → Q1 (.ref e) s1 → wpAny (model P w) A1 (eval (.Name "self" pos) (ksEnv qual scope s.heap.objs.size fI (.ref cda) cc)) Q1 E1 s1 := fun {s1 Q1 E1 A1 pos} F1 q =>
    wpAny_Name (wpAny_loadName_local hk h3 F1.ns ms q) (by decide)
  cases S with
  | no hl =>
    refine ks_wpAt_execs_cons (sup_ok T hfn har hself h1 h2 h3 hk F kin G hb hbb N ms rfl hl (fun s1 Q1 F1 q => ldY F1 (q u s1.toks)) fun t' h' tk F' N' => ?_)
    refine wpAt_of_wpAny (wpAny_execs_nil ?_)
    exact h h' tk F'.keep ⟨t', (N' _ List.mem_cons_self).1⟩
  | fld hl SF hsa hov htk hdct =>
    refine ks_wpAt_execs_cons (sup_ok T hfn har hself h1 h2 h3 hk F kin G hb hbb N ms rfl hl (fun s1 Q1 F1 q => Calls.Constant_str (q _ _)) fun t' h' tk F' N' => ?_)
    refine wpAt_of_wpAny (wpAny_execs_cons (plainObj_wpAny_Assign_Attribute (ldY F' (ldS F' ?_)) rfl))
    refine set_exc0 (nw := fun o => [(e, o)]) SF F' kin N' List.mem_cons_self hsa hov htk hdct rfl (.head fun p z => nomatch z) (by simp [putL]) fun dx h2' F2 N2 l2 => ?_
    refine wpAny_execs_nil ?_
    have lt := l2 _ List.mem_cons_self
    exact h h2' _ F2.keep ⟨t', dx, Nat.le_trans hen (Nat.le_of_lt lt), Nat.ne_of_gt lt, (N2 _ (List.mem_cons_of_mem _ List.mem_cons_self)).1, ns1_one (N2 _ List.mem_cons_self).1⟩
end

/-- what the module says of an error, by its name -/
structure Err (P : Program) (K : Frag) (mg : Str → Option Value) (x : Str) (fo : Option Str) : Prop where
  ex : ∃ C fI cc cda B newId initId bmB y body, mg x = some (.ref C) ∧ ErrC P K C fI cc cda B newId initId bmB y body ∧ ErrSh K C B bmB y fo body
/-- what comes of x(v) -/
def mkQ (C : Addr) (v : V) (H : Hp) (Q : XK) : Option Str → Prop
  | none => Q (.ref C) none H
  | some f => ∀ d od, H d = none → Q (.ref C) (some d) (upd H d (.frz od (.xd [(f, v)])))
section
variable {X : Cx} {pins : List (Addr × Obj)} {σ : St} {H : Hp} {s : Shared}
theorem mk_err {C fI cc cda : Addr} {B newId initId : String} {bmB : List Value} {y : Str} {body : List Stmt} {fo : Option Str} {v : V} {u : Value} {Q : XK} (T : ErrC X.prog X.K C fI cc cda B newId initId bmB y body) (S : ErrSh X.K C B bmB y fo body) (hd : X.A.depth + 5 < recursionLimit)
    (I : Inv X pins σ H s) (r : RelV v u) (q : mkQ C v H Q fo) : wpAny (model X.prog X.w) X.A (call (.ref C) [u]) (MkP X pins σ Q) X.xe s := by
  obtain ⟨nm, N', qn, bs, bm, hdct, sn, sub, ab, col, dd, k0, k1, k2, k3, k5, hC, hT⟩ := excInit_of I.kIn T.q
  obtain ⟨mb, b1, b2⟩ := I.mod.blt
  obtain ⟨hp, g, dr, tk, os⟩ := s
  have kk : ∀ b o, hp.get? b = some o → ((hp.push (kdv_tup [u])).push (PySem.HandSPX.excO C hp.objs.size)).get? b = some o := fun b o e => Heap.get?_push_of_some _ (Heap.get?_push_of_some _ e)
  have hget : ((hp.push (kdv_tup [u])).push (PySem.HandSPX.excO C hp.objs.size)).get? (hp.objs.size + 1) = some (PySem.HandSPX.excO C hp.objs.size) := by heap_get
  have hn : H (hp.objs.size + 1) = none := I.hok.fresh (Nat.le_succ _)
  have hlt : ∀ {b : Addr} {o : Obj}, hp.get? b = some o → b ≠ hp.objs.size + 1 := fun {b o} z => Nat.ne_of_lt (Nat.lt_of_lt_of_le (Heap.lt_size z) (Nat.le_succ _))
  refine wpAny_call (PySem.HandSPX.call_own T.FB hT hC (looks_findIn I.kIn T.hi) (fun self => bind_fn I.kIn self T.ti) (by simp [sizeLine_eq]) ?_)
  refine init_ok (hp := hp) (mg := X.mg) (mb := mb) (u := u) T S (by rw [make_depth]; omega) I.kIn (I.mod.glob.keeps I.bk) (b1.keeps I.bk) b2 (I.mod.nolimit.keeps I.bk) kk (by simp only [Heap.size_push]; omega) hget (Nat.le_succ _) fun h' t' k z => ⟨rfl, ?_⟩
  obtain ⟨G, g1, g2⟩ := restrict h' fun b => decide (b ≠ hp.objs.size + 1)
  have gk : ∀ b, b ≠ hp.objs.size + 1 → G.get? b = h'.get? b := fun b hb => g1 b (decide_eq_true hb)
  have ge : G.get? (hp.objs.size + 1) = none := g2 _ (by simp)
  have kG : ∀ b o, G.get? b = some o → h'.get? b = some o := fun b o e => by
    by_cases hb : b = hp.objs.size + 1
    · rw [hb, ge] at e; cases e
    · rw [← gk b hb]; exact e
  have kp : ∀ b o, hp.get? b = some o → G.get? b = some o := fun b o e => by rw [gk b (hlt e)]; exact k b o e
  have R := raises_own (X := X) T.exC T.tyC
  cases fo with
  | none =>
    obtain ⟨t1, he⟩ := z
    exact ⟨_, _, _, ⟨G, g, dr, t', os⟩, H, .ref C, none, rfl, I.kept (t' := t') kp, kG, ge, he, ⟨rfl, rfl⟩, rfl, rfl, hn, rfl, I.bare, R, q⟩
  | some f =>
    obtain ⟨t1, dx, l1, l2, he, hns⟩ := z
    have nd : H dx = none := I.hok.fresh l1
    obtain ⟨od, hod⟩ : ∃ od, G.get? dx = some od := by
      obtain ⟨od, _, _, hod, _⟩ := hns
      exact ⟨od, (gk dx l2).trans hod⟩
    refine ⟨_, _, _, ⟨G, g, dr, t', os⟩, upd H dx (.frz od (.xd [(f, v)])), .ref C, some dx, rfl, I.laid (t' := t') (a := dx) (o := .frz od (.xd [(f, v)])) (h' := G) kp l1 ⟨hod, _, hns.at fun o e => (gk dx l2).trans e, fun f' => ?_⟩, kG, ge, he, ⟨rfl, rfl⟩, rfl, rfl, by rw [upd_ne (Ne.symm l2)]; exact hn, rfl, I.bare, R, q dx od nd⟩
    exact relO_put (fs := []) (mA := fun _ => none) r (fun _ => True.intro) f'
/-- raise x(e) -/
def raiS (x : Str) (fo : Option Str) (c : Loc → Rs PV) : Loc → Rs Fl := bindR c fun p ρ => .ex ⟨x, match fo with | none => [] | some f => [(f, p)]⟩ ρ
theorem gS_raise {K : List Nat} {W : WX} {x : Str} {fo : Option Str} {c : Loc → Rs PV} {e : Expr} {p cp pos : Pos} (hc : X.calm = true) (tk : Takes X W) (hd : X.A.depth + 5 < recursionLimit) (hE : Err X.prog X.K X.mg x fo) (hg : Gl X x) (hdb : (x == ("__debug__" : Str)) = false) (hst : isStar e = false) (h : GP X W e c) :
    GS X W K (.Raise (some (.Call (.Name x p) [e] [] cp)) none pos) (raiS x fo c) := by
  obtain ⟨t, pe, g⟩ := h
  obtain ⟨C, fI, cc, cda, B, newId, initId, bmB, y, body, hm, T, S⟩ := hE.ex
  refine ⟨_, ps_raise (t := fun σ H Q => t σ H fun v H1 => mkQ C v H1 Q fo) hc tk ?_, fun ρ σ H L D rl po => g ρ σ H L _ rl ?_⟩
  · intro pins s σ H Q I h
    refine wpAny_Call_Name_kw (ld_glob I hg hm ?_ hdb)
    refine callWith_K (h₀ := X.base) I.ok.mod.kin T.kC ?_ (starEach_cons hst) rfl
    rw [starEach_cons hst]
    refine Calls.spliced_cons (thn (pe.run pins s σ H _ I h) fun u s1 ⟨v, H1, I1, r1, q1⟩ => Calls.spliced_nil ⟨I1.kIn, ?_⟩)
    exact mk_err T S hd I1 r1 q1
  · unfold raiS bindR at po
    cases hc : c ρ with
    | no => rw [hc] at po; exact po
    | ex x' ρ1 => rw [hc] at po; exact fun cls d H' L' r a2 => po cls d σ H' L' r a2 .refl
    | ok p ρ1 =>
      rw [hc] at po
      intro v H1 L1 rv aft
      dsimp only at po
      cases fo with
      | none => exact po (.ref C) none σ H1 L1 ⟨C, hm, rfl, .inl ⟨rfl, rfl⟩⟩ aft .refl
      | some f =>
        intro d od nd
        refine po (.ref C) (some d) σ (upd H1 d (.frz od (.xd [(f, v)]))) L1 ⟨C, hm, rfl, .inr ⟨f, p, v, d, od, rfl, rfl, upd_same, rv.stay (Stp.alloc (m := true) (L := L1) nd).fz⟩⟩ (aft.alloc nd) .refl
end
end Lt
set_option maxHeartbeats 1000000
/-! LtTry: try and its clauses. -/
namespace Lt
open PySem PySem.Spec L2 PySem.W
open PyProof.Rows hiding St
/-! ### the test of a clause -/
section
variable {M : Model} {K : Frag} {A : Around} {E : Value → Shared → Prop}
theorem each_exc {f : Value → PUnit → Sem (ForInStep PUnit)} {s : Shared} : ∀ {cs : List Value} {Q : PUnit → Shared → Prop}, (∀ c ∈ cs, ∀ Q : ForInStep PUnit → Shared → Prop, Q (.yield ⟨⟩) s → wpAny M A (f c ⟨⟩) Q E s) → Q ⟨⟩ s → wpAny M A (forIn cs PUnit.unit f) Q E s
  | [], _, _, q => by rw [List.forIn_nil]; exact wpAny_pure q
  | c :: r, _, h, q => by
    rw [List.forIn_cons]
    exact wpAny_bind (h c List.mem_cons_self _ (each_exc (fun d hd => h d (List.mem_cons_of_mem _ hd)) q))
theorem each_sub {f : Value → Option Bool × Unit → Sem (ForInStep (Option Bool × Unit))} {s : Shared} {cls : Value} (h : ∀ (c : Value) (b : Bool) (acc : Option Bool × Unit) (Q : ForInStep (Option Bool × Unit) → Shared → Prop), exmOne K cls c = some b → Q (if b then .done (some true, ()) else .yield (none, ())) s → wpAny M A (f c acc) Q E s) :
    ∀ {cs : List Value} {b : Bool} {Q : Option Bool × Unit → Shared → Prop}, exmAny K cls cs = some b → Q (if b then (some true, ()) else (none, ())) s → wpAny M A (forIn cs ((none, ()) : Option Bool × Unit) f) Q E s
  | [], b, Q, e, q => by
    cases e
    rw [List.forIn_nil]; exact wpAny_pure q
  | c :: r, b, Q, e, q => by
    obtain ⟨b1, d1, x1, y1, rfl⟩ := exmAny_cons e
    rw [List.forIn_cons]
    refine wpAny_bind (h c b1 _ _ x1 ?_)
    cases b1 with
    | true => exact wpAny_pure q
    | false => exact each_sub h y1 q
theorem exmAny_mem : ∀ {cs : List Value} {cls : Value} {b : Bool}, exmAny K cls cs = some b → ∀ c ∈ cs, ∃ b, exmOne K cls c = some b
  | c :: r, cls, b, e, d, hd => by
    obtain ⟨b1, d1, x1, y1, rfl⟩ := exmAny_cons e
    rcases List.mem_cons.mp hd with rfl | hd
    · exact ⟨b1, x1⟩
    · exact exmAny_mem y1 d hd
theorem exm_many {cs : List Value} {cls : Value} {tp e : Addr} {b : Bool} {n : Nat} {o : Obj} {Q : Bool → Shared → Prop} {s : Shared} (X : K.In s.heap) (LT : Looks M s.heap (typeOf (.ref e)) cls) (hp : s.heap.get? tp = some o) (hc : o.cls = .type "tuple") (hd : o.data = .seq cs.toArray n) (hx : exmAny K cls cs = some b) (q : Q b s) :
    wpAny M A (excMatches (.ref e) (.ref tp)) Q E s := by
  have L0 : Looks M s.heap (isInstance (.ref tp) (.type "tuple")) true := by
    have : Looks M s.heap (typeOf (.ref tp)) (.type "tuple") := fun A Q E s k q => wpAny_typeOf_ref (k _ _ hp) (by rw [hc]; exact q)
    exact this.andThen (Looks.of_pure isSubtype_tuple_tuple)
  unfold excMatches
  refine wpAny_bind (L0.here ?_)
  dsimp only
  rw [if_pos rfl]
  refine wpAny_bind (wpAny_seqItems hp hd (wpAny_bind (wpAny_pure ?_)))
  dsimp only [Option.getD_some]
  refine wpAny_bind (each_exc (fun c hc Q q => ?_) ?_)
  · obtain ⟨b1, h1⟩ := exmAny_mem hx c hc
    refine wpAny_bind ((exm_cls (M := M) X h1).1.here ?_)
    rw [if_neg (by decide)]
    exact wpAny_pure q
  refine wpAny_bind (LT.here ?_)
  refine wpAny_bind (each_sub (K := K) (cls := cls) (fun c b acc Q h q => ?_) hx ?_)
  · refine wpAny_bind ((exm_cls (M := M) X h).2.here ?_)
    cases b with
    | true => exact wpAny_pure q
    | false => exact wpAny_pure q
  · cases b with
    | true => exact wpAny_pure q
    | false => exact wpAny_pure q
end
/-- the classes that a clause names -/
inductive NamesAll (X : Cx) : List Expr → List Value → Prop where
  | nil : NamesAll X [] []
  | cons {x : Str} {c : Value} {p : Pos} {es : List Expr} {cs : List Value} : Names X x c → NamesAll X es cs → NamesAll X (.Name x p :: es) (c :: cs)
inductive TestOk (X : Cx) : Expr → List Value → Prop where
  | one {x : Str} {c : Value} {p : Pos} : Names X x c → TestOk X (.Name x p) [c]
  | many {es : List Expr} {cs : List Value} {k : Nat} {p : Pos} : NamesAll X es cs → cs.length ≤ 1000 → TestOk X (.Tuple es k p) cs
section
variable {X : Cx} {a : Addr} {q : Addr × Obj} {pn pins : List (Addr × Obj)} {σ : St} {H : Hp} {s : Shared} {E : Value → Shared → Prop}
theorem name_run {x : Str} {c : Value} {p : Pos} {Q : Value → Shared → Prop} (S : Inv (X.suite a pn) pins σ H s) (h : Names X x c) (k : Q c s) : wpAny (model X.prog X.w) (X.A.mark (some (.ref a))) (eval (.Name x p) X.env) Q E s := by
  obtain ⟨hg, hdbg, hm | ⟨hm, hv, hnn⟩⟩ := h
  · exact ld_glob (X := X.suite a pn) S hg hm k hdbg
  · exact ld_blt (X := X.suite a pn) S hg hm hv k hnn hdbg
theorem names_run {pos : Pos} (S : Inv (X.suite a pn) pins σ H s) : ∀ {es : List Expr} {cs : List Value} {Q : List Value → Shared → Prop}, NamesAll X es cs → Q cs s → wpAny (model X.prog X.w) (X.A.mark (some (.ref a))) (spliced (backTo pos (starEach es X.env))) Q E s
  | _, _, _, .nil, k => Calls.spliced_nil k
  | _, _, _, .cons h t, k => by
    rw [starEach_cons rfl]
    exact Calls.spliced_cons (name_run S h (names_run S t k))
theorem test_run {t : Expr} {cs : List Value} {cls : Value} {b : Bool} {Q : Bool → Shared → Prop} (S : Inv (X.suite a pn) pins σ H s) (LT : Looks (model X.prog X.w) s.heap (typeOf (.ref a)) cls) (T : TestOk X t cs) (hb : exmAny X.K cls cs = some b)
    (k : ∀ h', (∀ b o, s.heap.get? b = some o → h'.get? b = some o) → Q b { s with heap := h' }) :
    wpAny (model X.prog X.w) (X.A.mark (some (.ref a))) (eval t X.env) (fun c s₁ => wpAny (model X.prog X.w) (X.A.mark (some (.ref a))) (excMatches (.ref a) c) Q E s₁) E s := by
  cases T with
  | one h =>
    refine name_run S h ?_
    obtain ⟨b1, d1, x1, y1, rfl⟩ := exmAny_cons hb
    cases y1
    rw [Bool.or_false] at k
    exact (exm_one S.kIn LT x1).here (k s.heap fun _ _ z => z)
  | @many es cs k' p h hl =>
    refine wpAny_Tuple_spliced (names_run S h ⟨by rw [sizeLine_eq]; omega, ?_⟩)
    have kp : ∀ b o, s.heap.get? b = some o → (s.heap.push { cls := .type "tuple", data := .seq cs.toArray }).get? b = some o := fun b o e => Heap.get?_push_of_some _ e
    exact exm_many (K := X.K) (s := { s with heap := s.heap.push { cls := .type "tuple", data := .seq cs.toArray } }) (S.kIn.keeps kp) (LT.keeps kp) (Heap.get?_push_at rfl rfl) rfl rfl hb (k _ kp)
end

/-! ### the exception that was caught, behind the suite -/
section
variable {X : Cx} {pins : List (Addr × Obj)} {σ : St} {H : Hp} {s : Shared}
theorem inv_track {a : Addr} {oe : Obj} {vs : Array Value} (I : Inv X pins σ H s) (ha : s.heap.get? a = some oe) (hd : oe.data = .fields vs) (na : H a = none) (nL : a ≠ X.env.locals) (n0 : X.s_0.heap.get? a = none) (np : ∀ p ∈ X.pn ++ pins, p.1 ≠ a) : Inv X pins σ (upd H a (.frz oe (.own a))) s := by
  have up : ∀ {b : Addr} {o : HO}, H b = some o → upd H a (.frz oe (.own a)) b = some o := fun {b o} e => by
    rw [upd_ne (ne_of_none e na)]; exact e
  have un : ∀ {b : Addr}, b ≠ a → H b = none → upd H a (.frz oe (.own a)) b = none := fun {b} hb e => by
    rw [upd_ne hb]; exact e
  refine ⟨I.ok, I.os, I.bare, ⟨I.base.keep, I.base.slot, fun b o e n hx => ?_, I.base.there, fun b xs e => up (I.base.tups b xs e), fun b o u e => up (I.base.frzs b o u e), fun b ps e => ?_⟩, I.loc, I.cell, un (Ne.symm nL) I.free, fun x c e => un (fun z => ?_) (I.freeC x c e), fun p hp => ?_, fun b o e => ?_, I.len⟩
  · exact un (fun z => by rw [z, n0] at e; cases e) (I.base.free b o e n hx)
  · obtain ⟨more, q⟩ := I.base.tbls b ps e
    exact ⟨more, up q⟩
  · obtain ⟨v, o, ho, hc⟩ := I.cell x c e
    rw [z, ha] at ho; cases ho
    rw [hd] at hc; cases hc
  · obtain ⟨h1, h2, h3⟩ := I.pin p hp
    exact ⟨h1, un (np p hp) h2, h3⟩
  · by_cases hb : b = a
    · subst hb
      rw [upd_same] at e; cases e
      exact ⟨ha, _, ha⟩
    · rw [upd_ne hb] at e
      exact (I.hok b o e).stay (fun _ _ _ q => q) (fun c q => up q) fun c xs q => up q
end
/-! ### the rule -/
/-- a clause: the classes, the slot of the name, the suite -/
structure HdR where
  cs : List Value
  sl : Option Nat
  ts : Addr → Obj → Value → Option Addr → TS
def putE (sl : Option Nat) (a : Addr) (σ : St) : St := match sl with
  | none => σ
  | some i => σ.set i (some (.ref a))
def clrE (sl : Option Nat) (σ : St) : St := match sl with
  | none => σ
  | some i => σ.set i none
def endH (sl : Option Nat) (a : Addr) (oe : Obj) (D : Ends) : Ends where
  nx := fun σ H => H a = none → D.nx (clrE sl σ) (upd H a (.frz oe (.own a)))
  rt := fun v H => H a = none → D.rt v (upd H a (.frz oe (.own a)))
  bk := fun σ H => H a = none → D.bk (clrE sl σ) (upd H a (.frz oe (.own a)))
  ct := fun σ H => H a = none → D.ct (clrE sl σ) (upd H a (.frz oe (.own a)))
def wTry (K : Frag) (Wout : WX) (D : Ends) : List HdR → WX
  | [] => Wout
  | h :: r => fun cls d σ H => ∃ b, exmAny K cls h.cs = some b ∧ (b = true → ∀ a oe, H a = none → Zc cls d oe → (∃ vs, oe.data = .fields vs) → h.ts a oe cls d (endH h.sl a oe D) (putE h.sl a σ) H) ∧ (b = false → wTry K Wout D r cls d σ H)
inductive HdsR (X : Cx) : List ExceptHandler → List HdR → Prop where
  | nil : HdsR X [] []
  | only {t : Expr} {cs : List Value} {b₀ : Stmt} {suite : List Stmt} {p : Pos} {hds : List ExceptHandler} {l : List HdR} {ts : Addr → Obj → Value → Option Addr → TS} (ht : TestOk X t cs)
      (hsu : ∀ (a : Addr) (oe : Obj) (cls : Value) (d : Option Addr) (pn : List (Addr × Obj)), Zc cls d oe → (∃ vs, oe.data = .fields vs) → PSs (X.suite a ((a, oe) :: pn)) (b₀ :: suite) (ts a oe cls d)) (r : HdsR X hds l) :
      HdsR X (.ExceptHandler (some t) none (b₀ :: suite) p :: hds) (⟨cs, none, ts⟩ :: l)
  | as_ {t : Expr} {cs : List Value} {n : Str} {i : Nat} {b₀ : Stmt} {suite : List Stmt} {p : Pos} {hds : List ExceptHandler} {l : List HdR} {ts : Addr → Obj → Value → Option Addr → TS} (ht : TestOk X t cs) (hi : X.N[i]? = some n) (hln : X.env.kindOf n = some .local)
      (hsu : ∀ (a : Addr) (oe : Obj) (cls : Value) (d : Option Addr) (pn : List (Addr × Obj)), Zc cls d oe → (∃ vs, oe.data = .fields vs) → PSs (X.suite a ((a, oe) :: pn)) (b₀ :: suite) (ts a oe cls d)) (r : HdsR X hds l) :
      HdsR X (.ExceptHandler (some t) (some n) (b₀ :: suite) p :: hds) (⟨cs, some i, ts⟩ :: l)
theorem flyKeep {B h h' : Heap} {l : List Env} {a : Addr} {Z : Obj → Prop} (f : HandSPX.FlyingZ B l a Z h) (k : ∀ b o, h.get? b = some o → h'.get? b = some o) : HandSPX.FlyingZ B l a Z h' := by
  obtain ⟨f1, f2, f3, oe, vs, T, oT, ts, e1, e2, e3, e4, e5, e6, e7, e8⟩ := f
  exact ⟨fun b o e => k b o (f1 b o e), f2, f3.of_keeps fun b o e _ => ⟨o, k b o e, rfl⟩, oe, vs, T, oT, ts, k _ _ e1, e2, e3, e4, e5, e6, k _ _ e7, e8⟩
section
variable {X : Cx} {body : List Stmt} {h₀ : ExceptHandler} {hds : List ExceptHandler} {l : List HdR} {pos : Pos} {tb : WX → TS} {Wout : WX}
theorem ps_tryG (hs : X.stack = X.env :: X.outer) (hf : X.env.frame = some X.env.locals) (hex : X.ex = []) (hN : X.N.Nodup) (tk : Takes X Wout)
    (hb : ∀ (W : WX) (pn : List (Addr × Obj)) (xe : Value → Shared → Prop), Takes (X.tr pn xe) W → PassesOwn (model X.prog X.w) X.A X.env xe → PSs (X.tr pn xe) body (tb W))
    (hh : HdsR X (h₀ :: hds) l) : PS X (.Try body (h₀ :: hds) [] [] pos) (fun D σ H => tb (wTry X.K Wout D l) D σ H) := by
  refine ⟨fun pins s σ H D I hyp => ?_⟩
  have ok := I.ok
  have hfr : X.A.frames = some (X.env :: X.outer) := by rw [ok.frames, hs]
  refine wpAny_Try_except (wpAny_mono ((hb (wTry X.K Wout D l) (X.pn ++ pins) (fun e s₁ => wpAny (model X.prog X.w) X.A (noteFrame e X.env) (fun _ s₂ => wpAny (model X.prog X.w) X.A (setFlight e none)
    (fun _ s₃ => wpAny (model X.prog X.w) X.A (handleBy e X.env (h₀ :: hds)) (SP X pins D) X.xe s₃) X.xe s₂) X.xe s₁) (fun u s' xx => ?_) PassesOwn.looking).run [] s σ H D (I.toTry _) hyp) (fun f s1 hsp => ?_) (fun e s1 he => he))
  · obtain ⟨a, B, sI, pins', σ', H', cls, d, rfl, J', nb, up, sky, na, os, ag, w⟩ := xx
    have J : Inv X pins σ' H' sI := J'.ofTry ok
    refine Sky.land Zc.steady hfr hf (by rw [← hs]; exact sky) fun h3 fl3 up3 => ?_
    have notFr : ∀ {h : Heap}, HandSPX.FlyingZ B (X.env :: X.outer) a (Zc cls d) h → a ∉ frs (X.env :: X.outer) := fun {h} fl hm => by
      obtain ⟨oe, vs, he, _, hd⟩ := fl.there
      obtain ⟨_, o', e', hnf⟩ := fl.2.2.1.mem hm
      rw [he] at e'; cases e'
      exact hnf _ hd
    have nfr := notFr fl3
    have nL : a ≠ X.env.locals := fun z => nfr (List.mem_filterMap.mpr ⟨X.env, List.mem_cons_self, by rw [hf, z]⟩)
    have nF : a ∉ X.fs := fun hm => by
      obtain ⟨e, he, q⟩ := List.mem_filterMap.mp hm
      exact nfr (List.mem_filterMap.mpr ⟨e, List.mem_cons_of_mem _ he, q⟩)
    have aI : sI.heap.get? a = none := by
      cases z : sI.heap.get? a with
      | none => rfl
      | some o =>
        have y := nb a o z (by show a ∉ frs X.stack; rw [hs]; exact nfr)
        rw [fl3.2.1] at y; cases y
    have a0 : X.s_0.heap.get? a = none := by
      cases z : X.s_0.heap.get? a with
      | none => rfl
      | some o =>
        obtain ⟨o', y⟩ := J.base.there a o z (by rw [hex]; exact fun q => nomatch q)
        rw [aI] at y; cases y
    have aP : ∀ p ∈ X.pn ++ pins, p.1 ≠ a := fun p hp z => by
      have y := (J.pin p hp).1
      rw [z, aI] at y; cases y
    have go : ∀ {hds' : List ExceptHandler} {l' : List HdR}, HdsR X hds' l' → ∀ {h : Heap}, HandSPX.FlyingZ B (X.env :: X.outer) a (Zc cls d) h → sI.heap.UpToSlots h → wTry X.K Wout D l' cls d σ' H' →
        wpAny (model X.prog X.w) X.A (handleBy (.ref a) X.env hds') (SP X pins D) X.xe { s' with heap := h } := by
      intro hds' l' hk
      induction hk with
      | nil =>
        intro h fl uph w
        refine wpAny_handleBy_nil ?_
        obtain ⟨_, _, _, oe, vs, T, oT, ts', he, hz, hd, h1, hr⟩ := id fl
        unfold PySem.passOn
        refine wpAny_bind (wpAny_field he hd h1 ?_)
        rw [if_neg (show ¬ ((Value.ref T == Value.none) = true) by simp)]
        have fin : wpAny (model X.prog X.w) X.A (setFlight (.ref a) X.env.frame) (fun _ s4 => wpAny (model X.prog X.w) X.A (throw (.ref a) : Sem Flow) (SP X pins D) X.xe s4) X.xe { s' with heap := h } := by
          rw [hf]
          refine HandSPX.setFlight_upZ fl fun h4 hh4 up4 => wpAny_throw (tk _ _ ?_)
          exact ⟨a, B, sI, pins, σ', H', cls, d, rfl, J, nb, uph.trans up4, .inr (.inr (by rw [hs]; exact hh4)), na, os, ag, w⟩
        first | exact wpAny_bind (wpAny_pure (wpAny_bind fin)) | exact wpAny_bind fin
      | @only t cs b₀ suite p hds2 l2 ts ht hsu r ih =>
        intro h fl uph w
        obtain ⟨b, hb1, hyes, hno⟩ := w
        have J3 : Inv X pins σ' H' { s' with heap := h } := J.landed nb fl.1 uph os ag
        obtain ⟨oe, vs, he, hz, hd⟩ := fl.there
        refine wpAny_handleBy_cons (codeAny_handlers_test (test_run (J3.suite he hd na nL nF) (fun A Q E s k q => wpAny_typeOf_ref (k _ _ he) (by rw [hz.1]; exact q)) ht hb1 fun h' kp => ?_)) (fun z => by cases z)
        have fl' := flyKeep fl kp
        have up' : sI.heap.UpToSlots h' := uph.trans (Heap.UpToSlots.of_keeps kp)
        cases b with
        | false => exact ih fl' up' (hno rfl)
        | true =>
          refine codeAny_handlers_suite (HandSPX.lands_againZ fl' fun h4 fl4 up4 => ?_)
          have J4 : Inv X pins σ' H' { s' with heap := h4 } := J.landed nb fl4.1 (up'.trans up4) os ag
          obtain ⟨oe4, vs4, he4, hz4, hd4⟩ := fl4.there
          refine wpAny_mono ((hsu a oe4 cls d (X.pn ++ pins) hz4 ⟨_, hd4⟩).run [] _ _ H' _ (J4.suite he4 hd4 na nL nF) (hyes rfl a oe4 na hz4 ⟨_, hd4⟩)) (fun f s6 hsp => ?_) (fun _ _ z => False.elim z)
          have tr : ∀ {σ6 : St} {H6 : Hp}, Inv (X.suite a ((a, oe4) :: (X.pn ++ pins))) [] σ6 H6 s6 → H6 a = none ∧ Inv X pins σ6 (upd H6 a (.frz oe4 (.own a))) s6 := fun {σ6 H6} S6 => by
            obtain ⟨p1, p2, _⟩ := S6.pin (a, oe4) (List.mem_append_left _ List.mem_cons_self)
            exact ⟨p2, inv_track (S6.unsuite ok) p1 hd4 p2 nL a0 aP⟩
          cases f with
          | next => obtain ⟨σ6, H6, S6, q6⟩ := hsp; exact ⟨_, _, (tr S6).2, q6 (tr S6).1⟩
          | brk => obtain ⟨σ6, H6, S6, q6⟩ := hsp; exact ⟨_, _, (tr S6).2, q6 (tr S6).1⟩
          | cont => obtain ⟨σ6, H6, S6, q6⟩ := hsp; exact ⟨_, _, (tr S6).2, q6 (tr S6).1⟩
          | ret u => obtain ⟨v6, σ6, H6, S6, r6, q6⟩ := hsp; exact ⟨_, _, _, (tr S6).2, r6, q6 (tr S6).1⟩
      | @as_ t cs n i b₀ suite p hds2 l2 ts ht hi hln hsu r ih =>
        intro h fl uph w
        obtain ⟨b, hb1, hyes, hno⟩ := w
        have J3 : Inv X pins σ' H' { s' with heap := h } := J.landed nb fl.1 uph os ag
        obtain ⟨oe, vs, he, hz, hd⟩ := fl.there
        refine wpAny_handleBy_cons (codeAny_handlers_test (test_run (J3.suite he hd na nL nF) (fun A Q E s k q => wpAny_typeOf_ref (k _ _ he) (by rw [hz.1]; exact q)) ht hb1 fun h' kp => ?_)) (fun z => by cases z)
        have fl' := flyKeep fl kp
        have up' : sI.heap.UpToSlots h' := uph.trans (Heap.UpToSlots.of_keeps kp)
        cases b with
        | false => exact ih fl' up' (hno rfl)
        | true =>
          refine codeAny_handlers_suite_as (HandSPX.lands_againZ fl' fun h4 fl4 up4 => ?_)
          have J4 : Inv X pins σ' H' { s' with heap := h4 } := J.landed nb fl4.1 (up'.trans up4) os ag
          obtain ⟨oe4, vs4, he4, hz4, hd4⟩ := fl4.there
          refine store_ok (X := X.suite a ((a, oe4) :: (X.pn ++ pins))) (v := .ref a) (J4.suite he4 hd4 na nL nF) hN hi (.inl hln) rfl (fun s5 S5 => ?_) (.inr hln)
          refine wpAny_mono ((hsu a oe4 cls d (X.pn ++ pins) hz4 ⟨_, hd4⟩).run [] s5 _ H' _ S5 (hyes rfl a oe4 na hz4 ⟨_, hd4⟩)) (fun f s6 hsp => ?_) (fun _ _ z => False.elim z)
          have tr : ∀ {σ6 : St} {H6 : Hp}, Inv (X.suite a ((a, oe4) :: (X.pn ++ pins))) [] σ6 H6 s6 → H6 a = none ∧ Inv X pins σ6 (upd H6 a (.frz oe4 (.own a))) s6 := fun {σ6 H6} S6 => by
            obtain ⟨p1, p2, _⟩ := S6.pin (a, oe4) (List.mem_append_left _ List.mem_cons_self)
            exact ⟨p2, inv_track (S6.unsuite ok) p1 hd4 p2 nL a0 aP⟩
          have end_ : ∀ {σ6 : St} {H6 : Hp} {Q : Shared → Prop}, Inv (X.suite a ((a, oe4) :: (X.pn ++ pins))) [] σ6 H6 s6 → (∀ s7, Inv X pins (σ6.set i none) (upd H6 a (.frz oe4 (.own a))) s7 → Q s7) →
              wpAny (model X.prog X.w) X.A (do bindName X.env n .none; unbindBehindTheSuite X.env n p) (fun _ s7 => Q s7) X.xe s6 := fun S6 hq => gone_ok (tr S6).2 hN hi hln hq
          cases f with
          | next => obtain ⟨σ6, H6, S6, q6⟩ := hsp; exact end_ S6 fun s7 J7 => ⟨_, _, J7, q6 (tr S6).1⟩
          | brk => obtain ⟨σ6, H6, S6, q6⟩ := hsp; exact end_ S6 fun s7 J7 => ⟨_, _, J7, q6 (tr S6).1⟩
          | cont => obtain ⟨σ6, H6, S6, q6⟩ := hsp; exact end_ S6 fun s7 J7 => ⟨_, _, J7, q6 (tr S6).1⟩
          | ret u => obtain ⟨v6, σ6, H6, S6, r6, q6⟩ := hsp; exact end_ S6 fun s7 J7 => ⟨_, _, _, J7, r6, q6 (tr S6).1⟩
    exact go hh fl3 (up.trans up3) w
  · cases f with
    | next => obtain ⟨σ', H', J', q⟩ := hsp; exact wpAny_execs_nil ⟨σ', H', J'.ofTry ok, q⟩
    | brk => obtain ⟨σ', H', J', q⟩ := hsp; exact ⟨σ', H', J'.ofTry ok, q⟩
    | cont => obtain ⟨σ', H', J', q⟩ := hsp; exact ⟨σ', H', J'.ofTry ok, q⟩
    | ret u => obtain ⟨v, σ', H', J', r, q⟩ := hsp; exact ⟨v, σ', H', J'.ofTry ok, r, q⟩
end

/-! ### what a clause does -/
inductive Act where
  | cst (i : Nat) (p : PV) | fld (i : Nat) (f : Str) | lfl (i : Nat) (f : Str) | slf (i : Nat) | nil (i : Nat) | ret (p : PV) | var (i j : Nat)
structure Hdl where
  cs : List Str
  sl : Option Nat
  act : Act
def excV (x : Xn) : Option PV := match x.fs with
  | [] => some (.ex0 x.c)
  | [(k, p)] => some (.ex1 x.c k p)
  | _ => none
def actR (act : Act) (x : Xn) (ρ : Loc) : Rs Fl := match act with
  | .cst i p => setL i (.v p) ρ
  | .fld i f => match x.fs with
    | [(k, p)] => if k = f then setL i (.v p) ρ else .no
    | _ => .no
  | .lfl i f => match x.fs with
    | [(k, p)] => if k = f then setL i (.l [p]) ρ else .no
    | _ => .no
  | .slf i => match excV x with
    | some v => setL i (.v v) ρ
    | none => .no
  | .nil i => setL i (.l []) ρ
  | .ret p => .ok (.rt (.v p)) ρ
  | .var i j => match ρ[j]? with
    | some (some (.v p)) => setL i (.v p) ρ
    | _ => .no
def clrL (sl : Option Nat) (ρ : Loc) : Loc := match sl with
  | none => ρ
  | some k => ρ.set k none
def slB (sl : Option Nat) (ρ : Loc) : Bool := match sl with
  | none => true
  | some k => decide (k < ρ.length)
def handR : List Hdl → Xn → Loc → Rs Fl
  | [], x, ρ => .ex x ρ
  | h :: r, x, ρ => if h.cs.contains x.c then (if slB h.sl ρ then actR h.act x (clrL h.sl ρ) else .no) else handR r x ρ
def tryS (known : List Str) (hs : List Hdl) (c : Loc → Rs Fl) : Loc → Rs Fl := fun ρ => match c ρ with
  | .ex x ρ' => if known.contains x.c then handR hs x ρ' else .no
  | r => r
section
variable {mg : Str → Option Value} {W : WX} {K : List Nat} {H H' H'' : Hp} {L L' L'' Lr : List Addr} {ρ ρ' : Loc} {σ σ' σ'' : St} {D : Ends} {sl : Option Nat} {a : Addr} {oe : Obj}
theorem RL.reslot {k : Nat} {y : Option V} (r : RL mg H ρ σ L) (h : ρ[k]? = some none) : RL mg H ρ (σ.set k y) L := by
  induction r generalizing k with
  | nil => simp at h
  | no r ih =>
    cases k with
    | zero => exact .no r
    | succ k => exact .no (ih (by simpa using h))
  | cons rs r n ih =>
    cases k with
    | zero => simp at h
    | succ k => exact .cons rs (ih (by simpa using h)) n
/-- the slot of the clause's name: there, and not kept -/
def SlOk (K : List Nat) (n : Nat) : Option Nat → Prop
  | none => True
  | some k => k < n ∧ k ∉ K
theorem clr_put (r : RL mg H ρ σ L) (h : SlOk K ρ.length sl) : ∃ Lr, RL mg H (clrL sl ρ) (putE sl a σ) Lr ∧ ∀ a ∈ Lr, a ∈ L := by
  cases sl with
  | none => exact ⟨L, r, fun _ h => h⟩
  | some k =>
    obtain ⟨Lr, h1, h2⟩ := r.forget k
    exact ⟨Lr, h1.reslot (by rw [List.getElem?_set_self h.1]), h2⟩
theorem RL.clr (r : RL mg H ρ σ L) (h : ∀ k, sl = some k → ρ[k]? = some none) : RL mg H ρ (clrE sl σ) L := by
  cases sl with
  | none => exact r
  | some k => exact r.reslot (h k rfl)
theorem kp_put (h : SlOk K ρ.length sl) : Kp K σ (putE sl a σ) := by
  cases sl with
  | none => exact .refl
  | some k => exact Kp.refl.set h.2
theorem kp_clr (h : SlOk K ρ.length sl) (k : Kp K σ σ') : Kp K σ (clrE sl σ') := by
  cases sl with
  | none => exact k
  | some i => exact k.set h.2
theorem Aft.wide (A : Aft mg true H Lr ρ σ H' L') (h : ∀ a ∈ Lr, a ∈ L) : Aft mg true H L ρ σ H' L' :=
  ⟨A.rl, fun b o e c => A.st b o e (by
    rcases c with c | c | c
    · exact .inl c
    · exact .inr (.inl fun z => c (h b z))
    · cases c), fun b hb => (A.sb b hb).imp (h b) id⟩
/-- the end of a suite that has stored -/
theorem po_end {r : Rs Fl} (hsl : SlOk K ρ'.length sl) (aft : Aft mg true H L ρ' σ' H' L') (kp : Kp K σ σ') (hr : r = .no ∨ ∃ ρ2, r = .ok .nx ρ2 ∧ ∀ k, sl = some k → ρ2[k]? = some none) (po : PoS mg W K H L σ D r) (hLr : ∀ a ∈ Lr, a ∈ L') :
    PoS mg WF K H' Lr (putE sl a σ') (endH sl a oe D) r := by
  rcases hr with rfl | ⟨ρ2, rfl, h2⟩
  · exact po
  · intro σ2 H2 L2 a2 k2 na
    refine po (clrE sl σ2) _ L2 ?_ (kp.trans (kp_clr hsl ((kp_put hsl).trans k2)))
    have A := aft.trans (a2.wide hLr)
    exact (Aft.alloc ⟨A.rl.clr h2, A.st, A.sb⟩ na)
end
/-- a suite that keeps what its clause does -/
def SuOk (X : Cx) (W : WX) (K : List Nat) (sl : Option Nat) (st : Stmt) (act : Act) : Prop :=
  ∀ (a : Addr) (oe : Obj) (pn : List (Addr × Obj)) (x : Xn) (ρ' : Loc) (σ σ' : St) (H H' : Hp) (L L' : List Addr) (D : Ends) (cls : Value) (d : Option Addr), RX X.mg H' x cls d → Aft X.mg true H L ρ' σ' H' L' → Kp K σ σ' → SlOk K ρ'.length sl → H' a = none → Zc cls d oe →
    (∃ vs, oe.data = .fields vs) → PoS X.mg W K H L σ D (actR act x (clrL sl ρ')) → ∃ t, PSs (X.suite a ((a, oe) :: pn)) [st] t ∧ t (endH sl a oe D) (putE sl a σ') H'
/-- what a store needs -/
structure StoreOk (X : Cx) (K : List Nat) (sl : Option Nat) (y : Str) (i : Nat) : Prop where
  nd : X.N.Nodup
  at_ : X.N[i]? = some y
  lc : L2.Loc X.env.scope y
  fn : X.fn y = true ∨ X.env.scope.names.lookup y = some .local
  nk : i ∉ K
  ne : ∀ k, sl = some k → k ≠ i
section
variable {X : Cx} {W : WX} {K : List Nat} {sl : Option Nat} {y : Str} {i : Nat} {p pos : Pos} {e : Expr}
theorem setL_end {ρ' : Loc} {s : SV} (hsl : SlOk K ρ'.length sl) (S : StoreOk X K sl y i) : setL i s (clrL sl ρ') = .no ∨ ∃ ρ2, setL i s (clrL sl ρ') = .ok .nx ρ2 ∧ ∀ k, sl = some k → ρ2[k]? = some none := by
  unfold setL
  split
  · refine .inr ⟨_, rfl, fun k hk => ?_⟩
    subst hk
    rw [List.getElem?_set_ne (Ne.symm (S.ne k rfl))]
    exact List.getElem?_set_self hsl.1
  · exact .inl rfl
/-- .. by what the evaluator says of it -/
theorem su_of {c : Loc → Rs SV} {act : Act} (S : StoreOk X K sl y i) (hn : isComp e = false) (g : ∀ (a : Addr) (pn : List (Addr × Obj)), GV true (X.suite a pn) WF e c) (h : ∀ x ρ, actR act x ρ = .no ∨ ∃ s, actR act x ρ = setL i s ρ ∧ asgS i c ρ = setL i s ρ) : SuOk X W K sl (.Assign [.Name y p] e pos) act := by
  intro a oe pn x ρ' σ σ' H H' L L' D cls d rx aft kp hsl na hz hf po
  obtain ⟨t, ps, dd⟩ := gS_asg (X := X.suite a ((a, oe) :: pn)) (W := WF) (K := K) (p := p) (pos := pos) S.nd S.at_ S.lc S.fn hn S.nk (g a _)
  obtain ⟨Lr, rl, hLr⟩ := clr_put (a := a) aft.rl hsl
  refine ⟨t, pss_one ps, dd _ _ _ Lr _ rl ?_⟩
  rcases h x (clrL sl ρ') with z | ⟨s, z, z'⟩
  · rw [z] at po; exact po.elim
  · rw [z] at po
    rw [z']
    exact po_end hsl aft kp (setL_end hsl S) po hLr
theorem su_cst {p' : PV} (S : StoreOk X K sl y i) (hn : isComp e = false) (g : ∀ (a : Addr) (pn : List (Addr × Obj)), GO true (X.suite a pn) WF e (konst p')) : SuOk X W K sl (.Assign [.Name y p] e pos) (.cst i p') :=
  su_of S hn (fun a pn => gV_keep (g a pn)) (fun x ρ => .inr ⟨_, rfl, rfl⟩)
theorem su_nil {lp : Pos} (S : StoreOk X K sl y i) : SuOk X W K sl (.Assign [.Name y p] (.List [] lp) pos) (.nil i) :=
  su_of S rfl (fun a pn => gV_keep (gO_lst0 (m := true))) (fun x ρ => .inr ⟨_, rfl, rfl⟩)
theorem su_var {j : Nat} {z : Str} {zp : Pos} (S : StoreOk X K sl y i) (hj : X.N[j]? = some z) (hv : Vis X.env.scope z) (hd : (z == ("__debug__" : Str)) = false) (hcd : (z == ("__classdict__" : Str)) = false) : SuOk X W K sl (.Assign [.Name y p] (.Name z zp) pos) (.var i j) :=
  su_of S rfl (fun a pn => gV_keep (gO_var (m := true) (X := X.suite a pn) hj hv hd hcd)) (fun x ρ => by
    unfold actR
    dsimp only
    split
    · rename_i p' h
      refine .inr ⟨_, rfl, ?_⟩
      unfold asgS keepS varO bindR
      dsimp only
      rw [h]; dsimp only; rw [h]
    · exact .inl rfl)
/-! ### a field of the exception -/
theorem xf_core {a C dd : Addr} {oe od : Obj} {vs : Array Value} {f : Str} {v : V} {pins : List (Addr × Obj)} {σ : St} {H : Hp} {s : Shared} {Q : VK} {A : Around} {E : Value → Shared → Prop} (T : XfC X.K C) (hno : findIn X.K (.ref C) f = some none) (I : Inv X pins σ H s)
    (ha : s.heap.get? a = some oe) (hc : oe.cls = .ref C) (hdi : oe.dict = some dd) (hd : oe.data = .fields vs) (hx : H dd = some (.frz od (.xd [(f, v)]))) (q : Q v H) : wpAny (model X.prog X.w) A (getAttr (.ref a) f true) (EP X pins σ Q) E s := by
  obtain ⟨_, mA, hns, hr⟩ := I.hok dd _ hx
  obtain ⟨od', ho, hl⟩ := lookIn_ns hns
  obtain ⟨u, hu, ru⟩ := RelO.some_of (v := v) (o := mA f) (by have := hr f; rw [List.lookup_cons, beq_self_eq_true] at this; exact this)
  have J : InstAt s.heap a oe C (some od') := ⟨ha, hc, by unfold notCls; rw [hd] <;> rfl, by rw [hdi]; exact ho⟩
  exact HandSPX.exc_get I.kIn J T.ga T.gg T.exC (findObj_own T.hdC hno rfl (by rw [hl, hu])) (handed_of ru) ⟨v, H, I.tok _, ru, q⟩
/-- the field as the clause's suite reads it -/
def tFd (k : Nat) (a : Addr) (cls : Value) (d : Option Addr) (C : Addr) (f : Str) : TE := fun σ H Q => σ[k]? = some (some (.ref a)) ∧ cls = .ref C ∧ ∃ dd od v, d = some dd ∧ H dd = some (.frz od (.xd [(f, v)])) ∧ Q v H
theorem pe_fd {a C : Addr} {oe : Obj} {cls : Value} {d : Option Addr} {pn : List (Addr × Obj)} {n f : Str} {k : Nat} {np fp : Pos} (T : XfC X.K C) (hno : findIn X.K (.ref C) f = some none) (hz : Zc cls d oe) (hf : ∃ vs, oe.data = .fields vs) (hk : X.N[k]? = some n) (hv : Vis X.env.scope n) (hd : (n == ("__debug__" : Str)) = false) (hcd : (n == ("__classdict__" : Str)) = false) :
    PE (X.suite a ((a, oe) :: pn)) (.Attribute (.Name n np) f fp) (tFd k a cls d C f) := by
  refine ⟨fun pins s σ H Q I h => ?_⟩
  obtain ⟨h1, rfl, dd, od, v, rfl, hx, q⟩ := h
  have step := (pe_var (X := X.suite a ((a, oe) :: pn)) (pos := np) hk hv hd hcd).run pins s σ H (fun v' H' => v' = .ref a ∧ H' = H) I ⟨.ref a, h1, rfl, rfl⟩
  refine attr_of rfl (wpAny_mono step (fun u s1 hh => ?_) fun _ _ z => z)
  obtain ⟨x, H1, I1, rx, rfl, rfl⟩ := hh
  obtain rfl : u = Value.ref a := rx
  obtain ⟨vs, hvs⟩ := hf
  exact xf_core (X := X.suite a ((a, oe) :: pn)) T hno I1 (I1.pin (a, oe) (List.mem_append_left _ List.mem_cons_self)).1 hz.1 hz.2 hvs hx q
/-- what the module says of the classes of all errors: by their names -/
structure ErrsK (K : Frag) (mg : Str → Option Value) (known : List Str) : Prop where
  cls : ∀ x ∈ known, ∃ C, mg x = some (.ref C) ∧ XfC K C
  fld : ∀ x ∈ known, ∀ C, mg x = some (.ref C) → ∀ f ∈ (["part", "line", "most"] : List Str), findIn K (.ref C) f = some none
  sub : ∀ x ∈ known, ∀ y ∈ known, ∀ C D, mg x = some (.ref C) → mg y = some (.ref D) → exmOne K (.ref C) (.ref D) = some (x == y)
abbrev Errs (X : Cx) (known : List Str) : Prop := ErrsK X.K X.mg known
/-- .. as it is looked up -/
def errsB (K : Frag) (known : List Str) : Bool := known.all fun x => match nsIn K mainGlobals x with
  | some (some (.ref C)) => xfB K C && ((["part", "line", "most"] : List Str).all fun f => decide (findIn K (.ref C) f = some none)) && known.all fun y => match nsIn K mainGlobals y with
    | some (some (.ref D)) => decide (exmOne K (.ref C) (.ref D) = some (x == y))
    | _ => false
  | _ => false
theorem errsB_ok {K : Frag} {mg : Str → Option Value} {h : Heap} {known : List Str} (X : K.In h) (G : h.Ns mainGlobals mg) (hb : errsB K known = true) : ErrsK K mg known := by
  have key : ∀ x ∈ known, ∃ C, nsIn K mainGlobals x = some (some (.ref C)) ∧ xfB K C = true ∧ (∀ f ∈ (["part", "line", "most"] : List Str), findIn K (.ref C) f = some none) ∧ ∀ y ∈ known, ∃ D, nsIn K mainGlobals y = some (some (.ref D)) ∧ exmOne K (.ref C) (.ref D) = some (x == y) := fun x hx => by
    have h1 := List.all_eq_true.mp hb x hx
    split at h1
    · rename_i C hC
      rw [Bool.and_eq_true, Bool.and_eq_true] at h1
      refine ⟨C, hC, h1.1.1, fun f hf => of_decide_eq_true (List.all_eq_true.mp h1.1.2 f hf), fun y hy => ?_⟩
      have h2 := List.all_eq_true.mp h1.2 y hy
      split at h2
      · rename_i D hD; exact ⟨D, hD, of_decide_eq_true h2⟩
      · cases h2
    · cases h1
  refine ⟨fun x hx => ?_, fun x hx C hm f hf => ?_, fun x hx y hy C D hm hm' => ?_⟩
  · obtain ⟨C, h1, h2, _⟩ := key x hx
    exact ⟨C, mg_of X G h1, xfB_ok h2⟩
  · obtain ⟨C', h1, _, h3, _⟩ := key x hx
    cases hm.symm.trans (mg_of X G h1)
    exact h3 f hf
  · obtain ⟨C', h1, _, _, h4⟩ := key x hx
    cases hm.symm.trans (mg_of X G h1)
    obtain ⟨D', h5, h6⟩ := h4 y hy
    cases hm'.symm.trans (mg_of X G h5)
    exact h6
theorem putE_at {k : Nat} {a : Addr} {σ : St} (h : k < σ.length) : (putE (some k) a σ)[k]? = some (some (.ref a)) := List.getElem?_set_self h
end
section
variable {X : Cx} {W : WX} {K : List Nat} {y n : Str} {i k : Nat} {p pos np fp : Pos}
/-- suites that read a field: of errors that are known -/
def SuOn (X : Cx) (known : List Str) (W : WX) (K : List Nat) (sl : Option Nat) (st : Stmt) (act : Act) : Prop :=
  ∀ (a : Addr) (oe : Obj) (pn : List (Addr × Obj)) (x : Xn) (ρ' : Loc) (σ σ' : St) (H H' : Hp) (L L' : List Addr) (D : Ends) (cls : Value) (d : Option Addr), x.c ∈ known → RX X.mg H' x cls d → Aft X.mg true H L ρ' σ' H' L' → Kp K σ σ' → SlOk K ρ'.length sl → H' a = none → Zc cls d oe →
    (∃ vs, oe.data = .fields vs) → PoS X.mg W K H L σ D (actR act x (clrL sl ρ')) → ∃ t, PSs (X.suite a ((a, oe) :: pn)) [st] t ∧ t (endH sl a oe D) (putE sl a σ') H'
theorem SuOk.on {known : List Str} {sl : Option Nat} {st : Stmt} {act : Act} (h : SuOk X W K sl st act) : SuOn X known W K sl st act := fun a oe pn x ρ' σ σ' H H' L L' D cls d _ => h a oe pn x ρ' σ σ' H H' L L' D cls d
theorem su_fld {known : List Str} {f : Str} (E : Errs X known) (hff : f ∈ (["part", "line", "most"] : List Str)) (S : StoreOk X K (some k) y i) (hk : X.N[k]? = some n) (hv : Vis X.env.scope n) (hd : (n == ("__debug__" : Str)) = false) (hcd : (n == ("__classdict__" : Str)) = false) :
    SuOn X known W K (some k) (.Assign [.Name y p] (.Attribute (.Name n np) f fp) pos) (.fld i f) := by
  intro a oe pn x ρ' σ σ' H H' L L' D cls d hx rx aft kp hsl na hz hf po
  obtain ⟨C, hm, rfl, hfs⟩ := rx
  obtain ⟨C', hm', T⟩ := E.cls x.c hx
  cases hm.symm.trans hm'
  unfold actR at po
  dsimp only at po
  rcases hfs with ⟨h0, _⟩ | ⟨k', p', v, dd, od, h1, h2, h3, h4⟩
  · rw [h0] at po; exact po.elim
  · rw [h1] at po
    dsimp only at po
    split at po
    · rename_i hkf
      subst hkf
      refine ⟨_, pss_one (ps_set (X := X.suite a ((a, oe) :: pn)) S.nd S.at_ S.lc (pe_fd T (E.fld x.c hx C hm _ hff) hz hf hk hv hd hcd) rfl S.fn), ?_⟩
      refine ⟨putE_at (by rw [aft.rl.length]; exact hsl.1), rfl, dd, od, v, h2, h3, ?_⟩
      obtain ⟨Lr, rl, hLr⟩ := clr_put (a := a) aft.rl hsl
      have pe := po_end (a := a) (oe := oe) hsl aft kp (setL_end hsl S) po hLr
      exact po_set (K := K) S.nk (.refl rl) .refl (.v h4) (fun _ h => nomatch h) (fun _ h => nomatch h) pe
    · exact po.elim
theorem su_lfl {known : List Str} {f : Str} {lp : Pos} (E : Errs X known) (hff : f ∈ (["part", "line", "most"] : List Str)) (S : StoreOk X K (some k) y i) (hk : X.N[k]? = some n) (hv : Vis X.env.scope n) (hd : (n == ("__debug__" : Str)) = false) (hcd : (n == ("__classdict__" : Str)) = false) :
    SuOn X known W K (some k) (.Assign [.Name y p] (.List [.Attribute (.Name n np) f fp] lp) pos) (.lfl i f) := by
  intro a oe pn x ρ' σ σ' H H' L L' D cls d hx rx aft kp hsl na hz hf po
  obtain ⟨C, hm, rfl, hfs⟩ := rx
  obtain ⟨C', hm', T⟩ := E.cls x.c hx
  cases hm.symm.trans hm'
  unfold actR at po
  dsimp only at po
  rcases hfs with ⟨h0, _⟩ | ⟨k', p', v, dd, od, h1, h2, h3, h4⟩
  · rw [h0] at po; exact po.elim
  · rw [h1] at po
    dsimp only at po
    split at po
    · rename_i hkf
      subst hkf
      refine ⟨_, pss_one (ps_set (X := X.suite a ((a, oe) :: pn)) S.nd S.at_ S.lc (pe_lst (pa_cons (pe_fd T (E.fld x.c hx C hm _ hff) hz hf hk hv hd hcd) pa_nil rfl)) rfl S.fn), ?_⟩
      refine ⟨putE_at (by rw [aft.rl.length]; exact hsl.1), rfl, dd, od, v, h2, h3, by simp [sizeLine_eq], fun q hq => ?_⟩
      obtain ⟨Lr, rl, hLr⟩ := clr_put (a := a) aft.rl hsl
      have pe := po_end (a := a) (oe := oe) hsl aft kp (setL_end hsl S) po hLr
      have rv : RVs X.mg (upd H' q (.lst [v])) [p'] [v] := ⟨v, [], rfl, h4.stay (Stp.alloc (m := true) (L := Lr) hq).fz, rfl⟩
      refine po_set (K := K) S.nk (Aft.alloc (.refl rl) hq) .refl (.l upd_same rv) (fun b hb hb' => ?_) (fun b hb => ?_) pe
      · rw [List.mem_singleton.mp hb] at hb'
        obtain ⟨o, e, _⟩ := rl.there q hb'
        rw [hq] at e; cases e
      · rw [List.mem_singleton.mp hb]; exact .inr hq
    · exact po.elim
theorem su_slf {known : List Str} (S : StoreOk X K (some k) y i) (hk : X.N[k]? = some n) (hv : Vis X.env.scope n) (hd : (n == ("__debug__" : Str)) = false) (hcd : (n == ("__classdict__" : Str)) = false) :
    SuOn X known W K (some k) (.Assign [.Name y p] (.Name n np) pos) (.slf i) := by
  intro a oe pn x ρ' σ σ' H H' L L' D cls d hx rx aft kp hsl na hz hf po
  refine ⟨_, pss_one (ps_set (X := X.suite a ((a, oe) :: pn)) S.nd S.at_ S.lc (pe_var (X := X.suite a ((a, oe) :: pn)) hk hv hd hcd) rfl S.fn), ?_⟩
  refine ⟨.ref a, putE_at (by rw [aft.rl.length]; exact hsl.1), fun _ => ?_⟩
  obtain ⟨Lr, rl, hLr⟩ := clr_put (a := a) aft.rl hsl
  have key : ∀ {v : PV}, PoS X.mg W K H L σ D (setL i (.v v) (clrL (some k) ρ')) → RV X.mg (upd H' a (.frz oe (.own a))) v (.ref a) → D.nx (clrE (some k) ((putE (some k) a σ').set i (some (.ref a)))) (upd H' a (.frz oe (.own a))) := fun {v} po rv => by
    rcases setL_end (s := .v v) hsl S with z | ⟨ρ2, z, h2⟩
    · rw [z] at po; exact po.elim
    · have A1 : Aft X.mg true H L (clrL (some k) ρ') (putE (some k) a σ') (upd H' a (.frz oe (.own a))) Lr := (aft.trans (Aft.wide (.refl rl) hLr)).alloc na
      have zz := z
      unfold setL at z
      split at z
      · rename_i hi
        cases z
        obtain ⟨L3, r3, s3⟩ := A1.rl.set (s := .v v) (x := .ref a) (Ls := []) hi (.v rv) (fun _ h => nomatch h)
        rw [zz] at po
        refine po _ _ L3 ⟨r3.clr h2, A1.st, fun b hb => ?_⟩ (kp_clr hsl ((kp.trans (kp_put hsl)).set S.nk))
        rcases s3 b hb with h | h
        · cases h
        · exact A1.sb b h
      · cases z
  obtain ⟨C, hm, rfl, hfs⟩ := rx
  obtain ⟨vs, hvs⟩ := hf
  unfold actR excV at po
  dsimp only at po
  rcases hfs with ⟨h0, rfl⟩ | ⟨k', p', v, dd, od, h1, rfl, h3, h4⟩
  · rw [h0] at po
    exact key po ⟨a, C, oe, rfl, hm, upd_same, hz.1, hz.2, vs, hvs⟩
  · rw [h1] at po
    have st := (Stp.alloc (m := true) (L := L) (o := .frz oe (.own a)) na)
    exact key po ⟨a, C, oe, dd, od, v, rfl, hm, upd_same, hz.1, hz.2, ⟨vs, hvs⟩, st _ _ h3 (.inl trivial), h4.stay st.fz⟩
theorem su_ret {sl : Option Nat} {e : Expr} {p' : PV} {x' : V} (g : ∀ (a : Addr) (pn : List (Addr × Obj)), PE (X.suite a pn) e (tC x')) (hr : ∀ H, RV X.mg H p' x') : SuOk X W K sl (.Return (some e) pos) (.ret p') := by
  intro a oe pn x ρ' σ σ' H H' L L' D cls d rx aft kp hsl na hz hf po
  refine ⟨_, pss_one (ps_ret (g a _)), fun na' => ?_⟩
  obtain ⟨Lr, rl, hLr⟩ := clr_put (a := a) aft.rl hsl
  have A1 : Aft X.mg true H L (clrL sl ρ') (putE sl a σ') (upd H' a (.frz oe (.own a))) Lr := (aft.trans (Aft.wide (.refl rl) hLr)).alloc na
  exact po x' _ _ [] Lr (.v (hr _)) A1 (fun _ h => nomatch h) (fun _ h => nomatch h) (kp.trans (kp_put hsl))
end

/-! ### try -/
inductive NamesIn (X : Cx) (known : List Str) : List Expr → List Str → Prop where
  | nil : NamesIn X known [] []
  | cons {y : Str} {p : Pos} {es : List Expr} {ys : List Str} : y ∈ known → Gl X y → (y == ("__debug__" : Str)) = false → NamesIn X known es ys → NamesIn X known (.Name y p :: es) (y :: ys)
inductive TestIn (X : Cx) (known : List Str) : Expr → List Str → Prop where
  | one {y : Str} {p : Pos} : y ∈ known → Gl X y → (y == ("__debug__" : Str)) = false → TestIn X known (.Name y p) [y]
  | many {es : List Expr} {ys : List Str} {k : Nat} {p : Pos} : NamesIn X known es ys → ys.length ≤ 1000 → TestIn X known (.Tuple es k p) ys
/-- the classes of some names -/
inductive ClsOf (X : Cx) : List Str → List Value → Prop where
  | nil : ClsOf X [] []
  | cons {y : Str} {C : Addr} {ys : List Str} {cs : List Value} : X.mg y = some (.ref C) → ClsOf X ys cs → ClsOf X (y :: ys) (.ref C :: cs)
section
variable {X : Cx} {known : List Str}
theorem ClsOf.len {ys : List Str} {cs : List Value} (h : ClsOf X ys cs) : cs.length = ys.length := by
  induction h with
  | nil => rfl
  | cons _ _ ih => rw [List.length_cons, List.length_cons, ih]
theorem NamesIn.ok (E : Errs X known) {es : List Expr} {ys : List Str} (h : NamesIn X known es ys) : ∃ cs, NamesAll X es cs ∧ ClsOf X ys cs ∧ ∀ y ∈ ys, y ∈ known := by
  induction h with
  | nil => exact ⟨[], .nil, .nil, fun _ h => nomatch h⟩
  | @cons y p es ys h1 h2 h3 _ ih =>
    obtain ⟨cs, a, b, c⟩ := ih
    obtain ⟨C, hm, _⟩ := E.cls y h1
    exact ⟨_, .cons ⟨h2, h3, .inl hm⟩ a, .cons hm b, fun z hz => (List.mem_cons.mp hz).elim (fun q => q ▸ h1) (c z)⟩
theorem TestIn.ok (E : Errs X known) {t : Expr} {ys : List Str} (h : TestIn X known t ys) : ∃ cs, TestOk X t cs ∧ ClsOf X ys cs ∧ ∀ y ∈ ys, y ∈ known := by
  cases h with
  | one h1 h2 h3 =>
    obtain ⟨C, hm, _⟩ := E.cls _ h1
    exact ⟨_, .one ⟨h2, h3, .inl hm⟩, .cons hm .nil, fun z hz => by rw [List.mem_singleton.mp hz]; exact h1⟩
  | many h hl =>
    obtain ⟨cs, a, b, c⟩ := h.ok E
    exact ⟨cs, .many a (by rw [b.len]; exact hl), b, c⟩
theorem ClsOf.any (E : Errs X known) {x : Str} {C : Addr} (hx : x ∈ known) (hm : X.mg x = some (.ref C)) {ys : List Str} {cs : List Value} (h : ClsOf X ys cs) (hy : ∀ y ∈ ys, y ∈ known) : exmAny X.K (.ref C) cs = some (ys.contains x) := by
  induction h with
  | nil => rfl
  | @cons y D ys cs h1 _ ih =>
    unfold exmAny
    rw [E.sub x hx y (hy y List.mem_cons_self) C D hm h1, ih fun z hz => hy z (List.mem_cons_of_mem _ hz)]
    rfl
end
inductive HdlsOk (X : Cx) (known : List Str) (W : WX) (K : List Nat) : List ExceptHandler → List Hdl → Prop where
  | nil : HdlsOk X known W K [] []
  | only {t : Expr} {ys : List Str} {st : Stmt} {p : Pos} {act : Act} {hds : List ExceptHandler} {hs : List Hdl} : TestIn X known t ys → SuOn X known W K none st act → HdlsOk X known W K hds hs → HdlsOk X known W K (.ExceptHandler (some t) none [st] p :: hds) (⟨ys, none, act⟩ :: hs)
  | as_ {t : Expr} {ys : List Str} {st : Stmt} {p : Pos} {act : Act} {n : Str} {k : Nat} {hds : List ExceptHandler} {hs : List Hdl} : TestIn X known t ys → X.N[k]? = some n → X.env.kindOf n = some .local → k ∉ K → SuOn X known W K (some k) st act → HdlsOk X known W K hds hs → HdlsOk X known W K (.ExceptHandler (some t) (some n) [st] p :: hds) (⟨ys, some k, act⟩ :: hs)
section
variable {X : Cx} {known : List Str} {W : WX} {K : List Nat}
/-- a suite, whatever rule is taken for it -/
def tsAny (X : Cx) (suite : List Stmt) (a : Addr) (oe : Obj) (cls : Value) (d : Option Addr) : TS := fun D σ H => ∀ pn : List (Addr × Obj), ∃ t, PSs (X.suite a ((a, oe) :: pn)) suite t ∧ t D σ H
theorem tsAny_ok {suite : List Stmt} {a : Addr} {oe : Obj} {cls : Value} {d : Option Addr} {pn : List (Addr × Obj)} : PSs (X.suite a ((a, oe) :: pn)) suite (tsAny X suite a oe cls d) :=
  ⟨fun pins s σ H D I h => let ⟨_, p, q⟩ := h pn; p.run pins s σ H D I q⟩
theorem slOk_of {sl : Option Nat} {ρ : Loc} (h : slB sl ρ = true) (hk : ∀ k, sl = some k → k ∉ K) : SlOk K ρ.length sl := by
  cases sl with
  | none => trivial
  | some k => exact ⟨of_decide_eq_true h, hk k rfl⟩
theorem HdlsOk.rules (E : Errs X known) {hds : List ExceptHandler} {hs : List Hdl} (h : HdlsOk X known W K hds hs) :
    ∃ l, HdsR X hds l ∧ ∀ (x : Xn) (ρ' : Loc) (σ σ' : St) (H H' : Hp) (L L' : List Addr) (D : Ends) (cls : Value) (d : Option Addr), x.c ∈ known → RX X.mg H' x cls d → Aft X.mg true H L ρ' σ' H' L' → Kp K σ σ' → PoS X.mg W K H L σ D (handR hs x ρ') → wTry X.K W D l cls d σ' H' := by
  induction h with
  | nil => exact ⟨[], .nil, fun x ρ' σ σ' H H' L L' D cls d hx rx aft kp po => po cls d σ' H' L' rx aft kp⟩
  | @only t ys st p act hds hs ht su _ ih =>
    obtain ⟨l, a, b⟩ := ih
    obtain ⟨cs, c1, c2, c3⟩ := ht.ok E
    refine ⟨_, .only (ts := tsAny X [st]) c1 (fun a oe cls d pn _ _ => tsAny_ok) a, fun x ρ' σ σ' H H' L L' D cls d hx rx aft kp po => ?_⟩
    obtain ⟨C, hm, rfl, hfs⟩ := id rx
    refine ⟨_, c2.any E hx hm c3, fun hb a oe na hz hf pn => ?_, fun hb => ?_⟩
    · unfold handR at po
      dsimp only at po
      rw [if_pos hb] at po
      split at po
      · rename_i hs
        exact su a oe pn x ρ' σ σ' H H' L L' D _ d hx rx aft kp (slOk_of hs fun k z => nomatch z) na hz hf po
      · exact po.elim
    · unfold handR at po
      rw [if_neg (show ¬ ys.contains x.c = true by rw [hb]; exact Bool.false_ne_true)] at po
      exact b x ρ' σ σ' H H' L L' D _ d hx rx aft kp po
  | @as_ t ys st p act n k hds hs ht hk hln hkK su _ ih =>
    obtain ⟨l, a, b⟩ := ih
    obtain ⟨cs, c1, c2, c3⟩ := ht.ok E
    refine ⟨_, .as_ (ts := tsAny X [st]) c1 hk hln (fun a oe cls d pn _ _ => tsAny_ok) a, fun x ρ' σ σ' H H' L L' D cls d hx rx aft kp po => ?_⟩
    obtain ⟨C, hm, rfl, hfs⟩ := id rx
    refine ⟨_, c2.any E hx hm c3, fun hb a oe na hz hf pn => ?_, fun hb => ?_⟩
    · unfold handR at po
      dsimp only at po
      rw [if_pos hb] at po
      split at po
      · rename_i hs
        exact su a oe pn x ρ' σ σ' H H' L L' D _ d hx rx aft kp (slOk_of hs fun k' z => by cases z; exact hkK) na hz hf po
      · exact po.elim
    · unfold handR at po
      rw [if_neg (show ¬ ys.contains x.c = true by rw [hb]; exact Bool.false_ne_true)] at po
      exact b x ρ' σ σ' H H' L L' D _ d hx rx aft kp po
theorem gS_try {body : List Stmt} {h₀ : ExceptHandler} {hds : List ExceptHandler} {hs : List Hdl} {c : Loc → Rs Fl} {pos : Pos} (hst : X.stack = X.env :: X.outer) (hf : X.env.frame = some X.env.locals) (hex : X.ex = []) (hN : X.N.Nodup) (tk : Takes X W) (E : Errs X known)
    (hb : ∀ (W' : WX) (pn : List (Addr × Obj)) (xe : Value → Shared → Prop), Takes (X.tr pn xe) W' → PassesOwn (model X.prog X.w) X.A X.env xe → GSs (X.tr pn xe) W' K body c) (hh : HdlsOk X known W K (h₀ :: hds) hs) :
    GS X W K (.Try body (h₀ :: hds) [] [] pos) (tryS known hs c) := by
  obtain ⟨l, a, b⟩ := hh.rules E
  refine ⟨_, ps_tryG (tb := fun W' D σ H => ∀ (pn : List (Addr × Obj)) (xe : Value → Shared → Prop), Takes (X.tr pn xe) W' → PassesOwn (model X.prog X.w) X.A X.env xe → ∃ t, PSs (X.tr pn xe) body t ∧ t D σ H) hst hf hex hN tk (fun W' pn xe h1 h2 => ⟨fun pins s σ H D I h => let ⟨_, p, q⟩ := h pn xe h1 h2; p.run pins s σ H D I q⟩) a, fun ρ σ H L D rl po pn xe h1 h2 => ?_⟩
  obtain ⟨t, p, g⟩ := hb _ pn xe h1 h2
  refine ⟨t, p, g ρ σ H L D rl ?_⟩
  unfold tryS at po
  cases hc : c ρ with
  | no => rw [hc] at po; exact po
  | ok f ρ1 =>
    rw [hc] at po
    cases f with
    | nx => exact po
    | bk => exact po
    | ct => exact po
    | rt s => exact po
  | ex x ρ1 =>
    rw [hc] at po
    dsimp only at po
    split at po
    · rename_i hx
      intro cls d σ' H' L' rx aft kp
      exact b x ρ1 σ σ' H H' L L' D cls d (List.contains_iff_mem.mp hx) rx aft kp po
    · exact po.elim
end
end Lt
set_option maxHeartbeats 1000000
/-! LtQ: the evaluator. -/
namespace Lt
open PySem PySem.Spec L2
open PyProof.Rows hiding St

structure Ctx where
  N : List Str
  K : List Nat
  sc : Scope
  cs : List (Str × PV)
  bl : List Str
  fs : List (Str × F)
  xs : List (Str × Option Str) := []
def ixOf : List Str → Str → Option Nat
  | [], _ => none
  | y :: r, x => if y = x then some 0 else match ixOf r x with
    | some i => some (i + 1)
    | none => none
theorem ixOf_at : ∀ {N : List Str} {x : Str} {i : Nat}, ixOf N x = some i → N[i]? = some x
  | y :: r, x, i, h => by
    unfold ixOf at h
    split at h
    · rename_i e; cases h; rw [e]; rfl
    · split at h
      · rename_i j hj; cases h; exact (ixOf_at hj : r[j]? = some x)
      · cases h
def okNm (x : Str) : Bool := !(x == ("__debug__" : Str)) && !(x == ("__classdict__" : Str))
def slotOf (Γ : Ctx) (x : Str) : Option Nat := match Γ.sc.names.lookup x with
  | some .local => if okNm x then ixOf Γ.N x else none
  | some .cell => if okNm x then ixOf Γ.N x else none
  | some .free => if okNm x then ixOf Γ.N x else none
  | _ => none
/-- .. that may be stored -/
def storeOf (Γ : Ctx) (x : Str) : Option Nat := match Γ.sc.names.lookup x with
  | some .local => if okNm x then ixOf Γ.N x else none
  | some .cell => if okNm x then ixOf Γ.N x else none
  | _ => none
def isGl (Γ : Ctx) (x : Str) : Bool := (match Γ.sc.names.lookup x with
  | some .globalImplicit => true
  | _ => false) && okNm x
def noO : Loc → Rs OV := fun _ => .no
def noS : Loc → Rs Fl := fun _ => .no
/-- never a field -/
def noFd : Nat → Expr → Bool
  | 0, _ => true
  | n + 1, e => match e with
    | .Subscript (.Name _ _) (.Constant (.str _) _ _) _ => false
    | .IfExp _ a b _ => noFd n a && noFd n b
    | .BoolOp _ es _ => es.all (noFd n)
    | _ => true
def inert : Nat → Ctx → Expr → Bool
  | 0, _, _ => true
  | n + 1, Γ, e => match e with
    | .Constant _ _ _ => true
    | .Name _ _ => true
    | .List [] _ => true
    | .Tuple [] _ _ => true
    | .BinOp a _ b _ => inert n Γ a && inert n Γ b
    | .Subscript (.Name _ _) (.Constant (.str _) _ _) _ => true
    | .Subscript a b _ => !isSlice b && inert n Γ a && inert n Γ b
    | .Call (.Name x _) args [] _ => Γ.bl.contains x && (sCall x).isSome && (Γ.fs.lookup x).isNone && args.all (inert n Γ)
    | _ => false
def inertP (n : Nat) (Γ : Ctx) : Option Expr → Bool
  | none => true
  | some e => inert n Γ e
def evNm (Γ : Ctx) (x : Str) : Loc → Rs OV := match slotOf Γ x with
  | some i => varO i
  | none => if isGl Γ x then match Γ.cs.lookup x with
    | some p => konst p
    | none => noO
    else noO
def noStars (es : List Expr) : Bool := es.all fun e => !isStar e
/-- fields as arguments: nothing behind them may change anything -/
def fdArgs (n : Nat) (Γ : Ctx) : List Expr → Bool
  | [] => true
  | e :: es => (noFd n e || es.all (inert n Γ)) && fdArgs n Γ es
def strKs : List (Option Expr) → Option (List Str)
  | [] => some []
  | some (.Constant (.str k) _ _) :: r => match strKs r with
    | some ks => some (k :: ks)
    | none => none
  | _ :: _ => none
def optAll {α : Type} : List (Option α) → Option (List α)
  | [] => some []
  | some x :: r => match optAll r with
    | some xs => some (x :: xs)
    | none => none
  | none :: _ => none
def evTg : Nat → Ctx → Expr → Option Tg
  | 0, _, _ => none
  | n + 1, Γ, e => match e with
    | .Name x _ => match storeOf Γ x with
      | some i => if i ∈ Γ.K then none else some (.nm i)
      | none => none
    | .Tuple es _ _ => if noStars es then match optAll (es.map (evTg n Γ)) with
      | some ts => some (.tp ts)
      | none => none
      else none
    | _ => none
/-- the names that a comprehension's block has of its own, with their slots -/
def ownOf (N : List Str) : List (Str × NameKind) → List (Str × Nat)
  | [] => []
  | (x, k) :: r => match k, ixOf N x with
    | .local, some i => (x, i) :: ownOf N r
    | .cell, some i => (x, i) :: ownOf N r
    | _, _ => ownOf N r
def blkB (Γ : Ctx) (scope : Scope) (own : List (Str × Nat)) : Bool :=
  (match scope.kind with | .function => true | _ => false) && (scope.names.all fun y => decide (scope.names.lookup y.1 = some y.2)) && (own.all fun p => decide (Γ.N[p.2]? = some p.1)) &&
    (scope.names.all fun y => match y.2 with
      | .free => (match Γ.sc.names.lookup y.1 with | some .cell => true | some .free => true | _ => false)
      | .local => (own.map (·.1)).contains y.1 || !Γ.N.contains y.1
      | .cell => (own.map (·.1)).contains y.1 || !Γ.N.contains y.1
      | _ => true)
/-- the slots of a target -/
def tgSlots : Nat → Tg → List Nat
  | 0, _ => []
  | _ + 1, .nm i => [i]
  | n + 1, .tp ts => (ts.map (tgSlots n)).flatten
def inner (Γ : Ctx) (scope : Scope) (vs : List Nat) : Ctx := { Γ with sc := scope, K := others Γ.N.length vs }
def appLine (ap cp : Pos) : Bool := ap.endLine == cp.line
def evB (ev : Expr → Loc → Rs OV) : BoolOp → List Expr → Loc → Rs OV
  | _, [] => noO
  | _, [a] => ev a
  | .And, a :: b :: r => andV (tstV (ev a)) (evB ev .And (b :: r))
  | .Or, a :: b :: r => orV (tstV (ev a)) (evB ev .Or (b :: r))
def evP (ev : Expr → Loc → Rs OV) : Option Expr → Loc → Rs (Option Int)
  | none => noPart
  | some e => aPart (ev e)
def noT : Loc → Rs Bool := fun _ => .no
def evW (ev : Expr → Loc → Rs Bool) : BoolOp → List Expr → Loc → Rs Bool
  | _, [] => noT
  | _, [a] => ev a
  | .And, a :: b :: r => andT (ev a) (evW ev .And (b :: r))
  | .Or, a :: b :: r => orT (ev a) (evW ev .Or (b :: r))
def isRange (Γ : Ctx) (x : Str) (args : List Expr) : Bool := decide (x = "range") && isGl Γ x && Γ.bl.contains x && noStars args
def isBlt (Γ : Ctx) (y x : Str) (args : List Expr) : Bool := decide (x = y) && isGl Γ x && Γ.bl.contains x && noStars args
/-! ### list(range(..)), tuple(range(..)) -/
def rgOk (a b : Int) : Bool := decide (-(2 ^ 60) ≤ a ∧ a ≤ 2 ^ 60 ∧ -(2 ^ 60) ≤ b ∧ b ≤ 2 ^ 60 ∧ b - a ≤ 16777216)
def sRg1 (l : Bool) (p : SV) : Option SV := match p with
  | .v (.int j) => if rgOk 0 j then some (if l then .l (rangeP 0 j) else .v (.tup (rangeP 0 j))) else none
  | _ => none
def sRg2 (l : Bool) (p q : SV) : Option SV := match p, q with
  | .v (.int i), .v (.int j) => if rgOk i j then some (if l then .l (rangeP i j) else .v (.tup (rangeP i j))) else none
  | _, _ => none
def evX (n : Nat) (Γ : Ctx) (ev : Expr → Loc → Rs OV) (x : Str) (args : List Expr) : Option (Loc → Rs OV) := match args with
  | [.Call (.Name y _) [a] [] _] => if isRange Γ y [a] then (if isBlt Γ "list" x [] then some (un1 (sRg1 true) (ev a)) else if isBlt Γ "tuple" x [] then some (un1 (sRg1 false) (ev a)) else none) else none
  | [.Call (.Name y _) [a, b] [] _] => if isRange Γ y [a, b] && (inert n Γ b || noFd n a) then (if isBlt Γ "list" x [] then some (bin2 (sRg2 true) (ev a) (ev b)) else if isBlt Γ "tuple" x [] then some (bin2 (sRg2 false) (ev a) (ev b)) else none) else none
  | _ => none
def evC0 (n : Nat) (Γ : Ctx) (ev : Expr → Loc → Rs OV) (x : Str) (args : List Expr) : Loc → Rs OV :=
  if isGl Γ x && noStars args then match args with
    | [] => match Γ.fs.lookup x with
      | some f => callF f (seqO [])
      | none => noO
    | e :: es => match Γ.fs.lookup x with
      | some f => if fdArgs n Γ (e :: es) then callF f (seqO ((e :: es).map ev)) else noO
      | none => if Γ.bl.contains x then match sCall x with
        | some f => if fdArgs n Γ (e :: es) then callB f (seqO ((e :: es).map ev)) else noO
        | none => match es with
          | [.Name t _] => if decide (x = "isinstance") && isGl Γ t && Γ.bl.contains t then match isiT t with
            | some T => un1 (sIsi T) (ev e)
            | none => noO
            else noO
          | _ => noO
        else noO
    else noO
def evC (n : Nat) (Γ : Ctx) (ev : Expr → Loc → Rs OV) (x : Str) (args : List Expr) : Loc → Rs OV := match evX n Γ ev x args with
  | some c => c
  | none => evC0 n Γ ev x args
def evK (n : Nat) (Γ : Ctx) (tt : Bool) (ev : Expr → Loc → Rs OV) (e : Expr) : Loc → Rs (List PV) := match e with
  | .Call (.Name x p) [a] [] q => if isRange Γ x [a] then walkR1 (seqO ([a].map ev)) else if tt && isBlt Γ "enumerate" x [a] then walkE (keepP (ev a)) else walkV (keepP (ev (.Call (.Name x p) [a] [] q)))
  | .Call (.Name x p) [a, b] [] q => if isRange Γ x [a, b] && fdArgs n Γ [a, b] then walkR2 (seqO ([a, b].map ev)) else if tt && isBlt Γ "zip" x [a, b] then walkZ (seqP ([a, b].map fun e => keepP (ev e))) else walkV (keepP (ev (.Call (.Name x p) [a, b] [] q)))
  | .Call (.Name x p) [a, b, c] [] q => if isRange Γ x [a, b, c] && fdArgs n Γ [a, b, c] then walkR3 (seqO ([a, b, c].map ev)) else walkV (keepP (ev (.Call (.Name x p) [a, b, c] [] q)))
  | e => walkV (keepP (ev e))
def evL (n : Nat) (Γ : Ctx) (ev : Ctx → Expr → Loc → Rs OV) (evt : Ctx → Expr → Loc → Rs Bool) (elt tg iter : Expr) (ifs : List Expr) (scope : Scope) : Loc → Rs OV :=
  let own := ownOf Γ.N scope.names
  let vs := own.map (·.2)
  let Γ' := inner Γ scope vs
  match evTg n Γ' tg with
  | some t => if blkB Γ scope own && !isSet iter then match ifs with
    | [] => lcO Γ.N.length t vs (evK n Γ (isTupT tg) (ev Γ) iter) yesT (keepP (ev Γ' elt))
    | [c] => lcO Γ.N.length t vs (evK n Γ (isTupT tg) (ev Γ) iter) (evt Γ' c) (keepP (ev Γ' elt))
    | _ => noO
    else noO
  | none => noO
def evApp (Γ : Ctx) (ev : Expr → Loc → Rs OV) (o : Expr) (m : Str) (ap : Pos) (es : List Expr) (cp : Pos) : Option (Loc → Rs OV) := match o, es with
  | .Name x _, [e] => match slotOf Γ x with
    | some i => if decide (m = "append") && appLine ap cp && !isStar e then some (appO i (keepP (ev e))) else none
    | none => none
  | _, _ => none
def evMt (n : Nat) (Γ : Ctx) (ev : Expr → Loc → Rs OV) (o : Expr) (m : Str) (ap : Pos) (es : List Expr) (cp : Pos) : Loc → Rs OV := match sMet m with
  | some (T, f) => if plainR o && noStars es && decide (es.length < 30) && !es.isEmpty && appLine ap cp && (noFd n o || es.all (inert n Γ)) && fdArgs n Γ es then metB T f (ev o) (seqO (es.map ev)) else noO
  | none => noO
def evAt (n : Nat) (Γ : Ctx) (ev : Expr → Loc → Rs OV) (o : Expr) (m : Str) (ap : Pos) (es : List Expr) (cp : Pos) : Loc → Rs OV := match evApp Γ ev o m ap es cp with
  | some c => c
  | none => evMt n Γ ev o m ap es cp
mutual
def evO : Nat → Ctx → Expr → Loc → Rs OV
  | 0, _, _ => noO
  | n + 1, Γ, e => match e with
    | .Constant (.int i) _ _ => konst (.int i)
    | .Constant (.bool i) _ _ => konst (.bl i)
    | .Constant .none _ _ => konst .non
    | .Constant (.str i) _ _ => konst (.str i)
    | .Name x _ => evNm Γ x
    | .BinOp a op b _ => match sBin op with
      | some f => if inert n Γ b || noFd n a then bin2 f (evO n Γ a) (evO n Γ b) else noO
      | none => noO
    | .UnaryOp .USub a _ => un1 sNeg (evO n Γ a)
    | .UnaryOp .Not a _ => valT (notT (tstV (evO n Γ a)))
    | .Compare a [op] [b] _ => match sCmp op with
      | some f => if (inert n Γ b || noFd n a) && !isSet b then bin2 f (evO n Γ a) (evO n Γ b) else noO
      | none => noO
    | .Compare a [op, op'] [b, c] _ => match sCmp op, sCmp op' with
      | some f, some g => if noFd n a && noFd n b && !isSet c then chn f g (evO n Γ a) (evO n Γ b) (evO n Γ c) else noO
      | _, _ => noO
    | .BoolOp op es _ => evB (evO n Γ) op es
    | .IfExp t a b _ => ifV (evT n Γ t) (evO n Γ a) (evO n Γ b)
    | .Tuple es _ _ => if noStars es && decide (es.length ≤ 1000) then tupO (seqP (es.map fun e => keepP (evO n Γ e))) else noO
    | .List es _ => if noStars es && decide (es.length ≤ 1000) then lstO (seqP (es.map fun e => keepP (evO n Γ e))) else noO
    | .Dict keys es _ => match strKs keys with
      | some ks => if decide (ks.length = es.length) && decide (ks.Nodup) && !ks.isEmpty && decide (ks.length ≤ 15) then recD ks (seqV (es.map fun e => keepS (evO n Γ e))) else noO
      | none => noO
    | .Subscript (.Name x _) (.Constant (.str k) _ _) _ => match slotOf Γ x with
      | some i => recO i k
      | none => noO
    | .Subscript a (.Slice lo hi none _) _ => if noFd n a || (inert n Γ a && inertP n Γ lo && inertP n Γ hi) then slO (evO n Γ a) (evP (evO n Γ) lo) (evP (evO n Γ) hi) else noO
    | .Subscript a b _ => if (inert n Γ b || noFd n a) && !isSlice b then bin2 sIx (evO n Γ a) (evO n Γ b) else noO
    | .Call (.Name x _) args [] _ => evC n Γ (evO n Γ) x args
    | .Call (.Attribute o m ap) es [] cp => evAt n Γ (evO n Γ) o m ap es cp
    | .ListComp elt [⟨tg, iter, ifs, 0⟩] scope _ => evL n Γ (evO n) (evT n) elt tg iter ifs scope
    | _ => noO
def evT : Nat → Ctx → Expr → Loc → Rs Bool
  | 0, _, _ => noT
  | n + 1, Γ, e => match e with
    | .UnaryOp .Not a _ => notT (evT n Γ a)
    | .BoolOp op es _ => evW (evT n Γ) op es
    | .Compare a [op] [b] _ => match sCmp op with
      | some f => if (inert n Γ b || noFd n a) && !isSet b then tstV (bin2 f (evO n Γ a) (evO n Γ b)) else noT
      | none => noT
    | .Compare a [op, op'] [b, c] _ => match sCmp op, sCmp op' with
      | some f, some g => if noFd n a && noFd n b && !isSet c then tstV (chn f g (evO n Γ a) (evO n Γ b) (evO n Γ c)) else noT
      | _, _ => noT
    | .IfExp _ _ _ _ => noT
    | .Compare _ _ _ _ => noT
    | .UnaryOp _ _ _ => noT
    | e => tstV (evO n Γ e)
end
/-! ### what the context must be -/
structure FnIn (X : Cx) (x : Str) (f : F) : Prop where
  ex : ∃ fa fd ps k, FnG X.prog X.w X.K X.mg X.base k fa fd ps (spF X.mg f) ∧ RoomG k X.A ∧ X.mg x = some (.ref fa) ∧ PySem.W.keepIn X.K (.ref fa) = true ∧ Binds X.K fd ps []
structure CtxOk (Γ : Ctx) (X : Cx) (W : WX) : Prop where
  N : X.N = Γ.N
  nd : Γ.N.Nodup
  calm : X.calm = true
  tk : Takes X W
  own : PassesOwn (model X.prog X.w) X.A X.env X.xe
  un : X.A.units + 65 < cLine
  gd : X.A.guards = some []
  fk : X.env.scope.kind = .function
  nm : ∀ x k, Γ.sc.names.lookup x = some k → (k ≠ .free → X.env.scope.names.lookup x = some k) ∧ (k = .free → X.env.scope.names.lookup x = some .free ∨ X.env.scope.names.lookup x = some .cell)
  fn : ∀ x, Γ.sc.names.lookup x = some .local ∨ Γ.sc.names.lookup x = some .cell → X.fn x = true ∨ X.env.scope.names.lookup x = some .local
  cs : ∀ x p, Γ.cs.lookup x = some p → (∃ u, X.mg x = some u ∧ relC p u) ∧ ∀ s, p = .glb s → s = x
  bl : ∀ x, Γ.bl.contains x = true → X.mg x = none
  fs : ∀ x f, Γ.fs.lookup x = some f → FnIn X x f
  dp : X.A.depth + 5 < recursionLimit
  xs : ∀ x fo, Γ.xs.lookup x = some fo → Err X.prog X.K X.mg x fo
  er : Errs X (Γ.xs.map (·.1))
variable {Γ : Ctx} {X : Cx} {W : WX} {m : Bool} {e : Expr}
theorem okNm_db {x : Str} (h : okNm x = true) : (x == ("__debug__" : Str)) = false ∧ (x == ("__classdict__" : Str)) = false := by
  unfold okNm at h
  rw [Bool.and_eq_true, Bool.not_eq_true', Bool.not_eq_true'] at h
  exact h
theorem CtxOk.slot (ok : CtxOk Γ X W) {x : Str} {i : Nat} (h : slotOf Γ x = some i) : X.N[i]? = some x ∧ Vis X.env.scope x ∧ (x == ("__debug__" : Str)) = false ∧ (x == ("__classdict__" : Str)) = false := by
  unfold slotOf at h
  have key : ∀ {k : NameKind}, Γ.sc.names.lookup x = some k → Vis X.env.scope x → (if okNm x = true then ixOf Γ.N x else none) = some i → X.N[i]? = some x ∧ Vis X.env.scope x ∧ (x == ("__debug__" : Str)) = false ∧ (x == ("__classdict__" : Str)) = false := by
    intro k _ hv h
    split at h
    · rename_i ho
      obtain ⟨d1, d2⟩ := okNm_db ho
      exact ⟨by rw [ok.N]; exact ixOf_at h, hv, d1, d2⟩
    · cases h
  split at h
  · rename_i hk; exact key hk (.inl ((ok.nm x _ hk).1 (by decide))) h
  · rename_i hk; exact key hk (.inr (.inl ((ok.nm x _ hk).1 (by decide)))) h
  · rename_i hk
    refine key hk ?_ h
    rcases (ok.nm x _ hk).2 rfl with z | z
    · exact .inr (.inr z)
    · exact .inr (.inl z)
  · cases h
theorem CtxOk.store (ok : CtxOk Γ X W) {x : Str} {i : Nat} (h : storeOf Γ x = some i) : X.N[i]? = some x ∧ L2.Loc X.env.scope x ∧ (X.fn x = true ∨ X.env.scope.names.lookup x = some .local) := by
  unfold storeOf at h
  split at h
  · rename_i hk
    split at h
    · exact ⟨by rw [ok.N]; exact ixOf_at h, .inl ((ok.nm x _ hk).1 (by decide)), ok.fn x (.inl hk)⟩
    · cases h
  · rename_i hk
    split at h
    · exact ⟨by rw [ok.N]; exact ixOf_at h, .inr ((ok.nm x _ hk).1 (by decide)), ok.fn x (.inr hk)⟩
    · cases h
  · cases h
theorem CtxOk.gl (ok : CtxOk Γ X W) {x : Str} (h : isGl Γ x = true) : Gl X x ∧ (x == ("__debug__" : Str)) = false := by
  unfold isGl at h
  rw [Bool.and_eq_true] at h
  refine ⟨?_, (okNm_db h.2).1⟩
  have := h.1
  split at this
  · rename_i hk; exact (ok.nm x _ hk).1 (by decide)
  · cases this
theorem gO_no : GO m X W e noO := ⟨fun _ _ _ => False, ⟨fun _ _ _ _ _ _ h => h.elim⟩, fun _ _ _ _ _ _ po => po⟩
theorem gT_no : GT m X W e noT := ⟨fun _ _ _ => False, ⟨fun _ _ _ _ _ _ h => h.elim⟩, fun _ _ _ _ _ _ po => po⟩
theorem gW_no : GW m X W e noT := ⟨fun _ _ _ => False, ⟨fun _ _ _ _ _ _ _ h => h.elim⟩, fun _ _ _ _ _ _ po => po⟩
theorem gWk_no {tg : Expr} : GWk X W tg e (fun _ => .no) := ⟨fun _ _ _ => False, ⟨fun _ _ _ _ _ _ h => h.elim⟩, fun _ _ _ _ _ _ po => po⟩
end Lt
set_option maxHeartbeats 4000000
/-! LtR: the evaluator of expressions is sound. -/
namespace Lt
open PySem PySem.Spec L2
open PyProof.Rows hiding St
/-! ### fields -/
def NF (r : Rs OV) : Prop := ∀ ov ρ', r = .ok ov ρ' → ∀ i k, ov ≠ .fd i k
theorem nf_no : NF .no := fun _ _ h => nomatch h
theorem nf_ex {x : Xn} {ρ : Loc} : NF (.ex x ρ) := fun _ _ h => nomatch h
theorem nf_tm {s : SV} {ρ : Loc} : NF (.ok (.tm s) ρ) := fun _ _ h => by cases h; intro i k z; cases z
theorem nf_sl {i : Nat} {ρ : Loc} : NF (.ok (.sl i) ρ) := fun _ _ h => by cases h; intro i k z; cases z
theorem NoFd.of {c : Loc → Rs OV} (h : ∀ ρ, NF (c ρ)) : NoFd c := fun ρ ov ρ' e => h ρ ov ρ' e
theorem NoFd.bind {α : Type} {c : Loc → Rs α} {k : α → Loc → Rs OV} (h : ∀ a ρ, NF (k a ρ)) : NoFd (bindR c k) := .of fun ρ => by
  unfold bindR
  cases hc : c ρ with
  | no => exact nf_no
  | ex x ρ1 => exact fun _ _ h => nomatch h
  | ok a ρ1 => exact h a ρ1
theorem nf_opt {α : Type} {o : Option α} {k : α → Rs OV} (h : ∀ a, NF (k a)) : NF (opt o k) := by cases o with | none => exact nf_no | some a => exact h a
theorem NoFd.nf {c : Loc → Rs OV} (h : NoFd c) (ρ : Loc) : NF (c ρ) := fun ov ρ' e => h ρ ov ρ' e
theorem nofd_no : NoFd noO := .of fun _ => nf_no
theorem nofd_un1 {f : SV → Option SV} {c : Loc → Rs OV} : NoFd (un1 f c) := .bind fun _ _ => nf_opt fun _ => nf_opt fun _ => nf_tm
theorem nofd_bin2 {f : SV → SV → Option SV} {c d : Loc → Rs OV} : NoFd (bin2 f c d) := .bind fun _ ρ => (NoFd.bind fun _ _ => nf_opt fun _ => nf_opt fun _ => nf_opt fun _ => nf_tm).nf ρ
theorem nofd_konst {p : PV} : NoFd (konst p) := .of fun _ => nf_tm
theorem nofd_var {i : Nat} : NoFd (varO i) := .of fun ρ => by
  unfold varO
  first | exact nf_sl | (split <;> first | exact nf_sl | exact nf_no)
theorem nofd_valT {c : Loc → Rs Bool} : NoFd (valT c) := .bind fun _ _ => nf_tm
theorem nofd_ifV {c : Loc → Rs Bool} {d f : Loc → Rs OV} (h1 : NoFd d) (h2 : NoFd f) : NoFd (ifV c d f) := .bind fun b ρ => by
  cases b
  · exact h2.nf ρ
  · exact h1.nf ρ
theorem nofd_andV {c : Loc → Rs Bool} {d : Loc → Rs OV} (h1 : NoFd d) : NoFd (andV c d) := .bind fun b ρ => by
  cases b
  · exact nf_tm
  · exact h1.nf ρ
theorem nofd_orV {c : Loc → Rs Bool} {d : Loc → Rs OV} (h1 : NoFd d) : NoFd (orV c d) := .bind fun b ρ => by
  cases b
  · exact h1.nf ρ
  · exact nf_tm
theorem nofd_chn {f g : SV → SV → Option SV} {ca cb cc : Loc → Rs OV} : NoFd (chn f g ca cb cc) := .bind fun x ρ => by
  refine (NoFd.bind fun y ρ => ?_).nf ρ
  repeat' split
  all_goals first | exact nf_no | exact nf_tm | skip
  all_goals
    refine (NoFd.bind fun z ρ => ?_).nf _
    repeat' (first | exact nf_no | exact nf_tm | split | refine nf_opt fun _ => ?_)
theorem nofd_callB {f : List SV → Option SV} {c : Loc → Rs (List OV)} : NoFd (callB f c) := .bind fun _ _ => nf_opt fun _ => nf_opt fun _ => nf_tm
theorem nofd_callF {f : F} {c : Loc → Rs (List OV)} : NoFd (callF f c) := .bind fun _ _ => by
  repeat' split
  all_goals first | exact nf_no | exact nf_tm | exact nf_ex
theorem nofd_tup {c : Loc → Rs (List PV)} : NoFd (tupO c) := .bind fun _ _ => nf_tm
theorem nofd_lst {c : Loc → Rs (List PV)} : NoFd (lstO c) := .bind fun _ _ => nf_tm
theorem nofd_recD {ks : List Str} {c : Loc → Rs (List SV)} : NoFd (recD ks c) := .bind fun _ _ => by
  split
  · exact nf_tm
  · exact nf_no
theorem nofd_sl {c : Loc → Rs OV} {cl ch : Loc → Rs (Option Int)} : NoFd (slO c cl ch) := .bind fun _ ρ => (NoFd.bind fun _ ρ => (NoFd.bind fun _ _ => nf_opt fun _ => nf_opt fun _ => nf_tm).nf ρ).nf ρ
theorem nofd_app {i : Nat} {c : Loc → Rs PV} : NoFd (appO i c) := .of fun ρ => by
  unfold appO bindR
  repeat' (first | exact nf_no | exact nf_tm | exact nf_ex | split | (dsimp only; split))
theorem nofd_lc {n : Nat} {t : Tg} {vs : List Nat} {ci : Loc → Rs (List PV)} {ct : Loc → Rs Bool} {c : Loc → Rs PV} : NoFd (lcO n t vs ci ct c) := fun ρ ov ρ' h i k => by
  obtain ⟨acc, rfl⟩ := lcO_tm h
  intro z; cases z
theorem nofd_nm {Γ : Ctx} {x : Str} : NoFd (evNm Γ x) := by
  unfold evNm
  repeat' split
  all_goals first | exact nofd_no | exact nofd_var | exact nofd_konst
theorem nofd_evX {n : Nat} {Γ : Ctx} {ev : Expr → Loc → Rs OV} {x : Str} {args : List Expr} {c : Loc → Rs OV} (h : evX n Γ ev x args = some c) : NoFd c := by
  unfold evX at h
  repeat' split at h
  all_goals first | (cases h; first | exact nofd_un1 | exact nofd_bin2) | cases h
theorem nofd_evC0 {n : Nat} {Γ : Ctx} {ev : Expr → Loc → Rs OV} {x : Str} {args : List Expr} : NoFd (evC0 n Γ ev x args) := by
  unfold evC0
  repeat' split
  all_goals first | exact nofd_no | exact nofd_callF | exact nofd_callB | exact nofd_un1
theorem nofd_evC {n : Nat} {Γ : Ctx} {ev : Expr → Loc → Rs OV} {x : Str} {args : List Expr} : NoFd (evC n Γ ev x args) := by
  unfold evC
  split
  · rename_i h; exact nofd_evX h
  · exact nofd_evC0
theorem nofd_evL {n : Nat} {Γ : Ctx} {ev : Ctx → Expr → Loc → Rs OV} {evt : Ctx → Expr → Loc → Rs Bool} {elt tg iter : Expr} {ifs : List Expr} {scope : Scope} : NoFd (evL n Γ ev evt elt tg iter ifs scope) := by
  unfold evL
  dsimp only
  repeat' split
  all_goals first | exact nofd_no | exact nofd_lc
theorem nofd_metB {T : SV → Bool} {f : SV → List SV → Option SV} {c : Loc → Rs OV} {d : Loc → Rs (List OV)} : NoFd (metB T f c d) := .bind fun x ρ => by
  split
  · split
    · exact (NoFd.bind fun _ _ => nf_opt fun _ => nf_opt fun _ => nf_opt fun _ => nf_tm).nf ρ
    · exact nf_no
  · exact nf_no
theorem nofd_evAt {n : Nat} {Γ : Ctx} {ev : Expr → Loc → Rs OV} {o : Expr} {m : Str} {ap cp : Pos} {es : List Expr} : NoFd (evAt n Γ ev o m ap es cp) := by
  unfold evAt
  split
  · rename_i c h
    unfold evApp at h
    split at h
    · split at h
      · split at h
        · cases h; exact nofd_app
        · cases h
      · cases h
    · cases h
  · unfold evMt
    split
    · split
      · exact nofd_metB
      · exact nofd_no
    · exact nofd_no
theorem nofd_evB {ev : Expr → Loc → Rs OV} : ∀ {es : List Expr} {op : BoolOp}, (∀ e ∈ es, NoFd (ev e)) → NoFd (evB ev op es)
  | [], op, _ => by cases op <;> exact nofd_no
  | [a], op, h => by cases op <;> exact h a List.mem_cons_self
  | a :: b :: r, op, h => by
    have ih := nofd_evB (es := b :: r) (op := op) fun e he => h e (List.mem_cons_of_mem _ he)
    cases op
    · exact nofd_andV ih
    · exact nofd_orV ih
theorem evO_nofd : ∀ (n : Nat) (Γ : Ctx) (e : Expr), noFd n e = true → NoFd (evO n Γ e)
  | 0, Γ, e, _ => by unfold evO; exact nofd_no
  | n + 1, Γ, e, h => by
    unfold evO
    split
    all_goals try first | exact nofd_no | exact nofd_konst | exact nofd_nm | exact nofd_un1 | exact nofd_valT | exact nofd_evC | exact nofd_evAt | exact nofd_evL
    all_goals try (repeat' split) <;> first | exact nofd_no | exact nofd_bin2 | exact nofd_chn | exact nofd_tup | exact nofd_lst | exact nofd_recD | exact nofd_sl | exact nofd_app
    · unfold noFd at h
      exact nofd_evB fun e he => evO_nofd n Γ e (List.all_eq_true.mp h e he)
    · unfold noFd at h
      rw [Bool.and_eq_true] at h
      exact nofd_ifV (evO_nofd n Γ _ h.1) (evO_nofd n Γ _ h.2)
    · unfold noFd at h
      cases h
end Lt
set_option maxHeartbeats 4000000
/-! LtS: the evaluator of expressions is sound. -/
namespace Lt
open PySem PySem.Spec L2
open PyProof.Rows hiding St
variable {Γ : Ctx} {X : Cx} {W : WX} {m : Bool} {e : Expr} {n : Nat}
/-! ### blocks -/
theorem relS_free {sc : Scope} : ∀ {names : List (Str × NameKind)} {x : Str}, names.lookup x = some .free → (names.map fun (n, k) => if (k == NameKind.free && sc.kind == .function && sc.names.lookup n == some .cell) then (n, NameKind.cell) else (n, k)).lookup x = some .free ∨
    (names.map fun (n, k) => if (k == NameKind.free && sc.kind == .function && sc.names.lookup n == some .cell) then (n, NameKind.cell) else (n, k)).lookup x = some .cell
  | (y, k) :: r, x, h => by
    rw [List.map_cons]
    dsimp only
    by_cases hxy : x == y
    · rw [List.lookup_cons, hxy] at h
      dsimp only at h
      cases h
      by_cases c : (NameKind.free == NameKind.free && sc.kind == .function && sc.names.lookup y == some .cell) = true
      · rw [if_pos c, List.lookup_cons, hxy]; exact .inr rfl
      · rw [if_neg c, List.lookup_cons, hxy]; exact .inl rfl
    · have hxy : (x == y) = false := by simpa using hxy
      rw [List.lookup_cons, hxy] at h
      dsimp only at h
      have ih := relS_free (sc := sc) h
      by_cases c : (k == NameKind.free && sc.kind == .function && sc.names.lookup y == some .cell) = true
      · rw [if_pos c, List.lookup_cons, hxy]; exact ih
      · rw [if_neg c, List.lookup_cons, hxy]; exact ih
theorem FnIn.blk {x : Str} {f : F} (h : FnIn X x f) {s : Shared} {H : Hp} {scope : Scope} {cenv : Env} {fp : List Addr} : FnIn (X.blk s H scope cenv fp) x f := by
  obtain ⟨fa, fd, ps, k, h⟩ := h.ex
  exact ⟨⟨fa, fd, ps, k, h⟩⟩
theorem kindB {scope : Scope} (h : (match scope.kind with | .function => true | _ => false) = true) : scope.kind = .function := by
  cases hk : scope.kind <;> rw [hk] at h <;> first | rfl | exact Bool.noConfusion h
theorem blkB_kind {scope : Scope} {own : List (Str × Nat)} (h : blkB Γ scope own = true) : scope.kind = .function := by
  unfold blkB at h
  rw [Bool.and_eq_true, Bool.and_eq_true, Bool.and_eq_true] at h
  exact kindB h.1.1.1
theorem CtxOk.blk (ok : CtxOk Γ X W) {scope : Scope} {own : List (Str × Nat)} (h : blkB Γ scope own = true) (vs : List Nat) (s : Shared) (H : Hp) (C : Addr) (cl : List (Str × Addr)) (fp : List Addr) : CtxOk (inner Γ scope vs) (X.blk s H scope (compEnvC scope cl C X.env) fp) WF where
  N := ok.N
  nd := ok.nd
  calm := ok.calm
  tk := fun u s' ⟨_, _, _, _, _, _, _, _, _, _, _, _, _, _, _, _, w⟩ => w
  own := PassesOwn.never
  un := ok.un
  gd := ok.gd
  fk := show scope.kind = .function from blkB_kind h
  nm := fun x k hk => ⟨fun hf => lookup_relS_keep hf hk, fun hf => by subst hf; exact relS_free hk⟩
  fn := fun x hx => by
    rcases hx with hx | hx
    · exact .inr (lookup_relS_keep (by decide) hx)
    · refine .inl ?_
      show (scope.names.lookup x == some .cell) = true
      rw [show scope.names.lookup x = some .cell from hx]; rfl
  cs := ok.cs
  bl := ok.bl
  fs := fun x f hx => (ok.fs x f hx).blk
  dp := ok.dp
  xs := ok.xs
  er := ok.er
theorem CtxOk.blkOk (ok : CtxOk Γ X W) {scope : Scope} {own : List (Str × Nat)} (h : blkB Γ scope own = true) : BlkOk X.N X.env.scope scope own := by
  have hk := blkB_kind h
  unfold blkB at h
  rw [Bool.and_eq_true, Bool.and_eq_true, Bool.and_eq_true] at h
  refine ⟨hk, fun y hy => of_decide_eq_true (List.all_eq_true.mp h.1.1.2 y hy), fun p hp => ?_, fun y hy hf => ?_, fun y hy hl => ?_⟩
  · rw [ok.N]; exact of_decide_eq_true (List.all_eq_true.mp h.1.2 p hp)
  · have := List.all_eq_true.mp h.2 y hy
    rw [hf] at this
    dsimp only at this
    cases hz : Γ.sc.names.lookup y.1 with
    | none => rw [hz] at this; cases this
    | some k =>
      rw [hz] at this
      cases k <;> first | cases this | skip
      · exact .inl ((ok.nm y.1 _ hz).1 (by decide))
      · exact ((ok.nm y.1 _ hz).2 rfl).symm
  · have := List.all_eq_true.mp h.2 y hy
    have key : ((own.map (·.1)).contains y.1 || !Γ.N.contains y.1) = true → y.1 ∈ own.map (·.1) ∨ y.1 ∉ X.N := fun z => by
      rw [Bool.or_eq_true] at z
      rcases z with z | z
      · exact .inl (List.contains_iff_mem.mp z)
      · refine .inr fun q => ?_
        rw [ok.N] at q
        rw [List.contains_iff_mem.mpr q] at z; cases z
    rcases hl with hl | hl
    · rw [hl] at this; exact key this
    · rw [hl] at this; exact key this
/-! ### targets -/
theorem optAll_cons {α : Type} {o : Option α} {r : List (Option α)} {xs : List α} (h : optAll (o :: r) = some xs) : ∃ x ys, o = some x ∧ optAll r = some ys ∧ xs = x :: ys := by
  cases o with
  | none => cases h
  | some x =>
    unfold optAll at h
    cases hr : optAll r with
    | none => rw [hr] at h; cases h
    | some ys => rw [hr] at h; cases h; exact ⟨x, ys, rfl, rfl, rfl⟩
theorem noStars_cons {es : List Expr} (h : noStars (e :: es) = true) : isStar e = false ∧ noStars es = true := by
  unfold noStars at h
  rw [List.all_cons, Bool.and_eq_true] at h
  exact ⟨by simpa using h.1, h.2⟩
theorem evTg_ok : ∀ (n : Nat) {e : Expr} {t : Tg} (ok : CtxOk Γ X W), evTg n Γ e = some t → GG X Γ.K e t
  | 0, e, t, ok, h => by cases h
  | n + 1, e, t, ok, h => by
    unfold evTg at h
    split at h
    · split at h
      · rename_i i hi
        split at h
        · cases h
        · rename_i hK
          cases h
          obtain ⟨h1, h2, h3⟩ := ok.store hi
          exact gG_name (by rw [ok.N]; exact ok.nd) h1 h2 h3 hK
      · cases h
    · rename_i es k pos
      split at h
      · rename_i hst
        split at h
        · rename_i ts hts
          cases h
          refine gG_tup ok.calm ?_ hst
          induction es generalizing ts with
          | nil => cases hts; exact gGs_nil
          | cons e es ih =>
            rw [List.map_cons] at hts
            obtain ⟨x, ys, h1, h2, rfl⟩ := optAll_cons hts
            exact gGs_cons (evTg_ok n ok h1) (ih (noStars_cons hst).2 _ h2) (noStars_cons hst).1
        · cases h
      · cases h
    · cases h
/-! ### lists of expressions -/
theorem gA_of (hO : ∀ e, GO (!inert n Γ e) X W e (evO n Γ e)) : ∀ {es : List Expr}, noStars es = true → fdArgs n Γ es = true → GA (!es.all (inert n Γ)) X W es (seqO (es.map (evO n Γ)))
  | [], _, _ => gA_nil
  | e :: es, h1, h2 => by
    obtain ⟨a1, a2⟩ := noStars_cons h1
    unfold fdArgs at h2
    rw [Bool.and_eq_true] at h2
    rw [List.all_cons]
    refine gA_cons ((hO e).mono fun z => ?_) (gA_of hO a2 h2.2) (fun z => ?_) (fun z => ?_) a1
    · have : inert n Γ e = false := by simpa using z
      rw [this]; rfl
    · have : es.all (inert n Γ) = false := by simpa using z
      rw [this, Bool.and_false]; rfl
    · have : es.all (inert n Γ) = false := by simpa using z
      rw [this, Bool.or_false] at h2
      exact evO_nofd n Γ e h2.1
theorem gPs_of (hO : ∀ e, GO (!inert n Γ e) X W e (evO n Γ e)) : ∀ {es : List Expr}, noStars es = true → GPs X W es (seqP (es.map fun e => keepP (evO n Γ e)))
  | [], _ => gPs_nil
  | e :: es, h1 => gPs_cons (gP_keep (hO e)) (gPs_of hO (noStars_cons h1).2) (noStars_cons h1).1
theorem gVs_of (hO : ∀ e, GO (!inert n Γ e) X W e (evO n Γ e)) : ∀ {es : List Expr}, noStars es = true → GVs X W es (seqV (es.map fun e => keepS (evO n Γ e)))
  | [], _ => gVs_nil
  | e :: es, h1 => gVs_cons (gV_keep (hO e)) (gVs_of hO (noStars_cons h1).2) (noStars_cons h1).1
theorem gDs_of (hO : ∀ e, GO (!inert n Γ e) X W e (evO n Γ e)) {pos : Pos} : ∀ {keys : List (Option Expr)} {ks : List Str} {es : List Expr}, strKs keys = some ks → ks.length = es.length → GDs X W pos keys ks es (seqV (es.map fun e => keepS (evO n Γ e)))
  | [], ks, es, h, hl => by
    cases h
    cases es with
    | nil => exact gDs_nil
    | cons _ _ => cases hl
  | k :: keys, ks, es, h, hl => by
    unfold strKs at h
    split at h
    · cases ‹_ :: _ = []›
    · rename_i k' j p r heq
      cases heq
      split at h
      · rename_i ks' hk
        cases h
        cases es with
        | nil => cases hl
        | cons e es => exact gDs_cons (gV_keep (hO e)) (gDs_of hO hk (by simpa using hl))
      · cases h
    · cases h
/-- a call without arguments -/
theorem gO_callF0 {f : F} {x : Str} {k : Nat} {fa : Addr} {fd : FuncData} {ps : List Str} {p pos : Pos} (tk : Takes X W) (G : FnG X.prog X.w X.K X.mg X.base k fa fd ps (spF X.mg f)) (hr : RoomG k X.A) (hg : Gl X x)
    (hm : X.mg x = some (.ref fa)) (hk : PySem.W.keepIn X.K (.ref fa) = true) (hb : Binds X.K fd ps []) (hdb : (x == ("__debug__" : Str)) = false) : GO true X W (.Call (.Name x p) [] [] pos) (callF f (seqO [])) := by
  refine ⟨_, pe_callG0 G hr hg hm hk hb (fun σ => passAt tk σ) hdb, fun ρ σ H L Q rl po => ?_⟩
  refine ⟨[], [], .nil, ?_⟩
  unfold callF bindR seqO takeAll at po
  dsimp only at po
  have fin : ∀ {H' : Hp}, Stp true H H' [] → Aft X.mg true H L ρ σ H' L := fun st => ⟨rl.lim st (fun _ h => nomatch h), fun b o q c => st b o q (by
    rcases c with c | c | c
    · exact .inl c
    · exact .inr (.inl fun z => nomatch z)
    · cases c), fun a h => .inl h⟩
  cases hf : f [] with
  | no => rw [hf] at po; exact po
  | ex x outs =>
    rw [hf] at po
    intro cls d H' L' rx ra st sb
    exact po cls d H' L rx (fin st)
  | ok s outs =>
    rw [hf] at po
    intro v H' Lt L' rs ra dj st sbt sb'
    refine po v H' Lt L rs (fin st) (fun a h h' => ?_) (fun a h => ?_) (fun z => nomatch z)
    · rcases sbt a h with z | z
      · cases z
      · obtain ⟨o, e, _⟩ := rl.there a h'; rw [z] at e; cases e
    · rcases sbt a h with z | z
      · cases z
      · exact .inr z
/-! ### calls -/
theorem gO_evC0 (ok : CtxOk Γ X W) (hO : ∀ e, GO (!inert n Γ e) X W e (evO n Γ e)) {x : Str} {args : List Expr} {p pos : Pos} : GO (!(Γ.bl.contains x && (sCall x).isSome && (Γ.fs.lookup x).isNone && args.all (inert n Γ))) X W (.Call (.Name x p) args [] pos) (evC0 n Γ (evO n Γ) x args) := by
  unfold evC0
  split
  · rename_i hc
    rw [Bool.and_eq_true] at hc
    obtain ⟨hg, hst⟩ := hc
    obtain ⟨g1, g2⟩ := ok.gl hg
    split
    · split
      · rename_i f hf
        obtain ⟨fa, fd, ps, k, F, hr, hm, hk, hb⟩ := (ok.fs x f hf).ex
        exact (gO_callF0 ok.tk F hr g1 hm hk hb g2).mono fun _ => by rw [hf]; simp
      · exact gO_no
    · rename_i e es
      split
      · rename_i f hf
        split
        · rename_i hfd
          obtain ⟨fa, fd, ps, k, F, hr, hm, hk, hb⟩ := (ok.fs x f hf).ex
          exact (gO_callF ok.tk F hr g1 hm hk hb g2 (noStars_cons hst).1 (noStars_cons hst).2 (gA_of hO hst hfd)).mono fun _ => by rw [hf]; simp
        · exact gO_no
      · rename_i hf
        split
        · rename_i hbl
          split
          · rename_i f hs
            split
            · rename_i hfd
              exact (gO_blt hs g1 (ok.bl x hbl) ok.calm ok.un ok.gd (noStars_cons hst).1 (noStars_cons hst).2 (gA_of hO hst hfd)).mono fun z => by
                cases hz : (e :: es).all (inert n Γ) with
                | false => rw [Bool.and_false]; rfl
                | true => rw [hz] at z; cases z
            · exact gO_no
          · split
            · rename_i t p2
              split
              · rename_i hc
                rw [Bool.and_eq_true, Bool.and_eq_true] at hc
                obtain rfl := of_decide_eq_true hc.1.1
                split
                · rename_i T hT
                  exact (gO_isi hT g1 (ok.bl _ hbl) (ok.gl hc.1.2).1 (ok.bl _ hc.2) (noStars_cons hst).1 (hO e)).mono fun _ => by
                    rw [show sCall "isinstance" = none from rfl]; simp
                · exact gO_no
              · exact gO_no
            · exact gO_no
        · exact gO_no
  · exact gO_no
theorem isRange_ok (ok : CtxOk Γ X W) {x : Str} {args : List Expr} (h : isRange Γ x args = true) : x = "range" ∧ Gl X "range" ∧ X.mg "range" = none ∧ noStars args = true := by
  unfold isRange at h
  rw [Bool.and_eq_true, Bool.and_eq_true, Bool.and_eq_true] at h
  obtain rfl := of_decide_eq_true h.1.1.1
  exact ⟨rfl, (ok.gl h.1.1.2).1, ok.bl _ h.1.2, h.2⟩
theorem isBlt_ok (ok : CtxOk Γ X W) {y x : Str} {args : List Expr} (h : isBlt Γ y x args = true) : x = y ∧ Gl X y ∧ X.mg y = none ∧ noStars args = true := by
  unfold isBlt at h
  rw [Bool.and_eq_true, Bool.and_eq_true, Bool.and_eq_true] at h
  obtain rfl := of_decide_eq_true h.1.1.1
  exact ⟨rfl, (ok.gl h.1.1.2).1, ok.bl _ h.1.2, h.2⟩
theorem gWk_ev (ok : CtxOk Γ X W) (hO : ∀ e, GO (!inert n Γ e) X W e (evO n Γ e)) {tg e : Expr} : GWk X W tg e (evK n Γ (isTupT tg) (evO n Γ) e) := by
  unfold evK
  split
  · split
    · rename_i h
      obtain ⟨rfl, h1, h2, h3⟩ := isRange_ok ok h
      exact gWk_range1 h1 h2 (noStars_cons h3).1 (gA_of hO h3 (by unfold fdArgs; simp [fdArgs]))
    · split
      · rename_i h
        rw [Bool.and_eq_true] at h
        obtain ⟨rfl, h1, h2, h3⟩ := isBlt_ok ok h.2
        exact gWk_enum h.1 h1 h2 (noStars_cons h3).1 (gP_keep (hO _))
      · exact gWk_val (gP_keep (hO _))
  · split
    · rename_i h
      rw [Bool.and_eq_true] at h
      obtain ⟨rfl, h1, h2, h3⟩ := isRange_ok ok h.1
      exact gWk_range2 h1 h2 (noStars_cons h3).1 (noStars_cons (noStars_cons h3).2).1 (gA_of hO h3 h.2)
    · split
      · rename_i h
        rw [Bool.and_eq_true] at h
        obtain ⟨rfl, h1, h2, h3⟩ := isBlt_ok ok h.2
        exact gWk_zip h.1 h1 h2 (noStars_cons h3).1 (noStars_cons (noStars_cons h3).2).1 (gPs_of hO h3)
      · exact gWk_val (gP_keep (hO _))
  · split
    · rename_i h
      rw [Bool.and_eq_true] at h
      obtain ⟨rfl, h1, h2, h3⟩ := isRange_ok ok h.1
      exact gWk_range3 h1 h2 (noStars_cons h3).1 (noStars_cons (noStars_cons h3).2).1 (noStars_cons (noStars_cons (noStars_cons h3).2).2).1 (gA_of hO h3 h.2)
    · exact gWk_val (gP_keep (hO _))
  · exact gWk_val (gP_keep (hO _))
/-! ### list(range(..)) -/
theorem rangeV_eq {mg : Str → Option Value} {H : Hp} {a b : Int} : RVs mg H (rangeP a b) (rgV a b) := by
  unfold rangeP rgV
  generalize List.range (b - a).toNat = l
  induction l with
  | nil => exact RVs.nil
  | cons i l ih => exact ⟨_, _, rfl, rfl, ih⟩
theorem rgOk_ok {a b : Int} (h : rgOk a b = true) : RgOk a b := by
  have := of_decide_eq_true h
  exact ⟨by omega, by omega, by omega, by omega, by omega⟩
def rRg1 (l : Bool) : V → Hp → VK → Prop := fun x H Q => ∃ j, x = .int j ∧ RgOk 0 j ∧ (if l then ∀ q, H q = none → Q (.ref q) (upd H q (.lst (rgV 0 j))) else NT H Q (rgV 0 j))
def rRg2 (l : Bool) : R2 := fun x y H Q => ∃ i j, x = .int i ∧ y = .int j ∧ RgOk i j ∧ (if l then ∀ q, H q = none → Q (.ref q) (upd H q (.lst (rgV i j))) else NT H Q (rgV i j))
theorem sRg1_ok {mg : Str → Option Value} {l : Bool} : Un1 mg (sRg1 l) (rRg1 l) := by
  intro p s x H L Q rp e h
  unfold sRg1 at e
  split at e
  · rename_i j
    split at e
    · rename_i hk
      cases e
      refine ⟨j, rp.val, rgOk_ok hk, ?_⟩
      cases l with
      | true => exact does_lst rangeV_eq h
      | false => exact does_tup rangeV_eq h
    · cases e
  · cases e
theorem sRg2_ok {mg : Str → Option Value} {l : Bool} : Bin2 mg (sRg2 l) (rRg2 l) := by
  intro p q s x y H Lp Lq Q rp rq e h
  unfold sRg2 at e
  split at e
  · rename_i i j
    split at e
    · rename_i hk
      cases e
      refine ⟨i, j, rp.val, rq.val, rgOk_ok hk, ?_⟩
      cases l with
      | true => exact does_lst rangeV_eq h
      | false => exact does_tup rangeV_eq h
    · cases e
  · cases e
theorem gO_rg1 {a : Expr} {l : Bool} {ca : Loc → Rs OV} {p p2 pos pos2 : Pos} (hc : X.calm = true) (hx : Gl X (if l then "list" else "tuple")) (hm : X.mg (if l then "list" else "tuple") = none) (hg : Gl X "range") (hr : X.mg "range" = none) (hst : isStar a = false) (ha : GO m X W a ca) :
    GO m X W (.Call (.Name (if l then "list" else "tuple") p) [.Call (.Name "range" p2) [a] [] pos2] [] pos) (un1 (sRg1 l) ca) := by
  refine gO_un1 (r := rRg1 l) (fun ta pa => ?_) sRg1_ok ha
  have hp := prg_1 (p := p2) (pos := pos2) hg hr pa (starEach_cons hst)
  cases l with
  | true => exact pe_listRg hc hx hm hp rfl
  | false => exact pe_tupRgB hc hx hm hp rfl
theorem gO_rg2 {a b : Expr} {mb l : Bool} {ca cb : Loc → Rs OV} {p p2 pos pos2 : Pos} (hc : X.calm = true) (hx : Gl X (if l then "list" else "tuple")) (hm : X.mg (if l then "list" else "tuple") = none) (hg : Gl X "range") (hr : X.mg "range" = none) (hst : isStar a = false) (hst2 : isStar b = false) (ha : GO m X W a ca) (hb : GO mb X W b cb) (hmb : mb = true → m = true) (hf : mb = true → NoFd ca) :
    GO m X W (.Call (.Name (if l then "list" else "tuple") p) [.Call (.Name "range" p2) [a, b] [] pos2] [] pos) (bin2 (sRg2 l) ca cb) := by
  refine gO_bin2 (r := rRg2 l) (fun ta tb pa pb => ?_) sRg2_ok ha hb hmb hf
  have hp := prg_2 (p := p2) (pos := pos2) hg hr pa pb (starEach_cons hst) (starEach_cons hst2) (star_plain (es := [b]) (by simp [hst2]))
  cases l with
  | true => exact pe_listRg hc hx hm hp rfl
  | false => exact pe_tupRgB hc hx hm hp rfl
theorem gO_evX (ok : CtxOk Γ X W) (hO : ∀ e, GO (!inert n Γ e) X W e (evO n Γ e)) {x : Str} {args : List Expr} {p pos : Pos} {c : Loc → Rs OV} (h : evX n Γ (evO n Γ) x args = some c) : GO true X W (.Call (.Name x p) args [] pos) c := by
  unfold evX at h
  split at h
  · split at h
    · rename_i hr
      obtain ⟨rfl, h1, h2, h3⟩ := isRange_ok ok hr
      split at h
      · rename_i hx
        obtain ⟨rfl, g1, g2, _⟩ := isBlt_ok ok hx
        cases h
        exact gO_rg1 (l := true) ok.calm g1 g2 h1 h2 (noStars_cons h3).1 ((hO _).mono fun _ => rfl)
      · split at h
        · rename_i hx
          obtain ⟨rfl, g1, g2, _⟩ := isBlt_ok ok hx
          cases h
          exact gO_rg1 (l := false) ok.calm g1 g2 h1 h2 (noStars_cons h3).1 ((hO _).mono fun _ => rfl)
        · cases h
    · cases h
  · split at h
    · rename_i a b _ hr
      rw [Bool.and_eq_true] at hr
      obtain ⟨rfl, h1, h2, h3⟩ := isRange_ok ok hr.1
      have nf : (!inert n Γ b) = true → NoFd (evO n Γ a) := fun z => by
        have := hr.2
        cases hi : inert n Γ b with
        | true => rw [hi] at z; cases z
        | false => rw [hi, Bool.false_or] at this; exact evO_nofd n Γ a this
      split at h
      · rename_i hx
        obtain ⟨rfl, g1, g2, _⟩ := isBlt_ok ok hx
        cases h
        exact gO_rg2 (l := true) ok.calm g1 g2 h1 h2 (noStars_cons h3).1 (noStars_cons (noStars_cons h3).2).1 ((hO _).mono fun _ => rfl) (hO b) (fun _ => rfl) nf
      · split at h
        · rename_i hx
          obtain ⟨rfl, g1, g2, _⟩ := isBlt_ok ok hx
          cases h
          exact gO_rg2 (l := false) ok.calm g1 g2 h1 h2 (noStars_cons h3).1 (noStars_cons (noStars_cons h3).2).1 ((hO _).mono fun _ => rfl) (hO b) (fun _ => rfl) nf
        · cases h
    · cases h
  · cases h
/-- where there is no fuel, nothing is told -/
theorem evX_zero {x : Str} {args : List Expr} {c : Loc → Rs OV} (h : evX 0 Γ (evO 0 Γ) x args = some c) : ∀ ρ, c ρ = .no := by
  unfold evX at h
  repeat' split at h
  all_goals first | (cases h; intro ρ; unfold evO; rfl) | cases h
theorem gO_nv {e : Expr} {c : Loc → Rs OV} (h : ∀ ρ, c ρ = .no) : GO m X W e c := ⟨fun _ _ _ => False, ⟨fun _ _ _ _ _ _ h => h.elim⟩, fun ρ _ _ _ _ _ po => by rw [h ρ] at po; exact po⟩
theorem evX_act {x : Str} {args : List Expr} {c : Loc → Rs OV} {ev : Expr → Loc → Rs OV} (h : evX (n + 1) Γ ev x args = some c) : args.all (inert (n + 1) Γ) = false := by
  unfold evX at h
  split at h
  · split at h
    · rename_i hr
      unfold isRange at hr
      rw [Bool.and_eq_true, Bool.and_eq_true, Bool.and_eq_true] at hr
      obtain rfl := of_decide_eq_true hr.1.1.1
      rw [List.all_cons]
      show ((_ && (sCall "range").isSome && _ && _) && _) = false
      rw [show sCall "range" = none from rfl]
      simp
    · cases h
  · split at h
    · rename_i hr
      rw [Bool.and_eq_true] at hr
      have hr := hr.1
      unfold isRange at hr
      rw [Bool.and_eq_true, Bool.and_eq_true, Bool.and_eq_true] at hr
      obtain rfl := of_decide_eq_true hr.1.1.1
      rw [List.all_cons]
      show ((_ && (sCall "range").isSome && _ && _) && _) = false
      rw [show sCall "range" = none from rfl]
      simp
    · cases h
  · cases h
theorem gO_evC (ok : CtxOk Γ X W) (hO : ∀ e, GO (!inert n Γ e) X W e (evO n Γ e)) {x : Str} {args : List Expr} {p pos : Pos} : GO (!(Γ.bl.contains x && (sCall x).isSome && (Γ.fs.lookup x).isNone && args.all (inert n Γ))) X W (.Call (.Name x p) args [] pos) (evC n Γ (evO n Γ) x args) := by
  unfold evC
  split
  · rename_i c h
    cases n with
    | zero => exact gO_nv (evX_zero h)
    | succ n =>
      rw [evX_act h, Bool.and_false]
      exact gO_evX ok hO h
  · exact gO_evC0 ok hO
theorem gO_evAt (ok : CtxOk Γ X W) (hO : ∀ e, GO (!inert n Γ e) X W e (evO n Γ e)) {o : Expr} {m : Str} {ap cp : Pos} {es : List Expr} : GO true X W (.Call (.Attribute o m ap) es [] cp) (evAt n Γ (evO n Γ) o m ap es cp) := by
  unfold evAt
  split
  · rename_i c h
    unfold evApp at h
    split at h
    · split at h
      · rename_i i hi
        split at h
        · rename_i hc
          cases h
          rw [Bool.and_eq_true, Bool.and_eq_true] at hc
          obtain rfl := of_decide_eq_true hc.1.1
          obtain ⟨h1, h2, h3, h4⟩ := ok.slot hi
          exact gO_append h1 h2 h3 h4 (by have := hc.2; simpa using this) hc.1.2 (gP_keep (hO _))
        · cases h
      · cases h
    · cases h
  · unfold evMt
    split
    · rename_i T f hs
      split
      · rename_i hc
        simp only [Bool.and_eq_true] at hc
        obtain ⟨⟨⟨⟨⟨⟨h1, h2⟩, h3⟩, h4⟩, h5⟩, h6⟩, h7⟩ := hc
        refine gO_evMet hs ((hO o).mono fun _ => rfl) (gA_of hO h2 h7) (fun _ => rfl) (fun z => ?_) h1 h2 (of_decide_eq_true h3) (fun z => by rw [z] at h4; cases h4) h5
        rw [Bool.or_eq_true] at h6
        rcases h6 with h6 | h6
        · exact evO_nofd n Γ o h6
        · rw [h6] at z; cases z
      · exact gO_no
    · exact gO_no
theorem gO_evB (hO : ∀ e, GO (!inert n Γ e) X W e (evO n Γ e)) {op : BoolOp} {pos : Pos} : ∀ {es : List Expr}, GO true X W (.BoolOp op es pos) (evB (evO n Γ) op es)
  | [] => by cases op <;> exact gO_no
  | [a] => by cases op <;> exact gO_one ((hO a).mono fun _ => rfl)
  | a :: b :: r => by
    have ih := gO_evB hO (op := op) (pos := pos) (es := b :: r)
    cases op
    · exact gO_and ((hO a).mono fun _ => rfl) ih
    · exact gO_or ((hO a).mono fun _ => rfl) ih
theorem gW_evW (hT : ∀ e, GT true X W e (evT n Γ e)) {op : BoolOp} {pos : Pos} : ∀ {es : List Expr}, GW true X W (.BoolOp op es pos) (evW (evT n Γ) op es)
  | [] => by cases op <;> exact gW_no
  | [a] => by
    cases op
    · exact gW_and1 (hT a)
    · exact gW_or1 (hT a)
  | a :: b :: r => by
    have ih := gW_evW hT (op := op) (pos := pos) (es := b :: r)
    cases op
    · exact gW_and (hT a) ih
    · exact gW_or (hT a) ih
theorem gI_evP (hO : ∀ e, GO (!inert n Γ e) X W e (evO n Γ e)) : ∀ {o : Option Expr}, GI true X W o (evP (evO n Γ) o)
  | none => gI_none
  | some e => gI_some ((hO e).mono fun _ => rfl)
theorem gI_evF (hO : ∀ e, GO (!inert n Γ e) X W e (evO n Γ e)) : ∀ {o : Option Expr}, inertP n Γ o = true → GI false X W o (evP (evO n Γ) o)
  | none, _ => gI_none
  | some e, h => gI_some ((hO e).mono fun z => by rw [show inert n Γ e = true from h] at z; cases z)
end Lt
set_option maxHeartbeats 4000000
/-! LtT: the evaluator of expressions is sound. -/
namespace Lt
open PySem PySem.Spec L2
open PyProof.Rows hiding St
variable {Γ : Ctx} {X : Cx} {W : WX} {m : Bool} {e : Expr} {n : Nat}
theorem GP.any {c : Loc → Rs PV} (h : GP X W e c) : GP X W e c := h
theorem gO_evL (ok : CtxOk Γ X W) (hO : ∀ {Γ : Ctx} {X : Cx} {W : WX}, CtxOk Γ X W → ∀ e, GO (!inert n Γ e) X W e (evO n Γ e)) (hT : ∀ {Γ : Ctx} {X : Cx} {W : WX}, CtxOk Γ X W → ∀ e, GT true X W e (evT n Γ e)) {elt tg iter : Expr} {ifs : List Expr} {scope : Scope} {pos : Pos} :
    GO true X W (.ListComp elt [⟨tg, iter, ifs, 0⟩] scope pos) (evL n Γ (evO n) (evT n) elt tg iter ifs scope) := by
  unfold evL
  dsimp only
  split
  · rename_i t ht
    split
    · rename_i hc
      rw [Bool.and_eq_true] at hc
      have hset : isSet iter = false := by simpa using hc.2
      have hN : X.N.Nodup := by rw [ok.N]; exact ok.nd
      have base : ∀ {ct : Loc → Rs Bool}, (∀ (s : Shared) (H : Hp) (C : Addr) (cl : List (Str × Addr)) (fp : List Addr), GTs (X.blk s H scope (compEnvC scope cl C X.env) fp) WF ifs ct) →
          LcOk X scope (ownOf Γ.N scope.names) elt tg ifs t ct (keepP (evO n (inner Γ scope ((ownOf Γ.N scope.names).map (·.2))) elt)) := fun hts => by
        refine ⟨ok.blkOk hc.1, fun s H C cl fp => ?_, hts, fun s H C cl fp => gP_keep (hO (ok.blk hc.1 _ s H C cl fp) elt)⟩
        rw [ok.N]
        exact evTg_ok n (ok.blk hc.1 _ s H C cl fp) ht
      split
      · have := gO_lc (pos := pos) ok.calm hN (gWk_ev ok (hO ok)) (base fun s H C cl fp => .inl ⟨rfl, rfl⟩) hset
        rw [ok.N] at this
        exact this
      · rename_i c
        have := gO_lc (pos := pos) ok.calm hN (gWk_ev ok (hO ok)) (base fun s H C cl fp => .inr ⟨c, rfl, hT (ok.blk hc.1 ((ownOf Γ.N scope.names).map (·.2)) s H C cl fp) c⟩) hset
        rw [ok.N] at this
        exact this
      · exact gO_no
    · exact gO_no
  · exact gO_no
theorem gO_evNm (ok : CtxOk Γ X W) {x : Str} {pos : Pos} : GO m X W (.Name x pos) (evNm Γ x) := by
  unfold evNm
  split
  · rename_i i hi
    obtain ⟨h1, h2, h3, h4⟩ := ok.slot hi
    exact gO_var h1 h2 h3 h4
  · split
    · rename_i hg
      split
      · rename_i p hp
        obtain ⟨⟨u, h1, h2⟩, h3⟩ := ok.cs x p hp
        exact gO_glob (ok.gl hg).1 h1 h2 h3 (ok.gl hg).2
      · exact gO_no
    · exact gO_no
theorem bl_not {b : Bool} (h : (!b) = true) : b = false := by cases b <;> first | rfl | cases h
theorem two_in {a b : Bool} (h : (!b) = true) : (!(a && b)) = true := by rw [bl_not h, Bool.and_false]; rfl
theorem one_in {a b : Bool} (h : (!a) = true) : (!(a && b)) = true := by rw [bl_not h]; rfl
theorem fd_of {a b : Expr} (h : (inert n Γ b || noFd n a) = true) (z : (!inert n Γ b) = true) : NoFd (evO n Γ a) := by
  rw [bl_not z, Bool.false_or] at h
  exact evO_nofd n Γ a h
theorem inert_sl {a : Expr} {lo hi st : Option Expr} {p2 pos : Pos} : inert (n + 1) Γ (.Subscript a (.Slice lo hi st p2) pos) = false := by cases a <;> rfl
theorem inert_ix {a b : Expr} {pos : Pos} (h : ∀ (x : Str) (p : Pos) (k : Str) (j : Nat) (p2 : Pos), a = .Name x p → b = .Constant (.str k) j p2 → False) : inert (n + 1) Γ (.Subscript a b pos) = (!isSlice b && inert n Γ a && inert n Γ b) := by
  cases a
  case Name x p =>
    cases b
    case Constant v j p2 =>
      cases v
      case str k => exact (h _ _ _ _ _ rfl rfl).elim
      all_goals rfl
    all_goals rfl
  all_goals rfl
theorem sound (n : Nat) : (∀ {Γ : Ctx} {X : Cx} {W : WX}, CtxOk Γ X W → ∀ e, GO (!inert n Γ e) X W e (evO n Γ e)) ∧ (∀ {Γ : Ctx} {X : Cx} {W : WX}, CtxOk Γ X W → ∀ e, GT true X W e (evT n Γ e)) := by
  induction n with
  | zero => exact ⟨fun ok e => by unfold evO; exact gO_no, fun ok e => by unfold evT; exact gT_no⟩
  | succ n ih =>
    obtain ⟨hO, hT⟩ := ih
    refine ⟨fun {Γ X W} ok e => ?_, fun {Γ X W} ok e => ?_⟩
    · have h := hO ok
      have ht := hT ok
      have up : ∀ e, GO true X W e (evO n Γ e) := fun e => (h e).mono fun _ => rfl
      unfold evO
      split
      · exact gO_int
      · exact gO_bl
      · exact gO_non
      · exact gO_str
      · exact gO_evNm ok
      · rename_i a op b pos
        rw [show inert (n + 1) Γ (.BinOp a op b pos) = (inert n Γ a && inert n Γ b) from rfl]
        split
        · rename_i f hf
          split
          · rename_i hc
            exact gO_binop hf ((h a).mono one_in) (h b) two_in (fd_of hc)
          · exact gO_no
        · exact gO_no
      · exact gO_neg (up _)
      · exact gO_not (up _)
      · rename_i a op b pos
        split
        · rename_i f hf
          split
          · rename_i hc
            rw [Bool.and_eq_true] at hc
            exact gO_cmp hf ok.un (bl_not hc.2) (up a) (h b) (fun _ => rfl) (fd_of hc.1)
          · exact gO_no
        · exact gO_no
      · rename_i a op op' b c pos
        split
        · rename_i f g hf hg
          split
          · rename_i hc
            rw [Bool.and_eq_true, Bool.and_eq_true] at hc
            exact gO_chain hf hg ok.un (bl_not hc.2) (up a) (up b) (up c) (fun _ => evO_nofd n Γ a hc.1.1) (fun _ => evO_nofd n Γ b hc.1.2)
          · exact gO_no
        · exact gO_no
      · exact gO_evB h
      · exact gO_if (ht _) (up _) (up _)
      · rename_i es k pos
        split
        · rename_i hc
          rw [Bool.and_eq_true] at hc
          cases es with
          | nil => exact gO_tup0
          | cons e es => exact gO_tup (gPs_of h hc.1) (by rw [List.length_map]; exact of_decide_eq_true hc.2)
        · exact gO_no
      · rename_i es pos
        split
        · rename_i hc
          rw [Bool.and_eq_true] at hc
          cases es with
          | nil => exact gO_lst0
          | cons e es => exact gO_lst (gPs_of h hc.1) (by rw [List.length_map]; exact of_decide_eq_true hc.2)
        · exact gO_no
      · rename_i keys es pos
        split
        · rename_i ks hk
          split
          · rename_i hc
            rw [Bool.and_eq_true, Bool.and_eq_true, Bool.and_eq_true] at hc
            refine gO_recD (gDs_of h hk (of_decide_eq_true hc.1.1.1)) (of_decide_eq_true hc.1.1.2) (fun z => ?_) (of_decide_eq_true hc.2)
            subst z
            cases hk
            have := hc.1.2
            cases this
          · exact gO_no
        · exact gO_no
      · rename_i x p k j p2 pos
        split
        · rename_i i hi
          obtain ⟨h1, h2, h3, h4⟩ := ok.slot hi
          exact gO_rec ok.un h1 h2 h3 h4
        · exact gO_no
      · rename_i a lo hi p2 pos
        split
        · rename_i hc
          rw [inert_sl]
          rw [Bool.or_eq_true, Bool.and_eq_true, Bool.and_eq_true] at hc
          rcases hc with hc | hc
          · exact gO_slice (up a) (gI_evP h) (gI_evP h) fun _ => evO_nofd n Γ a hc
          · exact (gO_slice (m := false) ((h a).mono fun z => by rw [hc.1.1] at z; cases z) (gI_evF h hc.1.2) (gI_evF h hc.2) fun z => nomatch z).mono fun z => nomatch z
        · exact gO_no
      · rename_i a b pos hn1 hn2
        split
        · rename_i hc
          rw [Bool.and_eq_true] at hc
          have hs := bl_not hc.2
          rw [inert_ix hn1, hs]
          exact gO_ix hs ((h a).mono fun z => by rw [bl_not z]; rfl) (h b) (fun z => by rw [bl_not z, Bool.and_false]; rfl) (fd_of hc.1)
        · exact gO_no
      · exact gO_evC ok h
      · exact gO_evAt ok h
      · exact gO_evL ok hO hT
      · exact gO_no
    · have h := hO ok
      have ht := hT ok
      have up : ∀ e, GO true X W e (evO n Γ e) := fun e => (h e).mono fun _ => rfl
      unfold evT
      split
      · exact gT_not (ht _)
      · exact (gW_evW ht).gt
      · rename_i a op b pos
        split
        · rename_i f hf
          split
          · rename_i hc
            rw [Bool.and_eq_true] at hc
            exact gT_cmp hf ok.un (bl_not hc.2) (up a) (h b) (fun _ => rfl) (fd_of hc.1)
          · exact gT_no
        · exact gT_no
      · rename_i a op op' b c pos
        split
        · rename_i f g hf hg
          split
          · rename_i hc
            rw [Bool.and_eq_true, Bool.and_eq_true] at hc
            exact gT_chain hf hg ok.un (bl_not hc.2) (up a) (up b) (up c) (fun _ => evO_nofd n Γ a hc.1.1) (fun _ => evO_nofd n Γ b hc.1.2)
          · exact gT_no
        · exact gT_no
      · exact gT_no
      · exact gT_no
      · exact gT_no
      · rename_i h1 h2 h3 h4 h5 h6 h7
        refine gT_val (up _) ?_
        cases e <;> first | (intro _; rfl) | exact (h2 _ _ _ rfl).elim | exact (h5 _ _ _ _ rfl).elim | exact (h6 _ _ _ _ rfl).elim | exact (h7 _ _ _ rfl).elim
end Lt
set_option maxHeartbeats 4000000
/-! LtU: the evaluator of statements, and that it is sound. -/
namespace Lt
open PySem PySem.Spec L2
open PyProof.Rows hiding St
variable {Γ : Ctx} {X : Cx} {W : WX} {m : Bool} {e : Expr} {n : Nat} {K : List Nat}
def fuelW : Nat := 2 ^ 64
/-- x += e, integers -/
def augS (i : Nat) (c : Loc → Rs OV) : Loc → Rs Fl := fun ρ0 => match ρ0[i]? with
  | some (some (.v (.int a))) => bindR c (fun ov ρ => match ov.get ρ with
    | some (.v (.int b)) => setL i (.v (.int (a + b))) ρ
    | _ => .no) ρ0
  | _ => .no
theorem gS_aug {i : Nat} {x : Str} {c : Loc → Rs OV} {p pos : Pos} (hnd : X.N.Nodup) (hi : X.N[i]? = some x) (hx : L2.Loc X.env.scope x) (hf : X.fn x = true ∨ X.env.scope.names.lookup x = some .local) (hK : i ∉ K) (h : GO m X W e c) : GS X W K (.AugAssign (.Name x p) .Add e pos) (augS i c) := by
  obtain ⟨t, pe, g⟩ := h
  refine ⟨_, ps_aug hnd hi hx pe ip_add hf, fun ρ σ H L D rl po => ?_⟩
  unfold augS at po
  split at po
  · rename_i a ha
    obtain ⟨v, Ls, Lr, h1, h2, _⟩ := rl.get ha
    refine ⟨v, h1, g ρ σ H L _ rl ?_⟩
    unfold bindR at po
    cases hc : c ρ with
    | no => rw [hc] at po; exact po
    | ex x ρ1 => rw [hc] at po; exact fun cls d H' L' r a2 => po cls d σ H' L' r (a2.mono fun _ => rfl) .refl
    | ok ov ρ1 =>
      rw [hc] at po
      intro u H1 Lt L1 ro aft dj sb hρ
      dsimp only at po
      split at po
      · rename_i b hb
        obtain ⟨Ls', rs, _⟩ := ro.get aft.rl hb
        exact ⟨a, b, h2.val, rs.val, po_set (Ls := []) (s := .v (.int (a + b))) hK (aft.mono fun _ => rfl) .refl (.v rfl) (fun _ h => nomatch h) (fun _ h => nomatch h) po⟩
      · exact po.elim
  · exact po.elim
theorem gS_nv {st : Stmt} {c : Loc → Rs Fl} (h : ∀ ρ, c ρ = .no) : GS X W K st c := ⟨fun _ _ _ => False, ⟨fun _ _ _ _ _ _ h => h.elim⟩, fun ρ _ _ _ _ _ po => by rw [h ρ] at po; exact po⟩
theorem gS_noS {st : Stmt} : GS X W K st noS := gS_nv fun _ => rfl
/-! ### return {..}: what a name held goes along -/
def movS (i : Nat) : Loc → Rs SV := fun ρ => match ρ[i]? with
  | some (some s) => .ok s (ρ.set i none)
  | _ => .no
theorem gV_mov {i : Nat} {x : Str} {p : Pos} (hN : X.N[i]? = some x) (hv : Vis X.env.scope x) (hd : (x == ("__debug__" : Str)) = false) (hcd : (x == ("__classdict__" : Str)) = false) : GV true X W (.Name x p) (movS i) := by
  refine ⟨_, pe_var hN hv hd hcd, fun ρ σ H L Q rl po => ?_⟩
  unfold movS at po
  split at po
  · rename_i s hs
    obtain ⟨y, Ls, Lr, h1, h2, h3, h4, h5⟩ := rl.get hs
    exact ⟨y, h1, po y H Ls Lr h2 ⟨h3, .refl, fun a ha => .inl ((h5 a).mpr (.inr ha))⟩ h4 (fun a ha => .inl ((h5 a).mpr (.inl ha))) fun z => nomatch z⟩
  · exact po.elim
def apart (x : Str) : Expr → Bool
  | .Constant _ _ _ => true
  | .Name y _ => !(y == x)
  | _ => false
def evMs (n : Nat) (Γ : Ctx) (ev : Expr → Loc → Rs OV) : List Expr → List (Loc → Rs SV)
  | [] => []
  | .Name x p :: es => (match slotOf Γ x with
    | some i => if decide (i ∉ Γ.K) && es.all (apart x) then movS i else keepS (ev (.Name x p))
    | none => keepS (ev (.Name x p))) :: evMs n Γ ev es
  | e :: es => keepS (ev e) :: evMs n Γ ev es
def evRec (n : Nat) (Γ : Ctx) (ev : Expr → Loc → Rs OV) (keys : List (Option Expr)) (es : List Expr) : Loc → Rs Fl := match strKs keys with
  | some ks => if decide (ks.length = es.length) && decide (ks.Nodup) && !ks.isEmpty && decide (ks.length ≤ 15) then retS (keepS (recD ks (seqV (evMs n Γ ev es)))) else noS
  | none => noS
/-! ### a, b = .., .. -/
/-- the names of a display of targets, all of them the block's plain locals on one line -/
def parNames (sc : Scope) (line : Nat) : List Expr → Option (List Str)
  | [] => some []
  | .Name x p :: r => if sc.names.lookup x == some .local && p.line == line then match parNames sc line r with
    | some xs => some (x :: xs)
    | none => none
    else none
  | _ :: _ => none
def line1 (ts : List Expr) : Nat := (ts.head?.map (·.pos.line)).getD 0
def slots (N : List Str) : List Str → Option (List Nat)
  | [] => some []
  | x :: xs => match ixOf N x, slots N xs with
    | some i, some is => some (i :: is)
    | _, _ => none
/-- the stores are not swapped for sure -/
def offT (sc : Scope) : Expr → Bool
  | .Name x _ => sc.names.lookup x == some .cell
  | _ => true
def offSw (sc : Scope) (ts : List Expr) : Bool := !(ts.length == 2 || ts.length == 3) || ts.any (offT sc)
def namesOf (Γ : Ctx) : List Expr → Option (List Nat)
  | [] => some []
  | .Name x _ :: ts => match storeOf Γ x, namesOf Γ ts with
    | some i, some is => if i ∈ Γ.K then none else some (i :: is)
    | _, _ => none
  | _ :: _ => none
def evParG (n : Nat) (Γ : Ctx) (ev : Expr → Loc → Rs OV) (ts vs : List Expr) : Loc → Rs Fl :=
  if noStars ts && noStars vs && decide (vs.length ≤ 1000) then match namesOf Γ ts with
    | some is => parN is (seqV (vs.map fun e => keepS (ev e)))
    | none => match optAll (ts.map (evTg n Γ)) with
      | some tg => unpS (.tp tg) (tupO (seqP (vs.map fun e => keepP (ev e))))
      | none => noS
  else noS
def evPar (n : Nat) (Γ : Ctx) (ev : Expr → Loc → Rs OV) (ts vs : List Expr) : Loc → Rs Fl :=
  if !vs.all (foldedForSure 8) && offSw Γ.sc ts then evParG n Γ ev ts vs else if vs.all (foldedForSure 8) then match optAll (ts.map (evTg n Γ)) with
    | some tg => if noStars ts && noStars vs && decide (vs.length ≤ 1000) then unpS (.tp tg) (tupO (seqP (vs.map fun e => keepP (ev e)))) else noS
    | none => noS
  else if noStars vs && !vs.all (constantsAlone 8) then match parNames Γ.sc (line1 ts) ts, vs with
    | some [x, y], [_, _] => match slots Γ.N [x, y] with
      | some [i, j] => if i ≠ j ∧ i ∉ Γ.K ∧ j ∉ Γ.K then parS [i, j] (seqV (vs.map fun e => keepS (ev e))) else noS
      | _ => noS
    | some [x, y, z], [_, _, _] => match slots Γ.N [x, y, z] with
      | some [i, j, l] => if i ≠ j ∧ i ≠ l ∧ j ≠ l ∧ i ∉ Γ.K ∧ j ∉ Γ.K ∧ l ∉ Γ.K then parS [i, j, l] (seqV (vs.map fun e => keepS (ev e))) else noS
      | _ => noS
    | _, _ => noS
  else noS
def isTupE : Expr → Bool
  | .Tuple .. => true
  | _ => false
/-! ### errors -/
def inX (Γ : Ctx) (y : Str) : Bool := isGl Γ y && (Γ.xs.lookup y).isSome
def errNames (Γ : Ctx) : List Expr → Option (List Str)
  | [] => some []
  | .Name y _ :: r => if inX Γ y then match errNames Γ r with
    | some ys => some (y :: ys)
    | none => none
    else none
  | _ :: _ => none
def evTest (Γ : Ctx) : Expr → Option (List Str)
  | .Name y _ => if inX Γ y then some [y] else none
  | .Tuple es _ _ => match errNames Γ es with
    | some ys => if ys.length ≤ 1000 then some ys else none
    | none => none
  | _ => none
def fdNames : List Str := ["part", "line", "most"]
def evAct (Γ : Ctx) (sl : Option (Str × Nat)) : Stmt → Option Act
  | .Assign [.Name y _] e _ => match storeOf Γ y with
    | some i => if i ∈ Γ.K ∨ (sl.map (·.2)) = some i then none else match e with
      | .Constant (.int j) _ _ => some (.cst i (.int j))
      | .Constant (.str j) _ _ => some (.cst i (.str j))
      | .Constant (.bool j) _ _ => some (.cst i (.bl j))
      | .Constant .none _ _ => some (.cst i .non)
      | .List [] _ => some (.nil i)
      | .List [.Attribute (.Name n _) f _] _ => match sl with
        | some (n', _) => if n = n' ∧ f ∈ fdNames then some (.lfl i f) else none
        | none => none
      | .Attribute (.Name n _) f _ => match sl with
        | some (n', _) => if n = n' ∧ f ∈ fdNames then some (.fld i f) else none
        | none => none
      | .Name n _ => match sl, slotOf Γ n with
        | some (n', _), some j => if n = n' then some (.slf i) else some (.var i j)
        | none, some j => some (.var i j)
        | _, none => none
      | _ => none
    | none => none
  | .Return (some (.Name y _)) _ => if isGl Γ y then match Γ.cs.lookup y with
    | some (.str z) => some (.ret (.str z))
    | _ => none
    else none
  | _ => none
def evHd (Γ : Ctx) : ExceptHandler → Option Hdl
  | .ExceptHandler (some t) none [st] _ => match evTest Γ t, evAct Γ none st with
    | some ys, some act => some ⟨ys, none, act⟩
    | _, _ => none
  | .ExceptHandler (some t) (some n) [st] _ => match evTest Γ t, slotOf Γ n with
    | some ys, some k => if Γ.sc.names.lookup n == some .local && decide (k ∉ Γ.K) then match evAct Γ (some (n, k)) st with
      | some act => some ⟨ys, some k, act⟩
      | none => none
      else none
    | _, _ => none
  | _ => none
def evHds (Γ : Ctx) : List ExceptHandler → Option (List Hdl)
  | [] => some []
  | h :: r => match evHd Γ h, evHds Γ r with
    | some x, some xs => some (x :: xs)
    | _, _ => none
def kn (Γ : Ctx) : List Str := Γ.xs.map (·.1)
mutual
def evS : Nat → Ctx → Stmt → Loc → Rs Fl
  | 0, _, _ => noS
  | n + 1, Γ, st => match st with
    | .Pass _ => skip
    | .Break _ => fun ρ => .ok .bk ρ
    | .Continue _ => fun ρ => .ok .ct ρ
    | .Return none _ => fun ρ => .ok (.rt (.v .non)) ρ
    | .Return (some (.Name x p)) _ => match slotOf Γ x with
      | some i => if i ∈ Γ.K then retS (keepS (evO n Γ (.Name x p))) else retM i
      | none => retS (keepS (evO n Γ (.Name x p)))
    | .Return (some (.Dict keys es _)) _ => evRec n Γ (evO n Γ) keys es
    | .Return (some e) _ => retS (keepS (evO n Γ e))
    | .Expr e _ => if isComp e then noS else exprS (evO n Γ e)
    | .If t x y _ => ifS (evT n Γ t) (evSs n Γ x) (evSs n Γ y)
    | .For t iter body [] _ => match evTg n Γ t with
      | some tg => if isSet iter then noS else forS tg (evK n Γ (isTupT t) (evO n Γ) iter) (evSs n Γ body)
      | none => noS
    | .While t body [] _ => whl (evT n Γ t) (evSs n Γ body) fuelW
    | .Assign [.Name x _] e _ => match storeOf Γ x with
      | some i => if i ∈ Γ.K then noS else if isComp e then match e with
        | .ListComp elt [⟨tg, iter, ifs, 0⟩] scope _ => asgS i (keepS (evL n Γ (evO n) (evT n) elt tg iter ifs scope))
        | _ => noS
        else asgS i (keepS (evO n Γ e))
      | none => noS
    | .Assign [.Tuple ts k p] (.Tuple vs _ _) _ => evPar n Γ (evO n Γ) ts vs
    | .Assign [.Tuple ts k p] e _ => match evTg n Γ (.Tuple ts k p) with
      | some tg => if isTupE e then noS else unpS tg (evO n Γ e)
      | none => noS
    | .Assign [.Subscript (.Name x _) (.Constant (.str k) _ _) _] e _ => match slotOf Γ x with
      | some i => recS i k (keepS (evO n Γ e))
      | none => noS
    | .Assign [.Subscript (.Subscript (.Name x _) (.Constant (.str f) _ _) _) b _] e _ => match slotOf Γ x with
      | some i => if isSlice b || !inert n Γ b then noS else recIx i f (keepP (evO n Γ e)) (evO n Γ b)
      | none => noS
    | .Assign [.Subscript (.Name x _) b _] e _ => match slotOf Γ x with
      | some i => if isSlice b then noS else setO i (keepP (evO n Γ e)) (evO n Γ b)
      | none => noS
    | .AugAssign (.Name x _) .Add e _ => match storeOf Γ x with
      | some i => if i ∈ Γ.K then noS else augS i (evO n Γ e)
      | none => noS
    | .Raise (some (.Call (.Name x _) [e] [] _)) none _ => match Γ.xs.lookup x with
      | some fo => if isGl Γ x && !isStar e then raiS x fo (keepP (evO n Γ e)) else noS
      | none => noS
    | .Try body (h :: hds) [] [] _ => match evHds Γ (h :: hds) with
      | some hs => tryS (kn Γ) hs (evSs n Γ body)
      | none => noS
    | _ => noS
def evSs : Nat → Ctx → List Stmt → Loc → Rs Fl
  | 0, _, _ => noS
  | n + 1, Γ, sts => match sts with
    | [] => skip
    | [st] => evS n Γ st
    | st :: r => seqS (evS n Γ st) (evSs n Γ r)
end
/-! ### it is sound -/
theorem sw_fold {ts vs : List Expr} {k k2 : Nat} {p p2 : Pos} {env : Env} (h : vs.all (foldedForSure 8) = true) : swappedStores [.Tuple ts k p] (.Tuple vs k2 p2) env = pure none := by
  unfold swappedStores
  dsimp only
  repeat' split
  all_goals first | rfl | (rename_i z; exact absurd h z) | skip
theorem parNames_cons {sc : Scope} {line : Nat} {ts : List Expr} {x : Str} {xs : List Str} (h : parNames sc line ts = some (x :: xs)) : ∃ p r, ts = .Name x p :: r ∧ sc.names.lookup x = some .local ∧ (p.line == line) = true ∧ parNames sc line r = some xs := by
  unfold parNames at h
  split at h
  · cases h
  · split at h
    · rename_i hc
      rw [Bool.and_eq_true] at hc
      split at h
      · cases h; exact ⟨_, _, rfl, eq_of_beq hc.1, hc.2, ‹_›⟩
      · cases h
    · cases h
  · cases h
theorem parNames_nil {sc : Scope} {line : Nat} {ts : List Expr} (h : parNames sc line ts = some []) : ts = [] := by
  unfold parNames at h
  split at h
  · rfl
  · split at h
    · split at h <;> cases h
    · cases h
  · cases h
theorem slots_cons {N : List Str} {x : Str} {xs : List Str} {i : Nat} {is : List Nat} (h : slots N (x :: xs) = some (i :: is)) : ixOf N x = some i ∧ slots N xs = some is := by
  unfold slots at h
  split at h
  · cases h; exact ⟨‹_›, ‹_›⟩
  · cases h
def parF (env : Env) (line : Nat) : Expr → Option Str := fun
  | .Name id pos => if env.kindOf id == some NameKind.local && pos.line == line then some id else none
  | _ => none
theorem parNames_eq {sc : Scope} {env : Env} {line : Nat} (hl : ∀ x, sc.names.lookup x = some .local → env.scope.names.lookup x = some .local) : ∀ {ts : List Expr} {xs : List Str}, parNames sc line ts = some xs → ts.filterMap (parF env line) = xs
  | ts, [], h => by rw [parNames_nil h]; rfl
  | ts, x :: xs, h => by
    obtain ⟨p, r, rfl, h1, h2, h3⟩ := parNames_cons h
    rw [List.filterMap_cons_some (b := x), parNames_eq hl h3]
    show (if (env.kindOf x == some NameKind.local && p.line == line) = true then some x else none) = some x
    rw [if_pos]
    rw [h2, Bool.and_true]
    unfold Env.kindOf
    rw [hl x h1]; rfl
theorem sw_par {ts vs : List Expr} {names : List Str} {k k2 : Nat} {p p2 : Pos} {env : Env} (h23 : (ts.length == 2 || ts.length == 3) = true) (hl : (vs.length != ts.length) = false) (bk : (env.blockKind != .function) = false) (hst : (vs.any fun | .Starred .. => true | _ => false) = false)
    (hf : ts.filterMap (parF env (line1 ts)) = names) (hnl : (names.length != ts.length) = false) (hd : (names.eraseDups.length != names.length) = false) (hff : vs.all (foldedForSure 8) = false) (hca : vs.all (constantsAlone 8) = false) :
    swappedStores [.Tuple ts k p] (.Tuple vs k2 p2) env = pure (some names) := by
  unfold swappedStores
  dsimp only
  rw [if_neg (by rw [h23, hl, bk]; exact Bool.false_ne_true)]
  refine (if_neg (fun z => Bool.false_ne_true (hst.symm.trans z))).trans ?_
  refine Eq.trans (b := if ((ts.filterMap (parF env (line1 ts))).length != ts.length || (ts.filterMap (parF env (line1 ts))).eraseDups.length != (ts.filterMap (parF env (line1 ts))).length) = true then pure none else if vs.all (foldedForSure 8) = true then pure none else
    if vs.all (constantsAlone 8) = true then (do unsupported "assign.tuple-of-constant-expressions:order-of-the-stores"; pure (some (ts.filterMap (parF env (line1 ts))))) else pure (some (ts.filterMap (parF env (line1 ts))))) rfl ?_
  rw [hf, if_neg (by rw [hnl, hd]; exact Bool.false_ne_true), if_neg (by rw [hff]; exact Bool.false_ne_true), if_neg (by rw [hca]; exact Bool.false_ne_true)]
theorem filterMap_lt {α β : Type} {f : α → Option β} : ∀ {l : List α}, (∃ x ∈ l, f x = none) → (l.filterMap f).length < l.length
  | [], ⟨_, h, _⟩ => nomatch h
  | x :: l, ⟨y, h, e⟩ => by
    have hle := List.length_filterMap_le f l
    cases hx : f x with
    | none => rw [List.filterMap_cons_none hx, List.length_cons]; omega
    | some z =>
      rw [List.filterMap_cons_some hx, List.length_cons, List.length_cons]
      rcases List.mem_cons.mp h with rfl | h
      · rw [hx] at e; cases e
      · have := filterMap_lt ⟨y, h, e⟩; omega
theorem sw_off (ok : CtxOk Γ X W) {ts vs : List Expr} {k k2 : Nat} {p p2 : Pos} (h : offSw Γ.sc ts = true) : swappedStores [.Tuple ts k p] (.Tuple vs k2 p2) X.env = pure none := by
  unfold swappedStores
  dsimp only
  split
  · rfl
  · rename_i h1
    split
    · rfl
    · refine if_pos ?_
      have h2 : (ts.length == 2 || ts.length == 3) = true := by
        cases hh : (ts.length == 2 || ts.length == 3) with
        | true => rfl
        | false => rw [hh] at h1; exact absurd rfl h1
      unfold offSw at h
      rw [h2, Bool.not_true, Bool.false_or] at h
      obtain ⟨t, ht, ho⟩ := List.any_eq_true.mp h
      have key := filterMap_lt (f := parF X.env (line1 ts)) (l := ts) ⟨t, ht, by
        cases t with
        | Name x pos =>
          have hk := (ok.nm x _ (eq_of_beq ho)).1 (by decide)
          show (if (X.env.kindOf x == some NameKind.local && pos.line == line1 ts) = true then some x else none) = none
          rw [if_neg]
          unfold Env.kindOf
          rw [hk]
          exact Bool.false_ne_true
        | _ => rfl⟩
      rw [Bool.or_eq_true]
      refine .inl ?_
      rw [bne_iff_ne]
      exact Nat.ne_of_lt key
theorem namesOf_ok (ok : CtxOk Γ X W) : ∀ {ts : List Expr} {is : List Nat}, namesOf Γ ts = some is → NamesAt X Γ.K ts is
  | [], _, h => by cases h; exact .nil
  | t :: ts, is, h => by
    unfold namesOf at h
    split at h
    · cases ‹_ :: _ = []›
    · rename_i x p ts' heq
      cases heq
      split at h
      · rename_i i is' hi hs
        split at h
        · cases h
        · rename_i hK
          cases h
          obtain ⟨h1, h2, h3⟩ := ok.store hi
          exact .cons h1 h2 h3 hK (namesOf_ok ok hs)
      · cases h
    · cases h
theorem gS_evParG (ok : CtxOk Γ X W) (hO : ∀ e, GO (!inert n Γ e) X W e (evO n Γ e)) {ts vs : List Expr} {k k2 : Nat} {p p2 pos : Pos} (h : offSw Γ.sc ts = true) : GS X W Γ.K (.Assign [.Tuple ts k p] (.Tuple vs k2 p2) pos) (evParG n Γ (evO n Γ) ts vs) := by
  have hN : X.N.Nodup := by rw [ok.N]; exact ok.nd
  unfold evParG
  split
  · rename_i hc
    rw [Bool.and_eq_true, Bool.and_eq_true] at hc
    split
    · rename_i is hi
      exact gS_parN ok.calm hN (namesOf_ok ok hi) (sw_off ok h) (by rw [List.length_map]; exact of_decide_eq_true hc.2) (gVs_of hO hc.1.2)
    · split
      · rename_i tg htg
        have gg : GG X Γ.K (.Tuple ts k p) (.tp tg) := by
          refine evTg_ok (n + 1) ok ?_
          show (if noStars ts = true then _ else _) = _
          rw [if_pos hc.1.1, htg]
        exact gS_unp gg rfl (fun _ _ h => nomatch h) (sw_off ok h) (gO_tup (gPs_of hO hc.1.2) (by rw [List.length_map]; exact of_decide_eq_true hc.2))
      · exact gS_noS
  · exact gS_noS
theorem gS_evPar (ok : CtxOk Γ X W) (hO : ∀ e, GO (!inert n Γ e) X W e (evO n Γ e)) {ts vs : List Expr} {k k2 : Nat} {p p2 pos : Pos} : GS X W Γ.K (.Assign [.Tuple ts k p] (.Tuple vs k2 p2) pos) (evPar n Γ (evO n Γ) ts vs) := by
  have hN : X.N.Nodup := by rw [ok.N]; exact ok.nd
  have loc : ∀ x, Γ.sc.names.lookup x = some .local → X.env.scope.names.lookup x = some .local := fun x h => (ok.nm x _ h).1 (by decide)
  have bk : (X.env.blockKind != .function) = false := by unfold Env.blockKind; rw [ok.fk]; rfl
  unfold evPar
  split
  · rename_i hoff
    rw [Bool.and_eq_true] at hoff
    exact gS_evParG ok hO hoff.2
  rename_i hno
  clear hno
  split
  · rename_i hf
    split
    · rename_i tg htg
      split
      · rename_i hc
        rw [Bool.and_eq_true, Bool.and_eq_true] at hc
        have gg : GG X Γ.K (.Tuple ts k p) (.tp tg) := by
          refine evTg_ok (n + 1) ok ?_
          show (if noStars ts = true then _ else _) = _
          rw [if_pos hc.1.1, htg]
        exact gS_unp gg rfl (fun _ _ h => nomatch h) (sw_fold hf) (gO_tup (gPs_of hO hc.1.2) (by rw [List.length_map]; exact of_decide_eq_true hc.2))
      · exact gS_noS
    · exact gS_noS
  · rename_i hf
    split
    · rename_i hc
      rw [Bool.and_eq_true] at hc
      have hca := bl_not hc.2
      have hff : vs.all (foldedForSure 8) = false := by simpa using hf
      have hst : (vs.any fun | .Starred .. => true | _ => false) = false := by
        have := hc.1
        unfold noStars at this
        rw [List.any_eq_false]
        intro e he
        have := List.all_eq_true.mp this e he
        cases e <;> first | exact Bool.false_ne_true | (exact fun _ => Bool.noConfusion this)
      split
      · rename_i x y a b hpn
        split
        · rename_i i j hs
          split
          · rename_i hk
            obtain ⟨s1, s2⟩ := slots_cons hs
            obtain ⟨s2, _⟩ := slots_cons s2
            have hp0 := hpn
            obtain ⟨px, r, rfl, l1, e1, hpn⟩ := parNames_cons hpn
            obtain ⟨py, r, rfl, l2, e2, hpn⟩ := parNames_cons hpn
            obtain rfl := parNames_nil hpn
            have hxy : x ≠ y := fun z => hk.1 (by subst z; rw [s1] at s2; cases s2; rfl)
            refine gS_par2 ok.calm hN (by rw [ok.N]; exact ixOf_at s1) (by rw [ok.N]; exact ixOf_at s2) hk.1 (loc x l1) (loc y l2) ?_ hk.2.1 hk.2.2 (gVs_of hO hc.1)
            have n2 : (y == x) = false := beq_eq_false_iff_ne.mpr fun z => hxy z.symm
            exact sw_par rfl rfl bk hst (parNames_eq loc hp0) rfl (by simp [List.eraseDups, List.eraseDupsBy, List.eraseDupsBy.loop, n2]) hff hca
          · exact gS_noS
        · exact gS_noS
      · rename_i x y z a b c hpn
        split
        · rename_i i j l hs
          split
          · rename_i hk
            obtain ⟨s1, s2⟩ := slots_cons hs
            obtain ⟨s2, s3⟩ := slots_cons s2
            obtain ⟨s3, _⟩ := slots_cons s3
            have hp0 := hpn
            obtain ⟨px, r, rfl, l1, e1, hpn⟩ := parNames_cons hpn
            obtain ⟨py, r, rfl, l2, e2, hpn⟩ := parNames_cons hpn
            obtain ⟨pz, r, rfl, l3, e3, hpn⟩ := parNames_cons hpn
            obtain rfl := parNames_nil hpn
            refine gS_par3 ok.calm hN (by rw [ok.N]; exact ixOf_at s1) (by rw [ok.N]; exact ixOf_at s2) (by rw [ok.N]; exact ixOf_at s3) hk.1 hk.2.1 hk.2.2.1 (loc x l1) (loc y l2) (loc z l3) ?_ hk.2.2.2.1 hk.2.2.2.2.1 hk.2.2.2.2.2 (gVs_of hO hc.1)
            have nxy : (y == x) = false := beq_eq_false_iff_ne.mpr fun w => hk.1 (by subst w; rw [s1] at s2; cases s2; rfl)
            have nxz : (z == x) = false := beq_eq_false_iff_ne.mpr fun w => hk.2.1 (by subst w; rw [s1] at s3; cases s3; rfl)
            have nyz : (z == y) = false := beq_eq_false_iff_ne.mpr fun w => hk.2.2.1 (by subst w; rw [s2] at s3; cases s3; rfl)
            exact sw_par rfl rfl bk hst (parNames_eq loc hp0) rfl (by simp [List.eraseDups, List.eraseDupsBy, List.eraseDupsBy.loop, nxy, nxz, nyz]) hff hca
          · exact gS_noS
        · exact gS_noS
      · exact gS_noS
    · exact gS_noS
theorem swL {elt : Expr} {gens : List Comprehension} {scope : Scope} {lp p : Pos} {x : Str} {l : Nat} {env : Env} : ∃ b, swapsWith (.ListComp elt gens scope lp) (some (.Name x p)) l env = pure b ∧ (b = true → env.scope.names.lookup x = some .local) := by
  refine ⟨_, rfl, fun h => ?_⟩
  simp only [Bool.and_eq_true] at h
  exact eq_of_beq h.1.1.2
theorem gS_evLc (ok : CtxOk Γ X W) {i : Nat} {x : Str} (hst : storeOf Γ x = some i) (hK : i ∉ Γ.K) {elt tg iter : Expr} {ifs : List Expr} {scope : Scope} {p lp pos : Pos} :
    GS X W Γ.K (.Assign [.Name x p] (.ListComp elt [⟨tg, iter, ifs, 0⟩] scope lp) pos) (asgS i (keepS (evL n Γ (evO n) (evT n) elt tg iter ifs scope))) := by
  have hN : X.N.Nodup := by rw [ok.N]; exact ok.nd
  obtain ⟨h1, h2, h3⟩ := ok.store hst
  have nv : GS X W Γ.K (.Assign [.Name x p] (.ListComp elt [⟨tg, iter, ifs, 0⟩] scope lp) pos) (asgS i (keepS noO)) := gS_nv fun _ => rfl
  unfold evL
  dsimp only
  split
  · rename_i t ht
    split
    · rename_i hc
      rw [Bool.and_eq_true] at hc
      have hset : isSet iter = false := bl_not hc.2
      have base : ∀ {ct : Loc → Rs Bool}, (∀ (s : Shared) (H : Hp) (C : Addr) (cl : List (Str × Addr)) (fp : List Addr), GTs (X.blk s H scope (compEnvC scope cl C X.env) fp) WF ifs ct) →
          GS X W Γ.K (.Assign [.Name x p] (.ListComp elt [⟨tg, iter, ifs, 0⟩] scope lp) pos) (asgS i (keepS (lcO Γ.N.length t ((ownOf Γ.N scope.names).map (·.2)) (evK n Γ (isTupT tg) (evO n Γ) iter) ct (keepP (evO n (inner Γ scope ((ownOf Γ.N scope.names).map (·.2))) elt))))) := fun {ct} hts => by
        have lok : LcOk X scope (ownOf Γ.N scope.names) elt tg ifs t ct (keepP (evO n (inner Γ scope ((ownOf Γ.N scope.names).map (·.2))) elt)) := by
          refine ⟨ok.blkOk hc.1, fun s H C cl fp => ?_, hts, fun s H C cl fp => gP_keep ((sound n).1 (ok.blk hc.1 _ s H C cl fp) elt)⟩
          rw [ok.N]
          exact evTg_ok n (ok.blk hc.1 _ s H C cl fp) ht
        obtain ⟨b, hb, hl⟩ := swL (elt := elt) (gens := [⟨tg, iter, ifs, 0⟩]) (scope := scope) (lp := lp) (p := p) (x := x) (l := pos.line) (env := X.env)
        cases b with
        | true =>
          have := gS_asgLc (K := Γ.K) ok.calm hN h1 (hl rfl) hb hK (gWk_ev ok ((sound n).1 ok)) lok hset
          rw [ok.N] at this
          exact this
        | false =>
          have := gS_asgLc0 (K := Γ.K) ok.calm hN h1 h2 h3 hb hK (gWk_ev ok ((sound n).1 ok)) lok hset
          rw [ok.N] at this
          exact this
      split
      · exact base fun s H C cl fp => .inl ⟨rfl, rfl⟩
      · rename_i c
        exact base fun s H C cl fp => .inr ⟨c, rfl, (sound n).2 (ok.blk hc.1 ((ownOf Γ.N scope.names).map (·.2)) s H C cl fp) c⟩
      · exact nv
    · exact nv
  · exact nv
theorem gV_evM (ok : CtxOk Γ X W) (hO : ∀ e, GO (!inert n Γ e) X W e (evO n Γ e)) {x : Str} {p : Pos} {es : List Expr} : GV true X W (.Name x p) (match slotOf Γ x with
    | some i => if decide (i ∉ Γ.K) && es.all (apart x) then movS i else keepS (evO n Γ (.Name x p))
    | none => keepS (evO n Γ (.Name x p))) := by
  split
  · rename_i i hi
    split
    · obtain ⟨h1, h2, h3, h4⟩ := ok.slot hi
      exact gV_mov h1 h2 h3 h4
    · exact gV_keep (hO _)
  · exact gV_keep (hO _)
theorem gDs_evM (ok : CtxOk Γ X W) (hO : ∀ e, GO (!inert n Γ e) X W e (evO n Γ e)) {pos : Pos} : ∀ {keys : List (Option Expr)} {ks : List Str} {es : List Expr}, strKs keys = some ks → ks.length = es.length → GDs X W pos keys ks es (seqV (evMs n Γ (evO n Γ) es))
  | [], ks, es, h, hl => by
    cases h
    cases es with
    | nil => exact gDs_nil
    | cons _ _ => cases hl
  | k :: keys, ks, es, h, hl => by
    unfold strKs at h
    split at h
    · cases ‹_ :: _ = []›
    · rename_i k' j p r heq
      cases heq
      split at h
      · rename_i ks' hk
        cases h
        cases es with
        | nil => cases hl
        | cons e es =>
          have ih := gDs_evM ok hO (pos := pos) hk (show ks'.length = es.length by simpa using hl)
          cases e
          case Name x p => exact gDs_cons (gV_evM ok hO) ih
          all_goals exact gDs_cons (gV_keep (hO _)) ih
      · cases h
    · cases h
theorem gS_evRec (ok : CtxOk Γ X W) (hO : ∀ e, GO (!inert n Γ e) X W e (evO n Γ e)) {keys : List (Option Expr)} {es : List Expr} {p pos : Pos} : GS X W Γ.K (.Return (some (.Dict keys es p)) pos) (evRec n Γ (evO n Γ) keys es) := by
  unfold evRec
  split
  · rename_i ks hk
    split
    · rename_i hc
      rw [Bool.and_eq_true, Bool.and_eq_true, Bool.and_eq_true] at hc
      refine gS_ret (gV_keep (gO_recD (gDs_evM ok hO hk (of_decide_eq_true hc.1.1.1)) (of_decide_eq_true hc.1.1.2) (fun z => ?_) (of_decide_eq_true hc.2)))
      subst z
      cases hk
      exact Bool.noConfusion hc.1.2
    · exact gS_noS
  · exact gS_noS
/-- the context of statements -/
structure CtxS (Γ : Ctx) (X : Cx) (W : WX) : Prop where
  ok : CtxOk Γ X W
  st : X.stack = X.env :: X.outer
  fr : X.env.frame = some X.env.locals
  ex0 : X.ex = []
theorem CtxS.tr (c : CtxS Γ X W) {W' : WX} {pn : List (Addr × Obj)} {xe : Value → Shared → Prop} (tk : Takes (X.tr pn xe) W') (ho : PassesOwn (model X.prog X.w) X.A X.env xe) : CtxS Γ (X.tr pn xe) W' where
  ok := { N := c.ok.N, nd := c.ok.nd, calm := c.ok.calm, tk := tk, own := ho, un := c.ok.un, gd := c.ok.gd, fk := c.ok.fk, nm := c.ok.nm, fn := c.ok.fn, cs := c.ok.cs, bl := c.ok.bl, fs := fun x f h => ⟨(c.ok.fs x f h).ex⟩, dp := c.ok.dp, xs := c.ok.xs, er := c.ok.er }
  st := c.st
  fr := c.fr
  ex0 := c.ex0
theorem isGl_gl (ok : CtxOk Γ X W) {y : Str} (h : isGl Γ y = true) : Gl X y ∧ (y == ("__debug__" : Str)) = false := by
  unfold isGl at h
  rw [Bool.and_eq_true] at h
  refine ⟨?_, (okNm_db h.2).1⟩
  have h1 := h.1
  split at h1
  · rename_i hk; exact (ok.nm y _ hk).1 (by decide)
  · cases h1
theorem lookup_mem {β : Type} {x : Str} : ∀ {l : List (Str × β)}, (l.lookup x).isSome = true → x ∈ l.map (·.1)
  | (y, b) :: r, h => by
    rw [List.lookup_cons] at h
    split at h
    · rename_i e; rw [eq_of_beq e]; exact List.mem_cons_self
    · exact List.mem_cons_of_mem _ (lookup_mem h)
theorem inX_ok (ok : CtxOk Γ X W) {y : Str} (h : inX Γ y = true) : y ∈ kn Γ ∧ Gl X y ∧ (y == ("__debug__" : Str)) = false := by
  unfold inX at h
  rw [Bool.and_eq_true] at h
  exact ⟨lookup_mem h.2, isGl_gl ok h.1⟩
theorem errNames_ok (ok : CtxOk Γ X W) : ∀ {es : List Expr} {ys : List Str}, errNames Γ es = some ys → NamesIn X (kn Γ) es ys
  | [], _, h => by cases h; exact .nil
  | e :: es, ys, h => by
    unfold errNames at h
    split at h
    · cases ‹_ :: _ = []›
    · rename_i y p r heq
      cases heq
      split at h
      · rename_i hi
        split at h
        · rename_i zs hz
          cases h
          obtain ⟨a, b, c⟩ := inX_ok ok hi
          exact .cons a b c (errNames_ok ok hz)
        · cases h
      · cases h
    · cases h
theorem evTest_ok (ok : CtxOk Γ X W) {t : Expr} {ys : List Str} (h : evTest Γ t = some ys) : TestIn X (kn Γ) t ys := by
  unfold evTest at h
  split at h
  · split at h
    · rename_i hi
      cases h
      obtain ⟨a, b, c⟩ := inX_ok ok hi
      exact .one a b c
    · cases h
  · split at h
    · rename_i zs hz
      split at h
      · rename_i hl; cases h; exact .many (errNames_ok ok hz) hl
      · cases h
    · cases h
  · cases h
theorem evAct_ok (ok : CtxOk Γ X W) {sl : Option (Str × Nat)} {st : Stmt} {act : Act} (hsl : ∀ n k, sl = some (n, k) → slotOf Γ n = some k) (h : evAct Γ sl st = some act) : SuOn X (kn Γ) W Γ.K (sl.map (·.2)) st act := by
  unfold evAct at h
  split at h
  · rename_i y p e pos
    split at h
    · rename_i i hi
      split at h
      · cases h
      · rename_i hc
        rw [not_or] at hc
        obtain ⟨s1, s2, s3⟩ := ok.store hi
        have S : StoreOk X Γ.K (sl.map (·.2)) y i := ⟨by rw [ok.N]; exact ok.nd, s1, s2, s3, hc.1, fun k hk z => hc.2 (by rw [hk, z])⟩
        split at h
        · cases h; exact (su_cst S rfl fun a pn => gO_int).on
        · cases h; exact (su_cst S rfl fun a pn => gO_str).on
        · cases h; exact (su_cst S rfl fun a pn => gO_bl).on
        · cases h; exact (su_cst S rfl fun a pn => gO_non).on
        · cases h; exact (su_nil S).on
        · split at h
          · rename_i n' k'
            split at h
            · rename_i hn
              cases h
              obtain ⟨rfl, hf⟩ := hn
              obtain ⟨a1, a2, a3, a4⟩ := ok.slot (hsl _ _ rfl)
              exact su_lfl ok.er hf S a1 a2 a3 a4
            · cases h
          · cases h
        · split at h
          · rename_i n' k'
            split at h
            · rename_i hn
              cases h
              obtain ⟨rfl, hf⟩ := hn
              obtain ⟨a1, a2, a3, a4⟩ := ok.slot (hsl _ _ rfl)
              exact su_fld ok.er hf S a1 a2 a3 a4
            · cases h
          · cases h
        · split at h
          · rename_i n' k' j hj
            split at h
            · rename_i hn
              cases h
              subst hn
              obtain ⟨a1, a2, a3, a4⟩ := ok.slot (hsl _ _ rfl)
              exact su_slf S a1 a2 a3 a4
            · cases h
              obtain ⟨a1, a2, a3, a4⟩ := ok.slot hj
              exact (su_var S a1 a2 a3 a4).on
          · rename_i j hj
            cases h
            obtain ⟨a1, a2, a3, a4⟩ := ok.slot hj
            exact (su_var S a1 a2 a3 a4).on
          · cases h
        · cases h
    · cases h
  · rename_i y p pos
    split at h
    · rename_i hg
      obtain ⟨g1, g2⟩ := isGl_gl ok hg
      split at h
      · rename_i z hz
        cases h
        obtain ⟨⟨u, hu, r⟩, _⟩ := ok.cs y _ hz
        exact (su_ret (p' := .str z) (x' := .str z) (fun a pn => pe_glob (X := X.suite a pn) g1 hu r g2) fun _ => rfl).on
      · cases h
    · cases h
  · cases h
theorem evHds_ok (ok : CtxOk Γ X W) : ∀ {hds : List ExceptHandler} {hs : List Hdl}, evHds Γ hds = some hs → HdlsOk X (kn Γ) W Γ.K hds hs
  | [], _, h => by cases h; exact .nil
  | hd :: r, hs, h => by
    unfold evHds at h
    split at h
    · rename_i x xs hx hxs
      cases h
      have ih := evHds_ok ok hxs
      unfold evHd at hx
      split at hx
      · rename_i t st p
        split at hx
        · rename_i ys act h1 h2
          cases hx
          exact .only (evTest_ok ok h1) (evAct_ok (sl := none) ok (fun n k z => nomatch z) h2) ih
        · cases hx
      · rename_i t n st p
        split at hx
        · rename_i ys k h1 h2
          split at hx
          · rename_i hc
            rw [Bool.and_eq_true] at hc
            split at hx
            · rename_i act h3
              cases hx
              exact .as_ (evTest_ok ok h1) (ok.slot h2).1 ((ok.nm n _ (eq_of_beq hc.1)).1 (by decide)) (of_decide_eq_true hc.2) (evAct_ok ok (fun n' k' z => by cases z; exact h2) h3) ih
            · cases hx
          · cases hx
        · cases hx
      · cases hx
    · cases h
theorem soundS (n : Nat) : (∀ {Γ : Ctx} {X : Cx} {W : WX}, CtxS Γ X W → ∀ st, GS X W Γ.K st (evS n Γ st)) ∧ (∀ {Γ : Ctx} {X : Cx} {W : WX}, CtxS Γ X W → ∀ st, GSs X W Γ.K st (evSs n Γ st)) := by
  induction n with
  | zero => exact ⟨fun ok st => by unfold evS; exact gS_noS, fun ok st => by unfold evSs; exact ⟨fun _ _ _ => False, ⟨fun _ _ _ _ _ _ h => h.elim⟩, fun ρ _ _ _ _ _ po => po⟩⟩
  | succ n ih =>
    obtain ⟨hS, hSs⟩ := ih
    refine ⟨fun {Γ X W} okS st => ?_, fun {Γ X W} okS st => ?_⟩
    · have ok := okS.ok
      have h := (sound n).1 ok
      have ht := (sound n).2 ok
      have hN : X.N.Nodup := by rw [ok.N]; exact ok.nd
      unfold evS
      split
      · exact gS_pass
      · exact gS_break
      · exact gS_continue
      · exact gS_retN
      · rename_i x p pos
        split
        · rename_i i hi
          split
          · exact gS_ret (gV_keep (h _))
          · obtain ⟨h1, h2, h3, h4⟩ := ok.slot hi
            exact gS_retM h1 h2 h3 h4
        · exact gS_ret (gV_keep (h _))
      · exact gS_evRec ok h
      · exact gS_ret (gV_keep (h _))
      · split
        · exact gS_noS
        · rename_i hc; exact gS_expr (by simpa using hc) (h _)
      · exact gS_if (ht _) (hSs okS _) (hSs okS _)
      · split
        · rename_i tg htg
          split
          · exact gS_noS
          · rename_i hc
            exact gS_for ok.own ok.calm (gWk_ev ok h) (evTg_ok n ok htg) (hSs okS _) (by simpa using hc)
        · exact gS_noS
      · exact gS_while fuelW ok.own (ht _) (hSs okS _)
      · rename_i x p e pos
        split
        · rename_i i hi
          obtain ⟨h1, h2, h3⟩ := ok.store hi
          split
          · exact gS_noS
          · rename_i hK
            split
            · split
              · exact gS_evLc ok hi hK
              · exact gS_noS
            · rename_i hc
              exact gS_asg hN h1 h2 h3 (by simpa using hc) hK (gV_keep (h e))
        · exact gS_noS
      · exact gS_evPar ok h
      · rename_i ts k p e pos hne
        split
        · rename_i tg htg
          split
          · exact gS_noS
          · rename_i hc
            refine gS_unp (evTg_ok n ok htg) rfl (fun _ _ h => nomatch h) ?_ (h e)
            cases e <;> first | rfl | exact (hne _ _ _ rfl).elim
        · exact gS_noS
      · rename_i x p k j p2 p3 e pos
        split
        · rename_i i hi
          obtain ⟨h1, h2, h3, h4⟩ := ok.slot hi
          exact gS_rec ok.un h1 h2 h3 h4 (gV_keep (h e))
        · exact gS_noS
      · rename_i x p f jj p2 p3 b p4 e pos
        split
        · rename_i i hi
          obtain ⟨h1, h2, h3, h4⟩ := ok.slot hi
          split
          · exact gS_noS
          · rename_i hc
            rw [Bool.or_eq_true, not_or] at hc
            have hin : (!inert n Γ b) = false := by simpa using hc.2
            have := h b
            rw [hin] at this
            exact gS_recIx ok.un h1 h2 h3 h4 (by simpa using hc.1) (gP_keep (h e)) this
        · exact gS_noS
      · rename_i x p b p3 e pos _
        split
        · rename_i i hi
          obtain ⟨h1, h2, h3, h4⟩ := ok.slot hi
          split
          · exact gS_noS
          · rename_i hc
            exact gS_setL h1 h2 h3 h4 (by simpa using hc) (gP_keep (h e)) (h b)
        · exact gS_noS
      · rename_i x p e pos
        split
        · rename_i i hi
          obtain ⟨h1, h2, h3⟩ := ok.store hi
          split
          · exact gS_noS
          · rename_i hK
            exact gS_aug hN h1 h2 h3 hK (h e)
        · exact gS_noS
      · rename_i x p e cp pos
        split
        · rename_i fo hx
          split
          · rename_i hc
            rw [Bool.and_eq_true] at hc
            obtain ⟨g1, g2⟩ := isGl_gl ok hc.1
            exact gS_raise ok.calm ok.tk ok.dp (ok.xs x fo hx) g1 g2 (bl_not hc.2) (gP_keep (h e))
          · exact gS_noS
        · exact gS_noS
      · rename_i body hd hds pos
        split
        · rename_i hs hhs
          exact gS_try okS.st okS.fr okS.ex0 hN ok.tk ok.er (fun W' pn xe h1 h2 => hSs (okS.tr h1 h2) _) (evHds_ok ok hhs)
        · exact gS_noS
      · exact gS_noS
    · unfold evSs
      split
      · exact gSs_nil
      · exact gSs_one (hS okS _)
      · exact gSs_cons (hS okS _) (hSs okS _)
end Lt
set_option maxHeartbeats 1000000
/-! LtEnd: the law's own call. -/
namespace Lt
open PySem PySem.Spec L2
open PyProof.Rows hiding St
section
variable {P : Program} {w : World} {K : PySem.W.Frag} {mg mb : Str → Option Value} {k : Nat} {fa a : Addr} {fd : FuncData} {x : Str} {sp : Sp} {s1 : Shared} {vs : List Value} {ns : List Int}
/-- where nothing is tracked but the script -/
structure AtS (P : Program) (w : World) (K : PySem.W.Frag) (s1 : Shared) (a : Addr) (H : Hp) (xs : List V) : Prop where
  only : Only H
  seq : SqL K H a xs
  ok : HOk P w H s1.heap
  one : ∀ b, H b ≠ none → b = a
  off : H a ≠ none → K.lookup a = none
theorem AtS.of_mod {o : Obj} (kin : K.In s1.heap) (look : K.lookup a = some o) (ha : s1.heap.get? a = some { cls := .type "list", data := .seq vs.toArray }) (hi : IntsAre vs ns) (hl : ns.length ≤ sizeLine) : AtS P w K s1 a (fun _ => none) (ns.map V.int) := by
  obtain rfl : o = { cls := .type "list", data := .seq vs.toArray } := Option.some.inj ((kin a o look).symm.trans ha)
  have rv := vals_ints hi
  exact ⟨fun _ => .inl rfl, .inr ⟨_, vs.toArray, _, look, rfl, rfl, rfl, by rw [List.size_toArray, hi.length]; exact hl, by simpa using rv⟩, nofun, fun b z => (z rfl).elim, fun z => (z rfl).elim⟩
theorem AtS.of_new (look : K.lookup a = none) (ha : s1.heap.get? a = some { cls := .type "list", data := .seq vs.toArray }) (hi : IntsAre vs ns) (hl : ns.length ≤ sizeLine) :
    AtS P w K s1 a (upd (fun _ => none) a (.frz { cls := .type "list", data := .seq vs.toArray } (.lst (ns.map V.int)))) (ns.map V.int) := by
  have rv := vals_ints hi
  refine ⟨fun b => ?_, .inl (.inr ⟨_, upd_same⟩), fun b u z => ?_, fun b z => Classical.byContradiction fun hb => z (by rw [upd_ne hb]), fun _ => look⟩
  · by_cases hb : b = a
    · subst hb; exact .inr ⟨_, _, upd_same⟩
    · exact .inl (by rw [upd_ne hb])
  · by_cases hb : b = a
    · subst hb; rw [upd_same] at z; cases z
      exact ⟨ha, by rw [List.length_map]; exact hl, vs, _, rv, ha⟩
    · rw [upd_ne hb] at z; cases z
theorem AtS.run {H : Hp} (h : AtS P w K s1 a H (ns.map V.int)) (kin : K.In s1.heap) (hns : s1.heap.Ns mainGlobals mg) (hb : s1.heap.Ns builtinsNs mb) (hbb : ∀ x : Str, x ≠ "__name__" → mb x = bootBuiltins x) (hlim : s1.heap.NoLimit) (hg : s1.gens = #[])
    (ha : s1.heap.get? a = some { cls := .type "list", data := .seq vs.toArray }) (hr : RoomG k callerA) (F : ∀ base : Heap, K.In base → base.Ns mainGlobals mg → FnG P w K mg base k fa fd [x] sp) (bind : ∀ (s : Shared) (u : Value), BindsTo s fd ⟨[u], []⟩ [(x, u)])
    (hsp : ∀ H : Hp, Only H → SqL K H a (ns.map V.int) → sp [.ref a] H (fun v _ => v = .bl true) fun _ _ _ => False) :
    codeAny (model P w) callerA (.call (.ref fa) ⟨[.ref a], []⟩) (fun r s' => r = .ok (.ret (.bool true)) ∧ OldK s1.heap s'.heap ∧ s'.os = s1.os ∧ AllBare s'.gens) s1 := by
  have hid : ∀ {b : Addr} {o : Obj}, s1.heap.get? b = some o → H b = none → (hidT s1.heap H).get? b = some o := hidT_get
  have dictOff : ∀ {b : Addr} {o : Obj} {es : Array DictEntry} {ep : Nat}, s1.heap.get? b = some o → o.data = .dict es ep → H b = none := by
    intro b o es ep e d
    refine Classical.byContradiction fun q => ?_
    obtain rfl := h.one b q
    cases ha.symm.trans e
    cases (show Data.seq vs.toArray _ = Data.dict es ep from d)
  have ns' : ∀ {b : Addr} {m : Str → Option Value}, s1.heap.Ns b m → (hidT s1.heap H).Ns b m := fun ⟨o, es, ep, e, d, r⟩ => ⟨o, es, ep, hid e (dictOff e d), d, r⟩
  have kin' : K.In (hidT s1.heap H) := fun b o e => hid (kin b o e) (Classical.byContradiction fun q => by
    obtain rfl := h.one b q
    rw [h.off q] at e; cases e)
  obtain ⟨mc, l1, l2⟩ := hlim
  have e0 : Env0 P w K mg (hidT s1.heap H) callerA [] s1 H := ⟨rfl, ⟨kin', ns' hns, ⟨mb, ns' hb, hbb⟩, mc, ns' l1, l2⟩, fun b o e => of_hidT e, Nat.le_of_eq (hidT_size _ _), trivial, nofun, h.ok, .of_eq hg⟩
  refine codeAny_mono ((F _ kin' (ns' hns)).go (us := [.ref a]) (vs := [.ref a]) hr e0 (bind s1 (.ref a)) (.cons rfl .nil) (hsp H h.only h.seq)) fun r s' z => ?_
  match r, z with
  | .error e, z => obtain ⟨_, _, _, _, _, _, _, _, _, _, _, _, z⟩ := z; exact z.elim
  | .ok .next, z => exact z.elim
  | .ok .brk, z => exact z.elim
  | .ok .cont, z => exact z.elim
  | .ok (.ret u), z =>
    obtain ⟨v, H', os, bare, un, ok', rv, q⟩ := z
    obtain rfl : v = .bl true := q
    obtain rfl : u = Value.bool true := rv
    refine ⟨rfl, OldK.of_keep fun b o e => ?_, os, bare⟩
    rcases h.only b with n | ⟨ob, xs, y⟩
    · exact un.keep b o e n nofun nofun
    · have old := (h.ok b _ y).1
      cases e.symm.trans old
      exact (ok' b _ (un.frzs b _ _ y)).1
end
theorem walkG {l : PySem.W.OpenLaw} {n k : Nat} {q : Program} {loose : List Str} {XP : (Str → Option Value) → Heap → Prop} {YP : World → Heap → Prop} {d : DefRec} {K : Params → PySem.W.Frag} {sp : World → Sp} {x : Str} (hn : l.most = some n) (hn2 : n ≤ sizeLine) (hdf : d.params.defaults = []) (hr : RoomG k callerA)
    (hY : ∀ (w : World) (h : Heap), YP w h → (K w.params).In h)
    (F : ∀ (w : World) (mg : Str → Option Value) (fa : Addr) (h : Heap), (K w.params).In h → h.Ns mainGlobals mg → mg d.name = some (.ref fa) → ∃ fd : FuncData, (∀ (s : Shared) (u : Value), BindsTo s fd ⟨[u], []⟩ [(x, u)]) ∧ ∀ base : Heap, (K w.params).In base → base.Ns mainGlobals mg → FnG l.prog w (K w.params) mg base k fa fd [x] (sp w))
    (hsp : ∀ (w : World) (H : Hp) (a : Addr) (ns : List Int), ns.length ≤ n → Only H → SqL (K w.params) H a (ns.map V.int) → sp w [.ref a] H (fun v _ => v = .bl true) fun _ _ _ => False) : PySem.W.WalkO q loose XP YP l.row.toRowW d [] (fun f vs => PySem.call f vs) := by
  refine Att.attach_call hn hdf fun w s₀ s1 mg mb fa o pm cd doc a vs ns G Y ho hd hcd hmg hobj hints hlen hg => ?_
  have kin := hY w _ Y
  obtain ⟨fd, hb, hF⟩ := F w mg fa _ kin G.T.g hmg
  have hl := Nat.le_trans hlen hn2
  have put := fun H hO hS => hsp w H a ns hlen hO hS
  cases look : (K w.params).lookup a with
  | some o => exact (AtS.of_mod kin look hobj hints hl).run kin G.T.g G.T.b G.T.builtins G.T.nolimit hg hobj hr hF hb put
  | none => exact (AtS.of_new look hobj hints hl).run kin G.T.g G.T.b G.T.builtins G.T.nolimit hg hobj hr hF hb put
end Lt
set_option maxHeartbeats 1000000
/-! LtLaw: the defs of a text, one by one. -/
namespace Lt
open PySem PySem.Spec L2
open PyProof.Rows hiding St
/-- the module holds no list -/
def noLists (K : PySem.W.Frag) : Bool := K.all fun p => match p.2.cls with
  | .type t => !(t == "list")
  | _ => true
theorem noLists_at {K : PySem.W.Frag} {a : Addr} {o : Obj} (h : noLists K = true) (e : K.lookup a = some o) : o.cls ≠ .type "list" := by
  intro hc
  have mem : ∃ b, (b, o) ∈ K := by
    clear h
    induction K with
    | nil => cases e
    | cons p K ih =>
      obtain ⟨b, o'⟩ := p
      rw [List.lookup_cons] at e
      split at e
      · cases e; exact ⟨b, List.mem_cons_self⟩
      · obtain ⟨b', hb⟩ := ih e; exact ⟨b', List.mem_cons_of_mem _ hb⟩
  obtain ⟨b, hb⟩ := mem
  have := List.all_eq_true.mp h _ hb
  rw [hc] at this
  cases this
section
variable {P : Program} {w : World} {Kf : PySem.W.Frag} {mg : Str → Option Value} {base : Heap}
/-- a def that stands, at some depth of calls -/
structure Def (P : Program) (w : World) (Kf : PySem.W.Frag) (mg : Str → Option Value) (base : Heap) (k : Nat) (x : Str) (f : F) : Prop where
  ex : ∃ fa fd ps, FnG P w Kf mg base k fa fd ps (spF mg f) ∧ mg x = some (.ref fa) ∧ PySem.W.keepIn Kf (.ref fa) = true ∧ Binds Kf fd ps []
theorem Def.mono {j k : Nat} {x : Str} {f : F} (d : Def P w Kf mg base j x f) (h : j ≤ k) : Def P w Kf mg base k x f := let ⟨fa, fd, ps, a, b⟩ := d.ex; ⟨fa, fd, ps, a.mono h, b⟩
def DefsOk (P : Program) (w : World) (Kf : PySem.W.Frag) (mg : Str → Option Value) (base : Heap) (k : Nat) (fs : List (Str × F)) : Prop := ∀ x f, fs.lookup x = some f → Def P w Kf mg base k x f
theorem DefsOk.nil {k : Nat} : DefsOk P w Kf mg base k [] := fun _ _ h => nomatch h
theorem DefsOk.cons {k : Nat} {x : Str} {f : F} {fs : List (Str × F)} (d : Def P w Kf mg base k x f) (h : DefsOk P w Kf mg base k fs) : DefsOk P w Kf mg base k ((x, f) :: fs) := fun y g e => by
  rw [List.lookup_cons] at e
  split at e
  · rename_i hy; cases e; rw [eq_of_beq hy]; exact d
  · exact h y g e
theorem DefsOk.mono {j k : Nat} {fs : List (Str × F)} (d : DefsOk P w Kf mg base j fs) (h : j ≤ k) : DefsOk P w Kf mg base k fs := fun x f e => (d x f e).mono h
def CsOk (mg : Str → Option Value) (cs : List (Str × PV)) : Prop := ∀ x p, cs.lookup x = some p → (∃ u, mg x = some u ∧ relC p u) ∧ ∀ s, p = .glb s → s = x
def BlOk (mg : Str → Option Value) (bl : List Str) : Prop := ∀ x, bl.contains x = true → mg x = none
def semDef (n np : Nat) (N : List Str) (K : List Nat) (cs : List (Str × PV)) (bl : List Str) (fs : List (Str × F)) (xs : List (Str × Option Str)) (st : Stmt) : F := defF np N.length K (evSs n ⟨N, K, defScope st, cs, bl, fs, xs⟩ (defBody st))
/-- the errors that a def may raise or catch -/
structure XsOk (P : Program) (K : PySem.W.Frag) (mg : Str → Option Value) (xs : List (Str × Option Str)) : Prop where
  err : ∀ x fo, xs.lookup x = some fo → Err P K mg x fo
  all : ErrsK K mg (xs.map (·.1))
theorem XsOk.nil {P : Program} {K : PySem.W.Frag} {mg : Str → Option Value} : XsOk P K mg [] := ⟨(fun _ _ h => nomatch h), ⟨(fun _ h => nomatch h), (fun _ h => nomatch h), (fun _ h => nomatch h)⟩⟩
theorem def_ok {x qual : Str} {st : Stmt} {f : Addr} {fd : FuncData} {N ps : List Str} {k : Nat} {K : List Nat} {cs : List (Str × PV)} {bl : List Str} {fs : List (Str × F)} {xs : List (Str × Option Str)} (n : Nat) (F : Fun Kf x qual st f fd) (S : FnScope N ps (defScope st)) (hnp : ps.length ≤ N.length) (hcs : CsOk mg cs) (hbl : BlOk mg bl) (hfs : DefsOk P w Kf mg base k fs) (hxs : XsOk P Kf mg xs) :
    FnG P w Kf mg base (k + 1) f fd ps (spF mg (semDef n ps.length N K cs bl fs xs st)) := by
  refine fn_ok F S hnp fun X h1 h2 h3 h4 h5 h6 h7 h8 h9 hr ho hst hfr hex W tk => (soundS n).2 (Γ := ⟨N, K, defScope st, cs, bl, fs, xs⟩) ?_ _
  subst h1 h2 h3 h4 h5
  exact ⟨{
    N := h6
    nd := S.nd
    calm := h8
    tk := tk
    own := ho
    un := by have := hr.r.un; omega
    gd := hr.g
    fk := by rw [h7]; exact S.kind
    nm := fun x k hk => by rw [h7]; exact ⟨fun _ => hk, fun z => .inl (z ▸ hk)⟩
    fn := fun x _ => .inl (by rw [h9])
    cs := hcs
    bl := hbl
    fs := fun x f hx => let ⟨fa, fd, ps, a, b, c, d⟩ := (hfs x f hx).ex; ⟨⟨fa, fd, ps, k, a, hr, b, c, d⟩⟩
    dp := by have := hr.r.dp; omega
    xs := hxs.err
    er := hxs.all }, hst, hfr, hex⟩
end
/-- what is to be shown of the law's semantics -/
theorem law_sp {mg : Str → Option Value} {K : PySem.W.Frag} {H : Hp} {a : Addr} {ns : List Int} {f : F} {outs : List SV} (hK : noLists K = true) (hO : Only H) (hS : SqL K H a (ns.map V.int)) (hf : f [.v (.lst (ns.map .int))] = .ok (.v (.bl true)) outs) : spF mg f [.ref a] H (fun v _ => v = .bl true) fun _ _ _ => False := by
  have fz : ∃ o, H a = some (.frz o (.lst (ns.map V.int))) := by
    rcases hS with (h | ⟨o, h⟩) | ⟨o, its, n, look, hc, _⟩
    · rcases hO a with z | ⟨o, xs, z⟩
      · rw [z] at h; cases h
      · rw [z] at h; cases h
    · exact ⟨o, h⟩
    · exact absurd hc (noLists_at hK look)
  obtain ⟨o, h⟩ := fz
  have rv : ∀ ns : List Int, RVs mg H (ns.map PV.int) (ns.map V.int) := fun ns => by
    induction ns with
    | nil => exact RVs.nil
    | cons n ns ih => exact .cons rfl ih
  refine ⟨[.v (.lst (ns.map .int))], [], .cons (L2 := []) (.v (show RV mg H (.lst (ns.map .int)) (.ref a) from ⟨a, o, _, rfl, h, rv ns⟩)) .nil (fun _ h => nomatch h), ?_⟩
  rw [hf]
  intro v H' Lt L' rs _ _ _ _ _
  exact rs.val
/-- the goal that the head leaves, from the law's semantics -/
theorem walkL {l : PySem.W.OpenLaw} {n k : Nat} {q : Program} {loose : List Str} {XP : (Str → Option Value) → Heap → Prop} {YP : World → Heap → Prop} {d : DefRec} {K : Params → PySem.W.Frag} {x : Str} (hn : l.most = some n) (hn2 : n ≤ sizeLine) (hdf : d.params.defaults = []) (hr : RoomG k callerA)
    (hY : ∀ (w : World) (h : Heap), YP w h → (K w.params).In h) (hK : ∀ w : World, noLists (K w.params) = true)
    (F : ∀ (w : World) (mg : Str → Option Value) (fa : Addr) (h : Heap), (K w.params).In h → h.Ns mainGlobals mg → mg d.name = some (.ref fa) → ∃ (fd : FuncData) (f : F), (∀ (s : Shared) (u : Value), BindsTo s fd ⟨[u], []⟩ [(x, u)]) ∧ (∀ base : Heap, FnG l.prog w (K w.params) mg base k fa fd [x] (spF mg f)) ∧ ∀ ns : List Int, ns.length ≤ n → ∃ outs, f [.v (.lst (ns.map .int))] = .ok (.v (.bl true)) outs) :
    PySem.W.WalkO q loose XP YP l.row.toRowW d [] (fun f vs => PySem.call f vs) := by
  refine Att.attach_call hn hdf fun w s₀ s1 mg mb fa o pm cd doc a vs ns G Y ho hd hcd hmg hobj hints hlen hg => ?_
  have kin := hY w _ Y
  obtain ⟨fd, f, hb, hF, hf⟩ := F w mg fa _ kin G.T.g hmg
  have hl := Nat.le_trans hlen hn2
  obtain ⟨outs, hf⟩ := hf ns hlen
  have put := fun H hO hS => law_sp (mg := mg) (H := H) (a := a) (hK w) hO hS hf
  cases look : (K w.params).lookup a with
  | some o => exact (AtS.of_mod kin look hobj hints hl).run kin G.T.g G.T.b G.T.builtins G.T.nolimit hg hobj hr (fun base _ _ => hF base) hb put
  | none => exact (AtS.of_new look hobj hints hl).run kin G.T.g G.T.b G.T.builtins G.T.nolimit hg hobj hr (fun base _ _ => hF base) hb put
/-! ### what the top has written -/
theorem CsOk.nil {mg : Str → Option Value} : CsOk mg [] := fun _ _ h => nomatch h
theorem CsOk.cons {mg : Str → Option Value} {x : Str} {p : PV} {u : Value} {cs : List (Str × PV)} (h : mg x = some u) (r : relC p u) (n : ∀ s, p = .glb s → s = x) (t : CsOk mg cs) : CsOk mg ((x, p) :: cs) := fun y q e => by
  rw [List.lookup_cons] at e
  split at e
  · rename_i hy; cases e; rw [eq_of_beq hy]; exact ⟨⟨u, h, r⟩, n⟩
  · exact t y q e
theorem CsOk.int {mg : Str → Option Value} {x : Str} {i : Int} {t : Tok} {cs : List (Str × PV)} (h : mg x = some (.int i t)) (r : CsOk mg cs) : CsOk mg ((x, .int i) :: cs) := .cons (p := .int i) h ⟨t, rfl⟩ nofun r
theorem CsOk.str {mg : Str → Option Value} {x i : Str} {t : Tok} {cs : List (Str × PV)} (h : mg x = some (.str i t)) (r : CsOk mg cs) : CsOk mg ((x, .str i) :: cs) := .cons (p := .str i) h ⟨t, rfl⟩ nofun r
theorem BlOk.nil {mg : Str → Option Value} : BlOk mg [] := fun _ h => nomatch h
theorem BlOk.cons {mg : Str → Option Value} {x : Str} {bl : List Str} (h : mg x = none) (t : BlOk mg bl) : BlOk mg (x :: bl) := fun y e => by
  rw [List.contains_cons, Bool.or_eq_true] at e
  rcases e with e | e
  · rw [eq_of_beq e]; exact h
  · exact t y e
/-- what is known of a def that the module holds -/
structure InK (K : PySem.W.Frag) (x : Str) (st : Stmt) : Prop where
  ex : ∃ f oc od an sl kV dc pm cd ct, PySem.W.nsIn K mainGlobals x = some (some (.ref f)) ∧ K.lookup f = some ⟨oc, od, .func (PySem.W.fnOf x x (defArgs st) (defBody st) (defScope st) .none kV dc pm an cd ct), sl⟩ ∧ PySem.W.codeIn K cd x = true ∧ PySem.W.keepIn K (.ref f) = true
theorem InK.mk' {K : PySem.W.Frag} {x : Str} {st : Stmt} {f : Addr} {oc : Value} {od an : Option Addr} {sl : Array (Option Value)} {kV dc pm cd ct : Value} (a : PySem.W.nsIn K mainGlobals x = some (some (.ref f))) (l : K.lookup f = some ⟨oc, od, .func (PySem.W.fnOf x x (defArgs st) (defBody st) (defScope st) .none kV dc pm an cd ct), sl⟩) (c : PySem.W.codeIn K cd x = true) (k : PySem.W.keepIn K (.ref f) = true) : InK K x st := ⟨⟨f, oc, od, an, sl, kV, dc, pm, cd, ct, a, l, c, k⟩⟩
theorem InK.def {K : PySem.W.Frag} {x : Str} {st : Stmt} {h : Heap} {mg : Str → Option Value} {P : Program} {w : World} {base : Heap} {N ps : List Str} {k n : Nat} {Ks : List Nat} {cs : List (Str × PV)} {bl : List Str} {fs : List (Str × F)} {f : F} (i : InK K x st) (KX : K.In h) (G : h.Ns mainGlobals mg) (S : FnScope N ps (defScope st)) (hnp : ps.length ≤ N.length) (hcs : CsOk mg cs) (hbl : BlOk mg bl) (hfs : DefsOk P w K mg base k fs) {xs : List (Str × Option Str)} (hxs : XsOk P K mg xs)
    (e : semDef n ps.length N Ks cs bl fs xs st = f) (hb : ∀ (kV doc pm : Value) (an : Option Addr) (cdv ct : Value) (us : List Value), us.length = ps.length → bindArgs (PySem.W.fnOf x x (defArgs st) (defBody st) (defScope st) .none kV doc pm an cdv ct) ⟨us, []⟩ = pure (ps.zip us)) : Def P w K mg base (k + 1) x f := by
  obtain ⟨fa, oc, od, an, sl, kV, dc, pm, cd, ct, a, l, c, kk⟩ := i.ex
  have F := fun_mk (st := st) l c kk
  refine ⟨⟨fa, _, ps, ?_, PySem.W.mg_of KX G a, kk, F.binds hb⟩⟩
  rw [← e]
  exact def_ok n F S hnp hcs hbl hfs hxs
theorem InK.law {K : PySem.W.Frag} {x : Str} {st : Stmt} {h : Heap} {mg : Str → Option Value} {P : Program} {w : World} {N : List Str} {y : Str} {k n : Nat} {Ks : List Nat} {cs : List (Str × PV)} {bl : List Str} {fs : List (Str × F)} {f : F} {fa : Addr} (i : InK K x st) (KX : K.In h) (G : h.Ns mainGlobals mg) (hfa : mg x = some (.ref fa)) (S : FnScope N [y] (defScope st)) (hnp : 1 ≤ N.length) (hcs : CsOk mg cs) (hbl : BlOk mg bl) (hfs : ∀ base, DefsOk P w K mg base k fs) {xs : List (Str × Option Str)} (hxs : XsOk P K mg xs)
    (e : semDef n 1 N Ks cs bl fs xs st = f) (hb : ∀ (kV doc pm : Value) (an : Option Addr) (cdv ct : Value) (s : Shared) (u : Value), BindsTo s (PySem.W.fnOf x x (defArgs st) (defBody st) (defScope st) .none kV doc pm an cdv ct) ⟨[u], []⟩ [(y, u)]) :
    ∃ fd : FuncData, (∀ (s : Shared) (u : Value), BindsTo s fd ⟨[u], []⟩ [(y, u)]) ∧ ∀ base : Heap, FnG P w K mg base (k + 1) fa fd [y] (spF mg f) := by
  obtain ⟨fa', oc, od, an, sl, kV, dc, pm, cd, ct, a, l, c, kk⟩ := i.ex
  cases hfa.symm.trans (PySem.W.mg_of KX G a)
  have F := fun_mk (st := st) l c kk
  refine ⟨_, hb kV dc pm an cd ct, fun base => ?_⟩
  rw [← e]
  exact def_ok n F S hnp hcs hbl (hfs base) hxs
/-! ### errors, by what the module holds -/
/-- the method j of the class st -/
def mthS (st : Stmt) (j : Nat) : Stmt := match st with
  | .ClassDef _ _ _ body _ _ _ _ _ _ _ => body.getD j (.Pass ⟨0, 0, 0, 0⟩)
  | _ => .Pass ⟨0, 0, 0, 0⟩
open PySem.W in
theorem Err.mk' {P : Program} {K : Frag} {h : Heap} {mg : Str → Option Value} {x y qual : Str} {fo : Option Str} {st : Stmt} {C fI cc cda : Addr} {B newId initId : String} {bmB : List Value} {oc dV kV doc pm ct ccl cl : Value} {od an cdd cld : Option Addr} {osl ccs csl : Array (Option Value)} {vs : Array Value} {file : Str} {tf : Tok} (X : K.In h) (G : h.Ns mainGlobals mg)
    (FB : ExcBaseFacts B newId initId bmB) (KF : KxsFacts B initId) (a : nsIn K mainGlobals x = some (some (.ref C))) (q : excInitIn K C bmB newId = true) (hi : findIn K (.ref C) "__init__" = some (some (.ref fI))) (ti : typeIn K (.ref fI) = some (.type "function"))
    (fn : K.lookup fI = some ⟨oc, od, .func (ksFn "__init__" qual (defArgs st) (defBody st) (defScope st) dV kV doc pm an (.ref cda) ct cc), osl⟩) (hcd : codeIn K (.ref cda) qual = true) (code : K.lookup cda = some ⟨ccl, cdd, .fields vs, ccs⟩) (hvs : vs[2]? = some (.str file tf)) (hfile : ((P.main.file : Str) == file) = true)
    (cell : K.lookup cc = some ⟨cl, cld, .cell (some (.ref C)), csl⟩) (sub : mroIn K C (.ref C) = some true) (sup : nsIn K mainGlobals "super" = some none) (third : nsIn K cStatics "thirdparty.any" = some none) (along : ks_superIn K C C "__init__" = some (some (.builtin initId)))
    (subB : subIn K (.ref C) (.type B) = some true) (exC : subIn K (.ref C) (.type "BaseException") = some true) (tyC : typeIn K (.ref C) = some (.type "type")) (kC : keepIn K (.ref C) = true)
    (top : (P.main.scope.names.lookup ("super" : Str)).isSome = false) (har : ∃ ar, ((defArgs st).posonlyargs ++ (defArgs st).args).head? = some ar ∧ ar.arg = "self")
    (hbind : ∀ u v, bindArgs (ksFn "__init__" qual (defArgs st) (defBody st) (defScope st) dV kV doc pm an (.ref cda) ct cc) ⟨[u, v], []⟩ = pure [(("self" : Str), u), (y, v)])
    (hsc : (defScope st).names.lookup ("super" : Str) = some .globalImplicit ∧ (defScope st).names.lookup ("__class__" : Str) = some .free ∧ (defScope st).names.lookup ("self" : Str) = some .local ∧ (defScope st).names.lookup y = some .local ∧ ((defScope st).names.all fun z => !(z.2 == .cell)) = true ∧ (defScope st).kind = .function ∧ (defScope st).isCoroutine = false ∧ (defScope st).isGenerator = false ∧ (y == ("self" : Str)) = false ∧ (y == ("__debug__" : Str)) = false)
    (S : ErrSh K C B bmB y fo (defBody st)) : Err P K mg x fo :=
  ⟨⟨C, fI, cc, cda, B, newId, initId, bmB, y, defBody st, mg_of X G a, ⟨FB, KF, q, hi, ti, ⟨oc, od, qual, defArgs st, defScope st, dV, kV, doc, pm, an, ct, osl, fn, hcd, har, hbind, hsc⟩, ⟨ccl, cdd, vs, ccs, file, tf, code, hvs, hfile⟩, ⟨cl, cld, csl, cell⟩, sub, sup, third, along, subB, top, exC, tyC, kC⟩, S⟩⟩
def XsAll (P : Program) (K : PySem.W.Frag) (mg : Str → Option Value) (xs : List (Str × Option Str)) : Prop := ∀ x fo, xs.lookup x = some fo → Err P K mg x fo
theorem XsAll.nil {P : Program} {K : PySem.W.Frag} {mg : Str → Option Value} : XsAll P K mg [] := fun _ _ h => nomatch h
theorem XsAll.cons {P : Program} {K : PySem.W.Frag} {mg : Str → Option Value} {x : Str} {fo : Option Str} {xs : List (Str × Option Str)} (d : Err P K mg x fo) (h : XsAll P K mg xs) : XsAll P K mg ((x, fo) :: xs) := fun y g e => by
  rw [List.lookup_cons] at e
  split at e
  · rename_i hy; cases e; rw [eq_of_beq hy]; exact d
  · exact h y g e
end Lt
set_option maxHeartbeats 400000
/-! LtX: how the combinators are run by hand. -/
namespace Lt
open PySem PySem.Spec L2
open PyProof.Rows hiding St
section
variable {ρ ρ1 ρ2 : Loc} {ca cb : Loc → Rs OV} {x y : OV} {p q s : SV}
theorem bin2_at {f : SV → SV → Option SV} (h1 : ca ρ = .ok x ρ1) (h2 : cb ρ1 = .ok y ρ2) (h3 : x.get ρ2 = some p) (h4 : y.get ρ2 = some q) (h5 : f p q = some s) : bin2 f ca cb ρ = .ok (.tm s) ρ2 := by
  unfold bin2 bindR
  rw [h1]; dsimp only
  rw [h2]; dsimp only
  rw [h3, h4]; show opt (f p q) _ = _
  rw [h5]; rfl
theorem un1_at {f : SV → Option SV} (h1 : ca ρ = .ok x ρ1) (h3 : x.get ρ1 = some p) (h5 : f p = some s) : un1 f ca ρ = .ok (.tm s) ρ1 := by
  unfold un1 bindR
  rw [h1]; dsimp only
  rw [h3]; show opt (f p) _ = _
  rw [h5]; rfl
theorem tst_at {b : Bool} (h1 : ca ρ = .ok x ρ1) (h3 : x.get ρ1 = some (.v (.bl b))) : tstV ca ρ = .ok b ρ1 := by
  unfold tstV bindR
  rw [h1]; dsimp only
  rw [h3]
theorem call1_at {f : List SV → Option SV} (h1 : ca ρ = .ok x ρ1) (h3 : x.get ρ1 = some p) (h5 : f [p] = some s) : callB f (seqO [ca]) ρ = .ok (.tm s) ρ1 := by
  unfold callB seqO seqO bindR
  rw [h1]; dsimp only
  unfold getAll getAll
  rw [h3]; show opt (f [p]) _ = _
  rw [h5]; rfl
theorem keepS_tm (h1 : ca ρ = .ok (.tm s) ρ1) : keepS ca ρ = .ok s ρ1 := by
  unfold keepS bindR
  rw [h1]
theorem keepP_tm {p : PV} (h1 : ca ρ = .ok (.tm (.v p)) ρ1) : keepP ca ρ = .ok p ρ1 := by
  unfold keepP bindR
  rw [h1]
theorem asg_at {i : Nat} {c : Loc → Rs SV} (h1 : c ρ = .ok s ρ1) (h2 : i < ρ1.length) : asgS i c ρ = .ok .nx (ρ1.set i (some s)) := by
  unfold asgS bindR setL
  rw [h1]; dsimp only
  rw [if_pos h2]
theorem ret_at {c : Loc → Rs SV} (h1 : c ρ = .ok s ρ1) : retS c ρ = .ok (.rt s) ρ1 := by
  unfold retS bindR
  rw [h1]
theorem seq_at {c d : Loc → Rs Fl} (h1 : c ρ = .ok .nx ρ1) : seqS c d ρ = d ρ1 := by
  unfold seqS
  rw [h1]
theorem seq_rt {c d : Loc → Rs Fl} (h1 : c ρ = .ok (.rt s) ρ1) : seqS c d ρ = .ok (.rt s) ρ1 := by
  unfold seqS
  rw [h1]
theorem if_at {c : Loc → Rs Bool} {d f : Loc → Rs Fl} {b : Bool} (h1 : c ρ = .ok b ρ1) : ifS c d f ρ = if b = true then d ρ1 else f ρ1 := by
  unfold ifS bindR
  rw [h1]; cases b <;> rfl
theorem ifV_at {c : Loc → Rs Bool} {d f : Loc → Rs OV} {b : Bool} (h1 : c ρ = .ok b ρ1) : ifV c d f ρ = if b = true then d ρ1 else f ρ1 := by
  unfold ifV bindR
  rw [h1]; cases b <;> rfl
theorem and_at {c d : Loc → Rs Bool} {b : Bool} (h1 : c ρ = .ok b ρ1) : andT c d ρ = if b = true then d ρ1 else .ok false ρ1 := by
  unfold andT bindR
  rw [h1]; cases b <;> rfl
end
theorem at0 {α : Type} {x : α} {xs : List α} : atI (x :: xs) 0 = some x := atI_nat (j := 0) rfl
theorem ix0 {x : PV} {xs : List PV} : sIx (.l (x :: xs)) (.v (.int 0)) = some (.v x) := by
  show (atI (x :: xs) 0).map SV.v = _
  rw [at0]; rfl
theorem ixL {xs : List PV} {x : PV} {i : Int} (h : atI xs i = some x) : sIx (.l xs) (.v (.int i)) = some (.v x) := by
  show (atI xs i).map SV.v = _
  rw [h]; rfl
theorem eqI {i j : Int} : sEq (.v (.int i)) (.v (.int j)) = some (.v (.bl (i == j))) := rfl
theorem mulR {i j : Int} (h : inW j = true) : sMul (.v (.int i)) (.v (.int j)) = some (.v (.int (i * j))) := by
  unfold sMul; dsimp only; rw [h, Bool.or_true, if_pos rfl]
theorem mulL {i j : Int} (h : inW i = true) : sMul (.v (.int i)) (.v (.int j)) = some (.v (.int (i * j))) := by
  unfold sMul; dsimp only; rw [h, Bool.true_or, if_pos rfl]
theorem modI {i j : Int} (h : 0 < j) : sMod (.v (.int i)) (.v (.int j)) = some (.v (.int (i % j))) := by
  unfold sMod; dsimp only; rw [if_pos h]
theorem divI {i j : Int} (h : 0 < j ∧ j < 1073741824) : sFdiv (.v (.int i)) (.v (.int j)) = some (.v (.int (i / j))) := by
  unfold sFdiv; dsimp only; rw [if_pos h]
/-! ### what leaves the slots as they are -/
def Ev (c : Loc → Rs OV) (ρ : Loc) (s : SV) : Prop := ∃ x, c ρ = .ok x ρ ∧ x.get ρ = some s
section
variable {ρ : Loc} {ca cb cc : Loc → Rs OV} {p q s : SV} {i j : Int}
theorem ev_k {p : PV} : Ev (konst p) ρ (.v p) := ⟨_, rfl, rfl⟩
theorem ev_v {n : Nat} (h : ρ[n]? = some (some s)) : Ev (varO n) ρ s := ⟨.sl n, by unfold varO; rw [h], by unfold OV.get; dsimp only; rw [h]⟩
theorem ev_f {n : Nat} {k : Str} {kvs : List (Str × SV)} (h : ρ[n]? = some (some (.r kvs))) (h2 : kvs.lookup k = some s) : Ev (recO n k) ρ s := ⟨.fd n k, by unfold recO; rw [h]; dsimp only; rw [h2], by unfold OV.get; dsimp only; rw [h]; exact h2⟩
theorem ev_2 {f : SV → SV → Option SV} (h1 : Ev ca ρ p) (h2 : Ev cb ρ q) (h : f p q = some s) : Ev (bin2 f ca cb) ρ s := let ⟨_, a, b⟩ := h1; let ⟨_, c, d⟩ := h2; ⟨_, bin2_at a c b d h, rfl⟩
theorem ev_1 {f : SV → Option SV} (h1 : Ev ca ρ p) (h : f p = some s) : Ev (un1 f ca) ρ s := let ⟨_, a, b⟩ := h1; ⟨_, un1_at a b h, rfl⟩
theorem ev_c1 {f : List SV → Option SV} (h1 : Ev ca ρ p) (h : f [p] = some s) : Ev (callB f (seqO [ca])) ρ s := let ⟨_, a, b⟩ := h1; ⟨_, call1_at a b h, rfl⟩
theorem ev_add (h1 : Ev ca ρ (.v (.int i))) (h2 : Ev cb ρ (.v (.int j))) : Ev (bin2 sAdd ca cb) ρ (.v (.int (i + j))) := ev_2 h1 h2 rfl
theorem ev_sub (h1 : Ev ca ρ (.v (.int i))) (h2 : Ev cb ρ (.v (.int j))) : Ev (bin2 sSub ca cb) ρ (.v (.int (i - j))) := ev_2 h1 h2 rfl
theorem ev_mulL (h1 : Ev ca ρ (.v (.int i))) (h2 : Ev cb ρ (.v (.int j))) (h : inW i = true) : Ev (bin2 sMul ca cb) ρ (.v (.int (i * j))) := ev_2 h1 h2 (mulL h)
theorem ev_mulR (h1 : Ev ca ρ (.v (.int i))) (h2 : Ev cb ρ (.v (.int j))) (h : inW j = true) : Ev (bin2 sMul ca cb) ρ (.v (.int (i * j))) := ev_2 h1 h2 (mulR h)
theorem ev_mod (h1 : Ev ca ρ (.v (.int i))) (h2 : Ev cb ρ (.v (.int j))) (h : 0 < j) : Ev (bin2 sMod ca cb) ρ (.v (.int (i % j))) := ev_2 h1 h2 (modI h)
theorem ev_div (h1 : Ev ca ρ (.v (.int i))) (h2 : Ev cb ρ (.v (.int j))) (h : 0 < j ∧ j < 1073741824) : Ev (bin2 sFdiv ca cb) ρ (.v (.int (i / j))) := ev_2 h1 h2 (divI h)
theorem ev_int (h1 : Ev ca ρ (.v (.int i))) : Ev (callB sInt (seqO [ca])) ρ (.v (.int i)) := ev_c1 h1 rfl
theorem Ev.keepP {p : PV} (h : Ev ca ρ (.v p)) : keepP ca ρ = .ok p ρ := by
  obtain ⟨x, a, b⟩ := h
  unfold Lt.keepP bindR
  rw [a]
  dsimp only
  cases x with
  | tm t => cases b; rfl
  | sl n =>
    unfold OV.get at b
    dsimp only at b ⊢
    cases hr : ρ[n]? with
    | none => rw [hr] at b; cases b
    | some o => cases o with
      | none => rw [hr] at b; cases b
      | some t => rw [hr] at b; cases b; rfl
  | fd n k => dsimp only; rw [b]
theorem Ev.keepS {p : PV} (h : Ev ca ρ (.v p)) : keepS ca ρ = .ok (.v p) ρ := by
  obtain ⟨x, a, b⟩ := h
  unfold Lt.keepS bindR
  rw [a]
  dsimp only
  cases x with
  | tm t => cases b; rfl
  | sl n =>
    unfold OV.get at b
    dsimp only at b ⊢
    cases hr : ρ[n]? with
    | none => rw [hr] at b; cases b
    | some o => cases o with
      | none => rw [hr] at b; cases b
      | some t => rw [hr] at b; cases b; rfl
  | fd n k => dsimp only; rw [b]
theorem Ev.tst {b : Bool} (h : Ev ca ρ (.v (.bl b))) : tstV ca ρ = .ok b ρ := let ⟨_, a, b⟩ := h; tst_at a b
theorem Ev.asg {n : Nat} {p : PV} (h : Ev ca ρ (.v p)) (hn : n < ρ.length) : asgS n (Lt.keepS ca) ρ = .ok .nx (ρ.set n (some (.v p))) := asg_at h.keepS hn
theorem Ev.ret {p : PV} (h : Ev ca ρ (.v p)) : retS (Lt.keepS ca) ρ = .ok (.rt (.v p)) ρ := ret_at h.keepS
end
theorem cut_tail {x : PV} {xs : List PV} : cutP (x :: xs) (some 1) none = xs := by
  unfold cutP
  rw [show HT.sIx (x :: xs).length 0 (some 1) = min 1 (x :: xs).length from HT.sIx_nat (x :: xs).length 0 1, HT.sIx_none, show min 1 (x :: xs).length = 1 by rw [List.length_cons]; omega]
  show List.take ((x :: xs).length - 1) xs = xs
  rw [List.length_cons, Nat.add_sub_cancel]; exact List.take_length
theorem callF_at {f : F} {c : Loc → Rs (List OV)} {ρ ρ1 ρ2 : Loc} {ovs : List OV} {ss outs : List SV} {s : SV} (h1 : c ρ = .ok ovs ρ1) (h2 : takeAll ρ1 ovs = some (ss, ρ2)) (h3 : f ss = .ok s outs) : callF f c ρ = .ok (.tm s) (putAll ρ2 ovs ss outs) := by
  unfold callF bindR
  rw [h1]; dsimp only
  rw [h2]; dsimp only
  rw [h3]
theorem defF_rt {k n : Nat} {K : List Nat} {c : Loc → Rs Fl} {ss os : List SV} {s : SV} {ρ ρ' : Loc} (hk : ss.length = k) (h0 : ss.map some ++ List.replicate (n - ss.length) none = ρ) (h : c ρ = .ok (.rt s) ρ') (ho : outsF K 0 ss ρ' = some os) : defF k n K c ss = .ok s os := by
  unfold defF
  rw [if_pos hk]
  unfold semF
  rw [h0, h]; dsimp only
  rw [ho]
theorem unp_at {tg : Tg} {c : Loc → Rs OV} {ρ ρ1 ρ2 : Loc} {x : OV} {p : PV} (h1 : c ρ = .ok x ρ1) (h2 : x.get ρ1 = some (.v p)) (h3 : setTg tg (.v p) ρ1 = some ρ2) : unpS tg c ρ = .ok .nx ρ2 := by
  unfold unpS bindR
  rw [h1]; dsimp only
  rw [h2]; dsimp only
  rw [h3]
theorem lcO_at {n : Nat} {t : Tg} {vs : List Nat} {ci : Loc → Rs (List PV)} {ct : Loc → Rs Bool} {c : Loc → Rs PV} {ρ ρ1 ρ2 : Loc} {ps acc : List PV} (hn : ρ.length = n) (h1 : ci ρ = .ok ps ρ1) (h2 : saved ρ1 vs = true) (h3 : lcL t vs ct c ps (wipeL ρ1 vs) [] = .ok acc ρ2) : lcO n t vs ci ct c ρ = .ok (.tm (.l acc)) (restL ρ2 ρ1 vs) := by
  unfold lcO
  rw [if_pos hn]
  unfold bindR
  rw [h1]; dsimp only
  rw [if_pos h2, h3]
theorem for_at {tg : Tg} {ci : Loc → Rs (List PV)} {d : Loc → Rs Fl} {ρ ρ1 : Loc} {ps : List PV} (h1 : ci ρ = .ok ps ρ1) : forS tg ci d ρ = forL tg d ps ρ1 := by
  unfold forS bindR
  rw [h1]
theorem seqO_one {ca : Loc → Rs OV} {ρ ρ1 : Loc} {x : OV} (h : ca ρ = .ok x ρ1) : seqO [ca] ρ = .ok [x] ρ1 := by
  unfold seqO seqO bindR
  rw [h]
theorem seqO_two {ca cb : Loc → Rs OV} {ρ ρ1 ρ2 : Loc} {x y : OV} (h : ca ρ = .ok x ρ1) (h2 : cb ρ1 = .ok y ρ2) : seqO [ca, cb] ρ = .ok [x, y] ρ2 := by
  unfold seqO bindR
  rw [h]; dsimp only
  rw [seqO_one h2]
theorem getAll_one {ρ : Loc} {x : OV} {p : SV} (h : x.get ρ = some p) : getAll ρ [x] = some [p] := by
  unfold getAll getAll
  rw [h]
theorem getAll_two {ρ : Loc} {x y : OV} {p q : SV} (h : x.get ρ = some p) (h2 : y.get ρ = some q) : getAll ρ [x, y] = some [p, q] := by
  unfold getAll
  rw [h, getAll_one h2]
theorem ev_c2 {f : List SV → Option SV} {ca cb : Loc → Rs OV} {ρ : Loc} {p q s : SV} (h1 : Ev ca ρ p) (h2 : Ev cb ρ q) (h : f [p, q] = some s) : Ev (callB f (seqO [ca, cb])) ρ s := by
  obtain ⟨x, a1, a2⟩ := h1
  obtain ⟨y, b1, b2⟩ := h2
  refine ⟨.tm s, ?_, rfl⟩
  unfold callB bindR
  rw [seqO_two a1 b1]; dsimp only
  rw [getAll_two a2 b2]
  show opt (f [p, q]) _ = _
  rw [h]; rfl
theorem Ev.range1 {c : Loc → Rs OV} {ρ : Loc} {j : Int} (h : Ev c ρ (.v (.int j))) (hb : big j = true) : walkR1 (seqO [c]) ρ = .ok (rangeP 0 j) ρ := by
  obtain ⟨x, a1, a2⟩ := h
  unfold walkR1 bindR
  rw [seqO_one a1]; dsimp only
  rw [getAll_one a2]; dsimp only
  rw [if_pos hb]
end Lt
set_option maxHeartbeats 400000
/-! LtNG: how the laws draw (the second family). -/
namespace Lt
open PySem PySem.Spec L2
open PyProof.Rows hiding St
/-- the draws' record -/
def mG (cs gs : List PV) (k : Int) : SV := .r [("cells", .l cs), ("great", .l gs), ("spot", .v (.int k))]
def ngC : Loc → Rs Bool := andT (tstV (bin2 sNe (recO 0 "great") (lstO (seqP [])))) (tstV (bin2 sEq (bin2 sIx (recO 0 "great") (konst (.int 0))) (konst (.int 0))))
def ngD : Loc → Rs Fl := recS 0 "great" (keepS (slO (recO 0 "great") (aPart (konst (.int 1))) noPart))
def ngBig : Loc → Rs Fl := seqS (asgS 2 (keepS (callB sInt (seqO [bin2 sIx (recO 0 "great") (konst (.int 0))]))))
  (seqS (recIx 0 "great" (keepP (bin2 sFdiv (varO 2) (varO 1))) (konst (.int 0))) (retS (keepS (bin2 sMod (varO 2) (varO 1)))))
def ngMix1 : Loc → Rs Fl := asgS 5 (keepS (bin2 sMul (callB sInt (seqO [bin2 sAdd (bin2 sAdd (bin2 sMod (callB sInt (seqO [varO 4])) (konst (.int 2147483563))) (bin2 sMul (konst (.int 6043)) (varO 3))) (bin2 sMul (bin2 sMul (konst (.int 43)) (varO 3)) (varO 3))])) (konst (.int 40014))))
def ngMix2 : Loc → Rs Fl := asgS 5 (keepS (bin2 sMul (callB sInt (seqO [bin2 sAdd (bin2 sMod (callB sInt (seqO [varO 5])) (konst (.int 2147483563))) (bin2 sMul (konst (.int 88937)) (varO 3))])) (konst (.int 742938285))))
def ngEnd : Loc → Rs Fl := retS (keepS (bin2 sMod (callB sInt (seqO [bin2 sFdiv (bin2 sMod (callB sInt (seqO [varO 5])) (konst (.int 2147483549))) (konst (.int 17))])) (varO 1)))
def ngCell : Loc → Rs Fl := asgS 4 (keepS (ifV (tstV (bin2 sNe (recO 0 "cells") (lstO (seqP [])))) (bin2 sIx (recO 0 "cells") (bin2 sMod (callB sInt (seqO [varO 3])) (callB sLen (seqO [recO 0 "cells"])))) (konst (.int 37))))
def ngB : Loc → Rs Fl := seqS (whl ngC ngD fuelW) (seqS (ifS (tstV (bin2 sNe (recO 0 "great") (lstO (seqP [])))) ngBig skip)
  (seqS (asgS 3 (keepS (bin2 sAdd (recO 0 "spot") (konst (.int 1))))) (seqS (recS 0 "spot" (keepS (varO 3))) (seqS ngCell (seqS ngMix1 (seqS ngMix2 ngEnd))))))
def nextG : F := defF 2 6 [0, 1] ngB
theorem ng_ne {cs gs : List PV} {k : Int} {ρ : Loc} : tstV (bin2 sNe (recO 0 "great") (lstO (seqP []))) (some (mG cs gs k) :: ρ) = .ok (!gs.isEmpty) (some (mG cs gs k) :: ρ) := by cases gs <;> rfl
theorem ng_0 {cs r : List PV} {g : PV} {k : Int} {ρ : Loc} : bin2 sIx (recO 0 "great") (konst (.int 0)) (some (mG cs (g :: r) k) :: ρ) = .ok (.tm (.v g)) (some (mG cs (g :: r) k) :: ρ) := bin2_at rfl rfl rfl rfl ix0
theorem ng_C {cs r : List PV} {g k : Int} {ρ : Loc} : ngC (some (mG cs (.int g :: r) k) :: ρ) = .ok (g == 0) (some (mG cs (.int g :: r) k) :: ρ) := by
  unfold ngC
  rw [and_at ng_ne]
  refine (if_pos rfl).trans ?_
  exact tst_at (bin2_at ng_0 rfl rfl rfl eqI) rfl
theorem ng_D {cs r : List PV} {g : PV} {k : Int} {ρ : Loc} : ngD (some (mG cs (g :: r) k) :: ρ) = .ok .nx (some (mG cs r k) :: ρ) := by
  have h : slO (recO 0 "great") (aPart (konst (.int 1))) noPart (some (mG cs (g :: r) k) :: ρ) = .ok (.tm (.l (cutP (g :: r) (some 1) none))) (some (mG cs (g :: r) k) :: ρ) := rfl
  rw [cut_tail] at h
  have := keepS_tm h
  unfold ngD recS bindR
  rw [this]
  rfl
theorem ng_loop {cs : List PV} {k : Int} {ρ : Loc} : ∀ (gs : List Int) (n : Nat), gs.length < n → ∃ gs' : List Int, whl ngC ngD n (some (mG cs (gs.map .int) k) :: ρ) = .ok .nx (some (mG cs (gs'.map .int) k) :: ρ) ∧ (∀ x ∈ gs', x ∈ gs) ∧ gs'.length ≤ gs.length
  | [], n + 1, _ => ⟨[], by
    unfold whl
    have : ngC (some (mG cs ([].map .int) k) :: ρ) = .ok false (some (mG cs ([].map .int) k) :: ρ) := rfl
    rw [this], fun _ h => h, Nat.le_refl _⟩
  | g :: r, n + 1, h => by
    unfold whl
    rw [List.map_cons, ng_C]
    by_cases hg : g = 0
    · obtain ⟨gs', h1, h2, h3⟩ := ng_loop (cs := cs) (k := k) (ρ := ρ) r n (by simpa using h)
      refine ⟨gs', ?_, fun x hx => List.mem_cons_of_mem _ (h2 x hx), by rw [List.length_cons]; omega⟩
      rw [show (g == 0) = true by simpa using hg]
      dsimp only
      rw [ng_D]
      exact h1
    · refine ⟨g :: r, ?_, fun _ h => h, Nat.le_refl _⟩
      rw [show (g == 0) = false by simpa using hg]
      rfl
theorem atI_mod {xs : List Int} {i : Int} (h : xs ≠ []) : ∃ c, atI (xs.map PV.int) (i % (xs.length : Int)) = some (.int c) := by
  have hl : 0 < (xs.length : Int) := by cases xs with | nil => exact absurd rfl h | cons _ _ => rw [List.length_cons]; omega
  have h0 := Int.emod_nonneg i (show (xs.length : Int) ≠ 0 by omega)
  have h1 := Int.emod_lt_of_pos i hl
  obtain ⟨j, hj⟩ := Int.eq_ofNat_of_zero_le h0
  have hj' : j < xs.length := by omega
  refine ⟨xs[j], ?_⟩
  rw [hj]
  exact atI_nat (by rw [List.getElem?_map, List.getElem?_eq_getElem hj']; rfl)
theorem ng_cell {cs : List Int} {gs : List PV} {k k1 : Int} {t x5 : Option SV} {x2 : Option SV} : ∃ c : Int, ngCell [some (mG (cs.map .int) gs k), t, x2, some (.v (.int k1)), none, x5] = .ok .nx [some (mG (cs.map .int) gs k), t, x2, some (.v (.int k1)), some (.v (.int c)), x5] := by
  cases cs with
  | nil => exact ⟨37, rfl⟩
  | cons c0 cs =>
    obtain ⟨c, hc⟩ := atI_mod (xs := c0 :: cs) (i := k1) (List.cons_ne_nil _ _)
    refine ⟨c, ?_⟩
    unfold ngCell
    have hl : callB sLen (seqO [recO 0 "cells"]) [some (mG ((c0 :: cs).map .int) gs k), t, x2, some (.v (.int k1)), none, x5] = .ok (.tm (.v (.int ((c0 :: cs).map PV.int).length))) [some (mG ((c0 :: cs).map .int) gs k), t, x2, some (.v (.int k1)), none, x5] := rfl
    rw [List.length_map] at hl
    have hm : bin2 sMod (callB sInt (seqO [varO 3])) (callB sLen (seqO [recO 0 "cells"])) [some (mG ((c0 :: cs).map .int) gs k), t, x2, some (.v (.int k1)), none, x5] = .ok (.tm (.v (.int (k1 % ((c0 :: cs).length : Int))))) [some (mG ((c0 :: cs).map .int) gs k), t, x2, some (.v (.int k1)), none, x5] :=
      bin2_at (call1_at rfl rfl rfl) hl rfl rfl (modI (by rw [List.length_cons]; omega))
    refine (asg_at (ρ1 := [some (mG ((c0 :: cs).map .int) gs k), t, x2, some (.v (.int k1)), none, x5]) (keepS_tm (s := .v (.int c)) ?_) (by show 4 < 6; decide)).trans rfl
    refine (ifV_at (b := true) (ρ1 := [some (mG ((c0 :: cs).map .int) gs k), t, x2, some (.v (.int k1)), none, x5]) (by rfl)).trans ((if_pos rfl).trans ?_)
    exact bin2_at rfl hm rfl rfl (ixL hc)
/-- a draw: below the total, the record kept in form -/
theorem nextG_ok {cs gs : List Int} {k T : Int} (hT : 0 < T) (hT2 : T < 1073741824) (hk : 0 ≤ k) (hk2 : k < 2 ^ 60) (hg : ∀ x ∈ gs, 0 ≤ x) (hl : gs.length < 2 ^ 60) :
    ∃ (r : Int) (gs' : List Int) (k' : Int), nextG [mG (cs.map .int) (gs.map .int) k, .v (.int T)] = .ok (.v (.int r)) [mG (cs.map .int) (gs'.map .int) k', .v (.int T)] ∧ 0 ≤ r ∧ r < T ∧ k ≤ k' ∧ k' ≤ k + 1 ∧ (∀ x ∈ gs', 0 ≤ x) ∧ gs'.length ≤ gs.length := by
  obtain ⟨g1, e1, m1, l1⟩ := ng_loop (cs := cs.map .int) (k := k) (ρ := [some (.v (.int T)), none, none, none, none]) gs fuelW (Nat.lt_trans hl (by decide))
  have fin : ∀ {r k' : Int} {gs' : List Int} {a b c d : Option SV}, ngB [some (mG (cs.map .int) (gs.map .int) k), some (.v (.int T)), none, none, none, none] = .ok (.rt (.v (.int r))) [some (mG (cs.map .int) (gs'.map .int) k'), some (.v (.int T)), a, b, c, d] →
      nextG [mG (cs.map .int) (gs.map .int) k, .v (.int T)] = .ok (.v (.int r)) [mG (cs.map .int) (gs'.map .int) k', .v (.int T)] := by
    intro r k' gs' a b c d h
    show semF 6 [0, 1] ngB [mG (cs.map .int) (gs.map .int) k, .v (.int T)] = _
    unfold semF
    rw [show (List.map some [mG (cs.map .int) (gs.map .int) k, SV.v (.int T)] ++ List.replicate (6 - [mG (cs.map .int) (gs.map .int) k, SV.v (.int T)].length) none) = [some (mG (cs.map .int) (gs.map .int) k), some (.v (.int T)), none, none, none, none] from rfl, h]
    rfl
  cases g1 with
  | cons g r =>
    have hg0 : 0 ≤ g := hg g (m1 g List.mem_cons_self)
    refine ⟨g % T, (g / T) :: r, k, fin (a := some (.v (.int g))) (b := none) (c := none) (d := none) ?_, Int.emod_nonneg _ (by omega), Int.emod_lt_of_pos _ hT, Int.le_refl _, by omega, ?_, by simpa using l1⟩
    · unfold ngB
      rw [seq_at e1, List.map_cons]
      refine seq_rt ?_
      rw [if_at ng_ne]
      refine (if_pos rfl).trans ?_
      unfold ngBig
      refine (seq_at (asg_at (keepS_tm (call1_at ng_0 rfl rfl)) (by show 2 < 6; decide))).trans ?_
      have hd : keepP (bin2 sFdiv (varO 2) (varO 1)) [some (mG (cs.map .int) (.int g :: r.map .int) k), some (.v (.int T)), some (.v (.int g)), none, none, none] = .ok (.int (g / T)) [some (mG (cs.map .int) (.int g :: r.map .int) k), some (.v (.int T)), some (.v (.int g)), none, none, none] :=
        keepP_tm (bin2_at rfl rfl rfl rfl (divI ⟨hT, hT2⟩))
      have hx : recIx 0 "great" (keepP (bin2 sFdiv (varO 2) (varO 1))) (konst (.int 0)) [some (mG (cs.map .int) (.int g :: r.map .int) k), some (.v (.int T)), some (.v (.int g)), none, none, none] = .ok .nx [some (mG (cs.map .int) (.int (g / T) :: r.map .int) k), some (.v (.int T)), some (.v (.int g)), none, none, none] := by
        have hi : ixN (PV.int g :: r.map .int).length 0 = some 0 := by
          unfold ixN
          rw [if_pos (by decide), if_pos (by rw [List.length_cons]; omega)]; rfl
        unfold recIx bindR
        rw [hd]
        show (match ixN (PV.int g :: r.map .int).length 0 with | some n => _ | none => _) = _
        rw [hi]
        rfl
      refine (seq_at hx).trans (ret_at (keepS_tm (bin2_at rfl rfl rfl rfl (modI hT))))
    · intro x hx
      rcases List.mem_cons.mp hx with rfl | hx
      · exact Int.ediv_nonneg hg0 (by omega)
      · exact hg x (m1 x (List.mem_cons_of_mem _ hx))
  | nil =>
    obtain ⟨c, hc⟩ := ng_cell (cs := cs) (gs := []) (k := k + 1) (k1 := k + 1) (t := some (.v (.int T))) (x5 := none) (x2 := none)
    have w1 : inW (k + 1) = true := decide_eq_true ⟨by omega, by omega⟩
    refine ⟨(((c % 2147483563 + 6043 * (k + 1) + 43 * (k + 1) * (k + 1)) * 40014 % 2147483563 + 88937 * (k + 1)) * 742938285 % 2147483549 / 17) % T, [], k + 1, fin (a := none) (b := some (.v (.int (k + 1)))) (c := some (.v (.int c))) (d := some (.v (.int (((c % 2147483563 + 6043 * (k + 1) + 43 * (k + 1) * (k + 1)) * 40014 % 2147483563 + 88937 * (k + 1)) * 742938285)))) ?_, Int.emod_nonneg _ (by omega), Int.emod_lt_of_pos _ hT, by omega, Int.le_refl _, (fun _ h => nomatch h), Nat.zero_le _⟩
    unfold ngB
    rw [seq_at e1]
    refine (seq_at (ρ1 := [some (mG (cs.map .int) [] k), some (.v (.int T)), none, none, none, none]) (by rfl)).trans ?_
    refine (seq_at (ρ1 := [some (mG (cs.map .int) [] k), some (.v (.int T)), none, some (.v (.int (k + 1))), none, none]) (by rfl)).trans ?_
    refine (seq_at (ρ1 := [some (mG (cs.map .int) [] (k + 1)), some (.v (.int T)), none, some (.v (.int (k + 1))), none, none]) (by rfl)).trans ?_
    refine (seq_at hc).trans ?_
    have x1 : ngMix1 [some (mG (cs.map .int) [] (k + 1)), some (.v (.int T)), none, some (.v (.int (k + 1))), some (.v (.int c)), none] = .ok .nx [some (mG (cs.map .int) [] (k + 1)), some (.v (.int T)), none, some (.v (.int (k + 1))), some (.v (.int c)), some (.v (.int ((c % 2147483563 + 6043 * (k + 1) + 43 * (k + 1) * (k + 1)) * 40014)))] :=
      (ev_mulR (ev_int (ev_add (ev_add (ev_mod (ev_int (ev_v rfl)) ev_k (by decide)) (ev_mulL ev_k (ev_v rfl) (by decide))) (ev_mulR (ev_mulL ev_k (ev_v rfl) (by decide)) (ev_v rfl) w1))) ev_k (by decide)).asg (by show 5 < 6; decide)
    have x2 : ∀ z : Int, ngMix2 [some (mG (cs.map .int) [] (k + 1)), some (.v (.int T)), none, some (.v (.int (k + 1))), some (.v (.int c)), some (.v (.int z))] = .ok .nx [some (mG (cs.map .int) [] (k + 1)), some (.v (.int T)), none, some (.v (.int (k + 1))), some (.v (.int c)), some (.v (.int ((z % 2147483563 + 88937 * (k + 1)) * 742938285)))] := fun z =>
      (ev_mulR (ev_int (ev_add (ev_mod (ev_int (ev_v rfl)) ev_k (by decide)) (ev_mulL ev_k (ev_v rfl) (by decide)))) ev_k (by decide)).asg (by show 5 < 6; decide)
    refine (seq_at x1).trans ((seq_at (x2 _)).trans ?_)
    exact (ev_mod (ev_int (ev_div (ev_mod (ev_int (ev_v rfl)) ev_k (by decide)) ev_k (by decide))) (ev_v rfl) hT).ret
/-! ### the beginning -/
def bgT : Loc → Rs Bool := tstV (bin2 (sCmpI fun i j => decide (j ≤ i)) (varO 2) (bin2 sPow (konst (.int 10)) (konst (.int 18))))
def bgB : Loc → Rs Fl := seqS (asgS 1 (keepS (lcO 3 (.nm 2) [2] (walkV (keepP (varO 0))) bgT (keepP (varO 2)))))
  (retS (keepS (recD ["cells", "great", "spot"] (seqV [keepS (callB sList (seqO [varO 0])), movS 1, keepS (konst (.int 0))]))))
def begunG : F := defF 1 3 [0] bgB
theorem bg_lc {a b : Option SV} : ∀ (ns : List Int) (acc : List PV), acc.length + ns.length ≤ 1000000 → lcL (.nm 2) [2] bgT (keepP (varO 2)) (ns.map .int) [a, b, none] acc = .ok (acc ++ (ns.filter fun n => decide (10 ^ 18 ≤ n)).map .int) [a, b, none]
  | [], acc, _ => by rw [List.map_nil]; unfold lcL; simp
  | n :: ns, acc, h => by
    rw [List.map_cons]
    unfold lcL
    have h1 : setTg (.nm 2) (.v (.int n)) [a, b, none] = some [a, b, some (.v (.int n))] := rfl
    have h2 : bgT [a, b, some (.v (.int n))] = .ok (decide ((10 : Int) ^ 18 ≤ n)) [a, b, some (.v (.int n))] := (ev_2 (q := .v (.int (10 ^ 18))) (ev_v rfl) (ev_2 ev_k ev_k (by kernel_rfl)) rfl).tst
    rw [h1]; dsimp only
    rw [h2]
    rw [List.length_cons] at h
    by_cases hn : (10 : Int) ^ 18 ≤ n
    · rw [decide_eq_true hn]; dsimp only
      have h3 : keepP (varO 2) [a, b, some (.v (.int n))] = .ok (.int n) [a, b, some (.v (.int n))] := rfl
      rw [h3]; dsimp only
      rw [if_pos (by omega), show wipeL [a, b, some (.v (.int n))] [2] = [a, b, none] from rfl, bg_lc (a := a) (b := b) ns (acc ++ [PV.int n]) (by rw [List.length_append]; simp; omega), List.filter_cons_of_pos (by exact decide_eq_true hn), List.map_cons, List.append_assoc]
      rfl
    · rw [decide_eq_false hn]; dsimp only
      rw [show wipeL [a, b, some (.v (.int n))] [2] = [a, b, none] from rfl, bg_lc ns acc (by omega), List.filter_cons_of_neg (by rw [decide_eq_false hn]; exact Bool.false_ne_true)]
theorem begunG_ok {ns : List Int} (h : ns.length ≤ 63) : begunG [.v (.lst (ns.map .int))] = .ok (mG (ns.map .int) ((ns.filter fun n => decide (10 ^ 18 ≤ n)).map .int) 0) [.v (.lst (ns.map .int))] := by
  refine defF_rt (ρ := [some (.v (.lst (ns.map .int))), none, none]) rfl rfl (ρ' := [some (.v (.lst (ns.map .int))), none, none]) ?_ rfl
  unfold bgB
  refine (seq_at (ρ1 := [some (.v (.lst (ns.map .int))), some (.l ((ns.filter fun n => decide (10 ^ 18 ≤ n)).map .int)), none]) (asg_at (keepS_tm (lcO_at (by rfl) (ps := ns.map .int) (ρ1 := [some (.v (.lst (ns.map .int))), none, none]) (by rfl) (by rfl) (bg_lc ns [] (by simp; omega)))) (by show 1 < 3; decide))).trans ?_
  rfl
theorem great_nn {ns : List Int} : ∀ x ∈ ns.filter (fun n => decide (10 ^ 18 ≤ n)), 0 ≤ x := fun x hx => by
  have := of_decide_eq_true (List.mem_filter.mp hx).2
  omega
/-! ### one of some -/
def ofG : F := defF 2 2 [0, 1] (retS (keepS (bin2 sIx (varO 1) (callF nextG (seqO [varO 0, callB sLen (seqO [varO 1])])))))
theorem ofG_ok {cs gs : List Int} {k : Int} {xs : List PV} (hx : xs ≠ []) (hx2 : xs.length < 1073741824) (hk : 0 ≤ k) (hk2 : k < 2 ^ 60) (hg : ∀ x ∈ gs, 0 ≤ x) (hl : gs.length < 2 ^ 60) :
    ∃ (r : Nat) (p : PV) (gs' : List Int) (k' : Int), xs[r]? = some p ∧ ofG [mG (cs.map .int) (gs.map .int) k, .l xs] = .ok (.v p) [mG (cs.map .int) (gs'.map .int) k', .l xs] ∧ k ≤ k' ∧ k' ≤ k + 1 ∧ (∀ x ∈ gs', 0 ≤ x) ∧ gs'.length ≤ gs.length := by
  have hp : 0 < (xs.length : Int) := by cases xs with | nil => exact absurd rfl hx | cons _ _ => rw [List.length_cons]; omega
  obtain ⟨r, gs', k', h1, h2, h3, h4, h5, h6, h7⟩ := nextG_ok (cs := cs) (T := xs.length) hp (by omega) hk hk2 hg hl
  obtain ⟨j, rfl⟩ := Int.eq_ofNat_of_zero_le h2
  have hj : j < xs.length := by omega
  refine ⟨j, xs[j], gs', k', List.getElem?_eq_getElem hj, ?_, h4, h5, h6, h7⟩
  refine defF_rt (ρ := [some (mG (cs.map .int) (gs.map .int) k), some (.l xs)]) rfl rfl (ρ' := [some (mG (cs.map .int) (gs'.map .int) k'), some (.l xs)]) ?_ rfl
  have hc : callF nextG (seqO [varO 0, callB sLen (seqO [varO 1])]) [some (mG (cs.map .int) (gs.map .int) k), some (.l xs)] = .ok (.tm (.v (.int j))) [some (mG (cs.map .int) (gs'.map .int) k'), some (.l xs)] := (callF_at (ρ1 := [some (mG (cs.map .int) (gs.map .int) k), some (.l xs)]) (ovs := [.sl 0, .tm (.v (.int xs.length))]) (by rfl) (by rfl) h1).trans rfl
  exact ret_at (keepS_tm (bin2_at (by rfl) hc (by rfl) (by rfl) (ixL (atI_nat (List.getElem?_eq_getElem hj)))))
end Lt
set_option maxHeartbeats 400000
/-! LtSm: equations by which simp runs the combinators at a written list of slots. -/
namespace Lt
open PySem PySem.Spec L2
open PyProof.Rows hiding St
section
variable {ρ ρ' : Loc} {s t : SV} {p q : PV}
theorem m_konst : konst p ρ = .ok (.tm (.v p)) ρ := rfl
theorem m_tm : (OV.tm s).get ρ = some s := rfl
theorem m_sl {i : Nat} : (OV.sl i).get ρ = match ρ[i]? with | some (some s) => some s | _ => none := rfl
theorem m_var {i : Nat} : varO i ρ = match ρ[i]? with | some (some _) => .ok (.sl i) ρ | _ => .no := rfl
theorem m_tst {c : Loc → Rs OV} : tstV c ρ = match c ρ with
    | .ok x ρ' => (match x.get ρ' with | some (.v (.bl b)) => .ok b ρ' | _ => .no)
    | .ex x ρ' => .ex x ρ'
    | .no => .no := by
  unfold tstV bindR
  cases c ρ <;> rfl
theorem m_un {f : SV → Option SV} {c : Loc → Rs OV} : un1 f c ρ = match c ρ with
    | .ok x ρ' => (match x.get ρ' with | some p => (match f p with | some s => .ok (.tm s) ρ' | none => .no) | none => .no)
    | .ex x ρ' => .ex x ρ'
    | .no => .no := by
  unfold un1 bindR
  cases c ρ with
  | ok x ρ' =>
    dsimp only
    cases x.get ρ' with
    | none => rfl
    | some p => dsimp only [opt]; cases f p <;> rfl
  | _ => rfl
theorem m_bin {f : SV → SV → Option SV} {c d : Loc → Rs OV} : bin2 f c d ρ = match c ρ with
    | .ok x ρ' => (match d ρ' with
      | .ok y ρ2 => (match x.get ρ2 with | some p => (match y.get ρ2 with | some q => (match f p q with | some s => .ok (.tm s) ρ2 | none => .no) | none => .no) | none => .no)
      | .ex x ρ' => .ex x ρ'
      | .no => .no)
    | .ex x ρ' => .ex x ρ'
    | .no => .no := by
  unfold bin2 bindR
  cases c ρ with
  | ok x ρ' =>
    dsimp only
    cases d ρ' with
    | ok y ρ2 =>
      dsimp only
      cases x.get ρ2 with
      | none => rfl
      | some p =>
        dsimp only [opt]
        cases y.get ρ2 with
        | none => rfl
        | some q => dsimp only; cases f p q <;> rfl
    | _ => rfl
  | _ => rfl
theorem m_not {c : Loc → Rs Bool} : notT c ρ = match c ρ with | .ok b ρ' => .ok (!b) ρ' | .ex x ρ' => .ex x ρ' | .no => .no := by
  unfold notT bindR
  cases c ρ <;> rfl
theorem m_or {c d : Loc → Rs Bool} : orT c d ρ = match c ρ with | .ok true ρ' => .ok true ρ' | .ok false ρ' => d ρ' | .ex x ρ' => .ex x ρ' | .no => .no := by
  unfold orT bindR
  cases c ρ with
  | ok b ρ' => cases b <;> rfl
  | _ => rfl
theorem m_and {c d : Loc → Rs Bool} : andT c d ρ = match c ρ with | .ok true ρ' => d ρ' | .ok false ρ' => .ok false ρ' | .ex x ρ' => .ex x ρ' | .no => .no := by
  unfold andT bindR
  cases c ρ with
  | ok b ρ' => cases b <;> rfl
  | _ => rfl
theorem m_orV {c : Loc → Rs Bool} {d : Loc → Rs OV} : orV c d ρ = match c ρ with | .ok true ρ' => .ok (.tm (.v (.bl true))) ρ' | .ok false ρ' => d ρ' | .ex x ρ' => .ex x ρ' | .no => .no := by
  unfold orV bindR
  cases c ρ with
  | ok b ρ' => cases b <;> rfl
  | _ => rfl
theorem m_andV {c : Loc → Rs Bool} {d : Loc → Rs OV} : andV c d ρ = match c ρ with | .ok true ρ' => d ρ' | .ok false ρ' => .ok (.tm (.v (.bl false))) ρ' | .ex x ρ' => .ex x ρ' | .no => .no := by
  unfold andV bindR
  cases c ρ with
  | ok b ρ' => cases b <;> rfl
  | _ => rfl
theorem m_ifV {c : Loc → Rs Bool} {d f : Loc → Rs OV} : ifV c d f ρ = match c ρ with | .ok true ρ' => d ρ' | .ok false ρ' => f ρ' | .ex x ρ' => .ex x ρ' | .no => .no := by
  unfold ifV bindR
  cases c ρ with
  | ok b ρ' => cases b <;> rfl
  | _ => rfl
theorem m_if {c : Loc → Rs Bool} {d f : Loc → Rs Fl} : ifS c d f ρ = match c ρ with | .ok true ρ' => d ρ' | .ok false ρ' => f ρ' | .ex x ρ' => .ex x ρ' | .no => .no := by
  unfold ifS bindR
  cases c ρ with
  | ok b ρ' => cases b <;> rfl
  | _ => rfl
theorem m_seq {c d : Loc → Rs Fl} : seqS c d ρ = match c ρ with | .ok .nx ρ' => d ρ' | r => r := rfl
theorem m_skip : skip ρ = .ok .nx ρ := rfl
theorem m_ret {c : Loc → Rs SV} : retS c ρ = match c ρ with | .ok s ρ' => .ok (.rt s) ρ' | .ex x ρ' => .ex x ρ' | .no => .no := by
  unfold retS bindR
  cases c ρ <;> rfl
theorem m_keepS {c : Loc → Rs OV} : keepS c ρ = match c ρ with
    | .ok (.tm s) ρ' => .ok s ρ'
    | .ok (.sl i) ρ' => (match ρ'[i]? with
      | some (some (.v p)) => .ok (.v p) ρ'
      | some (some (.l xs)) => .ok (.v (.lst xs)) (ρ'.set i (some (.v (.lst xs))))
      | _ => .no)
    | .ok (.fd i k) ρ' => (match (OV.fd i k).get ρ' with
      | some (.v p) => .ok (.v p) ρ'
      | _ => .no)
    | .ex x ρ' => .ex x ρ'
    | .no => .no := by
  unfold keepS bindR
  cases c ρ with
  | ok x ρ' => cases x <;> rfl
  | _ => rfl
theorem m_cmp {f : Int → Int → Bool} {i j : Int} : sCmpI f (.v (.int i)) (.v (.int j)) = some (.v (.bl (f i j))) := rfl
theorem m_seqO0 : seqO [] ρ = .ok [] ρ := rfl
theorem m_seqO {c : Loc → Rs OV} {cs : List (Loc → Rs OV)} : seqO (c :: cs) ρ = match c ρ with
    | .ok x ρ1 => (match seqO cs ρ1 with | .ok xs ρ2 => .ok (x :: xs) ρ2 | .ex x ρ' => .ex x ρ' | .no => .no)
    | .ex x ρ' => .ex x ρ'
    | .no => .no := by
  rw [seqO]
  unfold bindR
  cases c ρ with
  | ok x ρ1 => dsimp only; cases seqO cs ρ1 <;> rfl
  | _ => rfl
theorem m_callB {f : List SV → Option SV} {c : Loc → Rs (List OV)} : callB f c ρ = match c ρ with
    | .ok xs ρ' => (match getAll ρ' xs with | some ps => (match f ps with | some s => .ok (.tm s) ρ' | none => .no) | none => .no)
    | .ex x ρ' => .ex x ρ'
    | .no => .no := by
  unfold callB bindR
  cases c ρ with
  | ok xs ρ' =>
    dsimp only
    cases getAll ρ' xs with
    | none => rfl
    | some ps => dsimp only [opt]; cases f ps <;> rfl
  | _ => rfl
theorem m_callF {f : F} {c : Loc → Rs (List OV)} : callF f c ρ = match c ρ with
    | .ok ovs ρ1 => (match takeAll ρ1 ovs with
      | none => .no
      | some (ss, ρ2) => (match f ss with
        | .ok s outs => .ok (.tm s) (putAll ρ2 ovs ss outs)
        | .ex x outs => .ex x (putAll ρ2 ovs ss outs)
        | .no => .no))
    | .ex x ρ' => .ex x ρ'
    | .no => .no := by
  unfold callF bindR
  cases c ρ <;> rfl
theorem m_seqP0 : seqP [] ρ = .ok [] ρ := rfl
theorem m_seqP {c : Loc → Rs PV} {cs : List (Loc → Rs PV)} : seqP (c :: cs) ρ = match c ρ with
    | .ok x ρ1 => (match seqP cs ρ1 with | .ok xs ρ2 => .ok (x :: xs) ρ2 | .ex x ρ' => .ex x ρ' | .no => .no)
    | .ex x ρ' => .ex x ρ'
    | .no => .no := by
  rw [seqP]
  unfold bindR
  cases c ρ with
  | ok x ρ1 => dsimp only; cases seqP cs ρ1 <;> rfl
  | _ => rfl
theorem m_tup {c : Loc → Rs (List PV)} : tupO c ρ = match c ρ with | .ok ps ρ' => .ok (.tm (.v (.tup ps))) ρ' | .ex x ρ' => .ex x ρ' | .no => .no := by
  unfold tupO bindR
  cases c ρ <;> rfl
theorem m_lst {c : Loc → Rs (List PV)} : lstO c ρ = match c ρ with | .ok ps ρ' => .ok (.tm (.l ps)) ρ' | .ex x ρ' => .ex x ρ' | .no => .no := by
  unfold lstO bindR
  cases c ρ <;> rfl
theorem m_keepP {c : Loc → Rs OV} : keepP c ρ = match c ρ with
    | .ok (.tm (.v p)) ρ' => .ok p ρ'
    | .ok (.tm (.l xs)) ρ' => .ok (.lst xs) ρ'
    | .ok (.sl i) ρ' => (match ρ'[i]? with
      | some (some (.v p)) => .ok p ρ'
      | some (some (.l xs)) => .ok (.lst xs) (ρ'.set i (some (.v (.lst xs))))
      | _ => .no)
    | .ok (.fd i k) ρ' => (match (OV.fd i k).get ρ' with
      | some (.v p) => .ok p ρ'
      | _ => .no)
    | .ok _ _ => .no
    | .ex x ρ' => .ex x ρ'
    | .no => .no := by
  unfold keepP bindR
  cases c ρ with
  | ok x ρ' =>
    cases x with
    | tm s => cases s <;> rfl
    | _ => rfl
  | _ => rfl
theorem m_asg {i : Nat} {c : Loc → Rs SV} : asgS i c ρ = match c ρ with | .ok s ρ' => (if i < ρ'.length then .ok .nx (ρ'.set i (some s)) else .no) | .ex x ρ' => .ex x ρ' | .no => .no := by
  unfold asgS bindR setL
  cases c ρ <;> rfl
theorem m_unp {tg : Tg} {c : Loc → Rs OV} : unpS tg c ρ = match c ρ with
    | .ok x ρ' => (match x.get ρ' with
      | some (.v p) => (match setTg tg (.v p) ρ' with | some ρ2 => .ok .nx ρ2 | none => .no)
      | _ => .no)
    | .ex x ρ' => .ex x ρ'
    | .no => .no := by
  unfold unpS bindR
  cases c ρ <;> rfl
end
theorem m_take0 {ρ : Loc} : takeAll ρ [] = some ([], ρ) := rfl
theorem m_take {ρ : Loc} {x : OV} {xs : List OV} : takeAll ρ (x :: xs) = match take1 ρ x with
    | some (s, ρ1) => (match takeAll ρ1 xs with
      | some (ss, ρ2) => some (s :: ss, ρ2)
      | none => none)
    | none => none := rfl
theorem m_take1t {ρ : Loc} {s : SV} : take1 ρ (.tm s) = some (s, ρ) := rfl
def takeS : Option (Option SV) → Loc → Nat → Option (SV × Loc)
  | some (some (.v p)), ρ, _ => some (.v p, ρ)
  | some (some s), ρ, i => some (s, ρ.set i none)
  | _, _, _ => none
theorem m_take1s {ρ : Loc} {i : Nat} : take1 ρ (.sl i) = takeS ρ[i]? ρ i := by
  unfold take1
  dsimp only
  cases h : ρ[i]? with
  | none => rfl
  | some o => cases o with
    | none => rfl
    | some t => cases t <;> rfl
theorem m_tkv {ρ : Loc} {i : Nat} {p : PV} : takeS (some (some (.v p))) ρ i = some (.v p, ρ) := rfl
theorem m_tkl {ρ : Loc} {i : Nat} {xs : List PV} : takeS (some (some (.l xs))) ρ i = some (.l xs, ρ.set i none) := rfl
theorem m_tkr {ρ : Loc} {i : Nat} {xs : List (Str × SV)} : takeS (some (some (.r xs))) ρ i = some (.r xs, ρ.set i none) := rfl
theorem m_tko {ρ : Loc} {i : Nat} {c : Str} {xs : List (Str × SV)} : takeS (some (some (.o c xs))) ρ i = some (.o c xs, ρ.set i none) := rfl
theorem m_tkd {ρ : Loc} {i : Nat} {xs : List (PV × PV)} : takeS (some (some (.d xs))) ρ i = some (.d xs, ρ.set i none) := rfl
theorem m_put {ρ : Loc} {x : OV} {xs : List OV} {s o : SV} {ss os : List SV} : putAll ρ (x :: xs) (s :: ss) (o :: os) = putAll (put1 ρ x s o) xs ss os := rfl
theorem m_put0 {ρ : Loc} {ss os : List SV} : putAll ρ [] ss os = ρ := by unfold putAll; rfl
theorem m_put1t {ρ : Loc} {s o t : SV} : put1 ρ (.tm t) s o = ρ := rfl
theorem m_put1v {ρ : Loc} {i : Nat} {p : PV} {o : SV} : put1 ρ (.sl i) (.v p) o = ρ := rfl
theorem m_sub {i j : Int} : sSub (.v (.int i)) (.v (.int j)) = some (.v (.int (i - j))) := rfl
theorem m_tgn {i : Nat} {s : SV} {ρ : Loc} : setTg (.nm i) s ρ = if i < ρ.length then some (ρ.set i (some s)) else none := rfl
theorem m_tgt {ts : List Tg} {ps : List PV} {ρ : Loc} : setTg (.tp ts) (.v (.tup ps)) ρ = setTgs ts ps ρ := rfl
theorem m_tgm {ts : List Tg} {ps : List PV} {ρ : Loc} : setTg (.tp ts) (.v (.tmp ps)) ρ = setTgs ts ps ρ := rfl
theorem m_met {T : SV → Bool} {f : SV → List SV → Option SV} {c : Loc → Rs OV} {d : Loc → Rs (List OV)} {ρ : Loc} : metB T f c d ρ = match c ρ with
    | .ok x ρ1 => (match x.get ρ1 with
      | some p => if T p = true then (match d ρ1 with
        | .ok ys ρ2 => (match x.get ρ2 with | some p => (match getAll ρ2 ys with | some ps => (match f p ps with | some s => .ok (.tm s) ρ2 | none => .no) | none => .no) | none => .no)
        | .ex x ρ' => .ex x ρ'
        | .no => .no) else .no
      | none => .no)
    | .ex x ρ' => .ex x ρ'
    | .no => .no := by
  unfold metB bindR
  cases c ρ with
  | ok x ρ1 =>
    dsimp only
    cases x.get ρ1 with
    | none => rfl
    | some p0 =>
      dsimp only
      split
      · cases d ρ1 with
        | ok ys ρ2 =>
          dsimp only
          cases x.get ρ2 with
          | none => rfl
          | some p =>
            dsimp only [opt]
            cases getAll ρ2 ys with
            | none => rfl
            | some ps => dsimp only; cases f p ps <;> rfl
        | _ => rfl
      · rfl
  | _ => rfl
theorem m_isT {xs : List PV} : isTupS (.v (.tup xs)) = true := rfl
theorem m_tgs {t : Tg} {ts : List Tg} {p : PV} {ps : List PV} {ρ : Loc} : setTgs (t :: ts) (p :: ps) ρ = match setTg t (.v p) ρ with
    | some ρ' => setTgs ts ps ρ'
    | none => none := rfl
theorem m_tgs0 {ρ : Loc} : setTgs [] [] ρ = some ρ := rfl
/-- a comprehension whose element leaves the slots as they are -/
theorem lc_map {α : Type} {k : Nat} {c : Loc → Rs PV} {ρ : Loc} {inj : α → PV} {g : α → PV} (hk : k < ρ.length) (hn : ρ.set k none = ρ) : ∀ (xs : List α) (acc : List PV), (∀ x ∈ xs, c (ρ.set k (some (.v (inj x)))) = .ok (g x) (ρ.set k (some (.v (inj x))))) → acc.length + xs.length ≤ 1000000 →
    lcL (.nm k) [k] yesT c (xs.map inj) ρ acc = .ok (acc ++ xs.map g) ρ
  | [], acc, _, _ => by rw [List.map_nil, List.map_nil, List.append_nil]; rfl
  | x :: xs, acc, h, hl => by
    rw [List.length_cons] at hl
    rw [List.map_cons, List.map_cons]
    unfold lcL
    rw [m_tgn, if_pos hk]
    dsimp only [yesT]
    rw [h x List.mem_cons_self]
    dsimp only
    rw [if_pos (by omega)]
    have e : wipeL (ρ.set k (some (.v (inj x)))) [k] = ρ := by
      show (ρ.set k _).set k none = ρ
      rw [List.set_set]; exact hn
    rw [e, lc_map hk hn xs (acc ++ [g x]) (fun y hy => h y (List.mem_cons_of_mem _ hy)) (by rw [List.length_append]; simp; omega), List.append_assoc]
    rfl
theorem m_walkT {c : Loc → Rs OV} {ρ ρ' : Loc} {ps : List PV} (h : keepP c ρ = .ok (.tup ps) ρ') : walkV (keepP c) ρ = .ok ps ρ' := by
  unfold walkV bindR
  rw [h]; rfl
theorem allB_map {α : Type} {g : α → Bool} : ∀ xs : List α, allB (xs.map fun x => PV.bl (g x)) = some (xs.map g)
  | [] => rfl
  | x :: xs => by rw [List.map_cons]; unfold allB; rw [allB_map xs]; rfl
end Lt
set_option maxHeartbeats 400000
/-! LtRun: more equations by which simp runs the combinators; ops at known kinds. -/
namespace Lt
open PySem PySem.Spec L2
open PyProof.Rows hiding St
section
variable {ρ ρ' : Loc} {s t : SV} {p q : PV}
theorem m_expr {c : Loc → Rs OV} : exprS c ρ = match c ρ with | .ok _ ρ' => .ok .nx ρ' | .ex x ρ' => .ex x ρ' | .no => .no := by
  unfold exprS bindR
  cases c ρ <;> rfl
theorem m_retM {i : Nat} : retM i ρ = match ρ[i]? with | some (some s) => .ok (.rt s) (ρ.set i none) | _ => .no := rfl
theorem m_valT {c : Loc → Rs Bool} : valT c ρ = match c ρ with | .ok b ρ' => .ok (.tm (.v (.bl b))) ρ' | .ex x ρ' => .ex x ρ' | .no => .no := by
  unfold valT bindR
  cases c ρ <;> rfl
theorem m_seqV0 : seqV [] ρ = .ok [] ρ := rfl
theorem m_seqV {c : Loc → Rs SV} {cs : List (Loc → Rs SV)} : seqV (c :: cs) ρ = match c ρ with
    | .ok x ρ1 => (match seqV cs ρ1 with | .ok xs ρ2 => .ok (x :: xs) ρ2 | .ex x ρ' => .ex x ρ' | .no => .no)
    | .ex x ρ' => .ex x ρ'
    | .no => .no := by
  rw [seqV]
  unfold bindR
  cases c ρ with
  | ok x ρ1 => dsimp only; cases seqV cs ρ1 <;> rfl
  | _ => rfl
theorem m_par2 {i j : Nat} {c : Loc → Rs (List SV)} : parS [i, j] c ρ = match c ρ with
    | .ok [s, t] ρ' => (if i < ρ'.length ∧ j < ρ'.length then .ok .nx ((ρ'.set i (some s)).set j (some t)) else .no)
    | .ok _ _ => .no
    | .ex x ρ' => .ex x ρ'
    | .no => .no := by
  unfold parS bindR
  cases c ρ with
  | ok xs ρ1 =>
    match xs with
    | [] => rfl
    | [_] => rfl
    | [s, t] => rfl
    | _ :: _ :: _ :: _ => rfl
  | _ => rfl
theorem m_par3 {i j k : Nat} {c : Loc → Rs (List SV)} : parS [i, j, k] c ρ = match c ρ with
    | .ok [s, t, u] ρ' => (if i < ρ'.length ∧ j < ρ'.length ∧ k < ρ'.length then .ok .nx (((ρ'.set i (some s)).set j (some t)).set k (some u)) else .no)
    | .ok _ _ => .no
    | .ex x ρ' => .ex x ρ'
    | .no => .no := by
  unfold parS bindR
  cases c ρ with
  | ok xs ρ1 =>
    match xs with
    | [] => rfl
    | [_] => rfl
    | [_, _] => rfl
    | [s, t, u] => rfl
    | _ :: _ :: _ :: _ :: _ => rfl
  | _ => rfl
theorem m_noP : noPart ρ = .ok none ρ := rfl
theorem m_aP {c : Loc → Rs OV} : aPart c ρ = match c ρ with
    | .ok x ρ' => (match x.get ρ' with | some (.v (.int i)) => .ok (some i) ρ' | _ => .no)
    | .ex x ρ' => .ex x ρ'
    | .no => .no := by
  unfold aPart bindR
  cases c ρ <;> rfl
theorem m_slO {c : Loc → Rs OV} {cl ch : Loc → Rs (Option Int)} : slO c cl ch ρ = match c ρ with
    | .ok x ρ1 => (match cl ρ1 with
      | .ok lo ρ2 => (match ch ρ2 with
        | .ok hi ρ3 => (match x.get ρ3 with | some p => (match sSl p lo hi with | some s => .ok (.tm s) ρ3 | none => .no) | none => .no)
        | .ex x ρ' => .ex x ρ'
        | .no => .no)
      | .ex x ρ' => .ex x ρ'
      | .no => .no)
    | .ex x ρ' => .ex x ρ'
    | .no => .no := by
  unfold slO bindR
  cases c ρ with
  | ok x ρ1 =>
    dsimp only
    cases cl ρ1 with
    | ok lo ρ2 =>
      dsimp only
      cases ch ρ2 with
      | ok hi ρ3 =>
        dsimp only [opt]
        cases x.get ρ3 with
        | none => rfl
        | some p => dsimp only; cases sSl p lo hi <;> rfl
      | _ => rfl
    | _ => rfl
  | _ => rfl
theorem m_for {tg : Tg} {c : Loc → Rs (List PV)} {b : Loc → Rs Fl} : forS tg c b ρ = match c ρ with | .ok ps ρ' => forL tg b ps ρ' | .ex x ρ' => .ex x ρ' | .no => .no := by
  unfold forS bindR
  cases c ρ <;> rfl
theorem m_wR1 {c : Loc → Rs (List OV)} : walkR1 c ρ = match c ρ with
    | .ok xs ρ' => (match getAll ρ' xs with | some [.v (.int j)] => (if big j then .ok (rangeP 0 j) ρ' else .no) | _ => .no)
    | .ex x ρ' => .ex x ρ'
    | .no => .no := by
  unfold walkR1 bindR
  cases c ρ <;> rfl
theorem m_wR2 {c : Loc → Rs (List OV)} : walkR2 c ρ = match c ρ with
    | .ok xs ρ' => (match getAll ρ' xs with | some [.v (.int i), .v (.int j)] => (if big i && big j then .ok (rangeP i j) ρ' else .no) | _ => .no)
    | .ex x ρ' => .ex x ρ'
    | .no => .no := by
  unfold walkR2 bindR
  cases c ρ <;> rfl
theorem m_wV {c : Loc → Rs PV} : walkV c ρ = match c ρ with
    | .ok p ρ' => (match itemsP p with | some ps => .ok ps ρ' | none => .no)
    | .ex x ρ' => .ex x ρ'
    | .no => .no := by
  unfold walkV bindR
  cases c ρ <;> rfl
theorem m_app {i : Nat} {c : Loc → Rs PV} : appO i c ρ = match ρ[i]? with
    | some (some (.l _)) => (match c ρ with
      | .ok p ρ1 => (match ρ1[i]? with
        | some (some (.l xs)) => if xs.length < 1000000 then .ok (.tm (.v .non)) (ρ1.set i (some (.l (xs ++ [p])))) else .no
        | _ => .no)
      | .ex x ρ' => .ex x ρ'
      | .no => .no)
    | _ => .no := by
  unfold appO bindR
  cases c ρ <;> rfl
theorem m_setO {i : Nat} {c : Loc → Rs PV} {ci : Loc → Rs OV} : setO i c ci ρ = match c ρ with
    | .ok p ρ1 => (match ρ1[i]? with
      | some (some (.l _)) => (match ci ρ1 with
        | .ok j ρ2 => (match ρ2[i]?, j.get ρ2 with
          | some (some (.l xs)), some (.v (.int k)) => (match ixN xs.length k with
            | some n => .ok .nx (ρ2.set i (some (.l (xs.set n p))))
            | none => .no)
          | _, _ => .no)
        | .ex x ρ' => .ex x ρ'
        | .no => .no)
      | _ => .no)
    | .ex x ρ' => .ex x ρ'
    | .no => .no := by
  unfold setO bindR
  cases c ρ with
  | ok p ρ1 =>
    dsimp only
    cases ci ρ1 <;> rfl
  | _ => rfl
theorem m_rec {i : Nat} {k : Str} : recO i k ρ = match ρ[i]? with
    | some (some (.r kvs)) => (match kvs.lookup k with
      | some _ => .ok (.fd i k) ρ
      | none => .no)
    | _ => .no := rfl
theorem m_fd {i : Nat} {k : Str} : (OV.fd i k).get ρ = match ρ[i]? with
    | some (some (.r kvs)) => kvs.lookup k
    | some (some (.o _ kvs)) => kvs.lookup k
    | _ => none := rfl
theorem m_put1l {i : Nat} {xs : List PV} {o : SV} : put1 ρ (.sl i) (.l xs) o = ρ.set i (some o) := rfl
theorem m_put1r {i : Nat} {xs : List (Str × SV)} {o : SV} : put1 ρ (.sl i) (.r xs) o = ρ.set i (some o) := rfl
theorem m_chn {f g : SV → SV → Option SV} {ca cb cc : Loc → Rs OV} : chn f g ca cb cc ρ = match ca ρ with
    | .ok x ρ1 => (match cb ρ1 with
      | .ok y ρ2 => (match x.get ρ2, y.get ρ2 with
        | some p, some q => (match f p q with
          | some (.v (.bl true)) => (match cc ρ2 with
            | .ok z ρ3 => (match y.get ρ3 with | some q' => (match z.get ρ3 with | some r => (match g q' r with | some s => .ok (.tm s) ρ3 | none => .no) | none => .no) | none => .no)
            | .ex x ρ' => .ex x ρ'
            | .no => .no)
          | some (.v (.bl false)) => .ok (.tm (.v (.bl false))) ρ2
          | _ => .no)
        | _, _ => .no)
      | .ex x ρ' => .ex x ρ'
      | .no => .no)
    | .ex x ρ' => .ex x ρ'
    | .no => .no := by
  unfold chn bindR
  cases ca ρ with
  | ok x ρ1 =>
    dsimp only
    cases cb ρ1 with
    | ok y ρ2 =>
      dsimp only
      cases hx : x.get ρ2 with
      | none => rfl
      | some p =>
        cases hy : y.get ρ2 with
        | none => rfl
        | some q =>
          dsimp only
          cases f p q with
          | none => rfl
          | some s =>
            cases s with
            | v w =>
              cases w with
              | bl k =>
                cases k with
                | false => rfl
                | true =>
                  dsimp only
                  cases cc ρ2 with
                  | ok z ρ3 =>
                    dsimp only [opt]
                    cases y.get ρ3 with
                    | none => rfl
                    | some q' =>
                      dsimp only
                      cases z.get ρ3 with
                      | none => rfl
                      | some r => dsimp only; cases g q' r <;> rfl
                  | _ => rfl
              | _ => rfl
            | _ => rfl
    | _ => rfl
  | _ => rfl
theorem m_get0 : getAll ρ [] = some [] := rfl
theorem m_get {x : OV} {xs : List OV} : getAll ρ (x :: xs) = match x.get ρ with | some s => (match getAll ρ xs with | some ss => some (s :: ss) | none => none) | none => none := by
  rw [getAll]
  cases x.get ρ with
  | none => rfl
  | some s => dsimp only; cases getAll ρ xs <;> rfl
end
/-! ### a loop by its invariant -/
theorem forL_nil {tg : Tg} {b : Loc → Rs Fl} {ρ : Loc} : forL tg b [] ρ = .ok .nx ρ := rfl
/-- goes on to its end -/
theorem forL_all {α : Type} {tg : Tg} {b : Loc → Rs Fl} {inj : α → PV} (I : List α → Loc → Prop) (step : ∀ x xs ρ, I (x :: xs) ρ → ∃ ρ1 ρ2, setTg tg (.v (inj x)) ρ = some ρ1 ∧ (b ρ1 = .ok .nx ρ2 ∨ b ρ1 = .ok .ct ρ2) ∧ I xs ρ2) :
    ∀ (xs : List α) (ρ : Loc), I xs ρ → ∃ ρ', forL tg b (xs.map inj) ρ = .ok .nx ρ' ∧ I [] ρ'
  | [], ρ, h => ⟨ρ, rfl, h⟩
  | x :: xs, ρ, h => by
    obtain ⟨ρ1, ρ2, h1, h2, h3⟩ := step x xs ρ h
    obtain ⟨ρ', h4, h5⟩ := forL_all I step xs ρ2 h3
    refine ⟨ρ', ?_, h5⟩
    rw [List.map_cons]
    unfold forL
    rw [h1]
    dsimp only
    rcases h2 with h2 | h2 <;> rw [h2] <;> exact h4
/-- goes on to its end, or leaves by break -/
theorem forL_brk {α : Type} {tg : Tg} {b : Loc → Rs Fl} {inj : α → PV} (I : List α → Loc → Prop) (J : Loc → Prop) (step : ∀ x xs ρ, I (x :: xs) ρ → ∃ ρ1 ρ2, setTg tg (.v (inj x)) ρ = some ρ1 ∧ (((b ρ1 = .ok .nx ρ2 ∨ b ρ1 = .ok .ct ρ2) ∧ I xs ρ2) ∨ (b ρ1 = .ok .bk ρ2 ∧ J ρ2))) (fin : ∀ ρ, I [] ρ → J ρ) :
    ∀ (xs : List α) (ρ : Loc), I xs ρ → ∃ ρ', forL tg b (xs.map inj) ρ = .ok .nx ρ' ∧ J ρ'
  | [], ρ, h => ⟨ρ, rfl, fin ρ h⟩
  | x :: xs, ρ, h => by
    obtain ⟨ρ1, ρ2, h1, h2⟩ := step x xs ρ h
    rw [List.map_cons]
    unfold forL
    rw [h1]
    dsimp only
    rcases h2 with ⟨h2, h3⟩ | ⟨h2, h3⟩
    · obtain ⟨ρ', h4, h5⟩ := forL_brk I J step fin xs ρ2 h3
      exact ⟨ρ', by rcases h2 with h2 | h2 <;> rw [h2] <;> exact h4, h5⟩
    · exact ⟨ρ2, by rw [h2], h3⟩
/-- what comes of a loop that may return: by cases on the items -/
theorem forL_cons {tg : Tg} {b : Loc → Rs Fl} {p : PV} {ps : List PV} {ρ ρ1 : Loc} (h : setTg tg (.v p) ρ = some ρ1) : forL tg b (p :: ps) ρ = match b ρ1 with
    | .ok .nx ρ2 => forL tg b ps ρ2
    | .ok .ct ρ2 => forL tg b ps ρ2
    | .ok .bk ρ2 => .ok .nx ρ2
    | r => r := by
  rw [forL, h]
  try rfl
theorem m_forC {tg : Tg} {b : Loc → Rs Fl} {p : PV} {ps : List PV} {ρ : Loc} : forL tg b (p :: ps) ρ = match setTg tg (.v p) ρ with
    | none => .no
    | some ρ1 => match b ρ1 with
      | .ok .nx ρ2 => forL tg b ps ρ2
      | .ok .ct ρ2 => forL tg b ps ρ2
      | .ok .bk ρ2 => .ok .nx ρ2
      | r => r := rfl
theorem big_of {j : Int} (h : -1000000000 ≤ j) (h2 : j ≤ 1000000000) : big j = true := by
  unfold big
  rw [decide_eq_true_eq]
  omega
/-! ### ops -/
section
variable {i j : Int} {xs ys : List PV} {p q : PV} {n : Nat}
theorem k_neg : sNeg (.v (.int i)) = some (.v (.int (-i))) := rfl
theorem k_add {i j : Int} : sAdd (.v (.int i)) (.v (.int j)) = some (.v (.int (i + j))) := rfl
theorem k_addT (h : xs.length + ys.length ≤ 1000000) : sAdd (.v (.tup xs)) (.v (.tup ys)) = some (.v (.tup (xs ++ ys))) := by
  show (if xs.length + ys.length ≤ sizeLine then _ else _) = _
  rw [if_pos (Nat.le_trans h (by decide))]
theorem k_addL (h : xs.length + ys.length ≤ 1000000) : sAdd (.l xs) (.l ys) = some (.l (xs ++ ys)) := by
  show (if xs.length + ys.length ≤ sizeLine then _ else _) = _
  rw [if_pos (Nat.le_trans h (by decide))]
theorem k_mul (h : -1000000000 ≤ i) (h2 : i ≤ 1000000000) : sMul (.v (.int i)) (.v (.int j)) = some (.v (.int (i * j))) := mulL (by unfold inW; rw [decide_eq_true_eq]; omega)
theorem k_mul' (h : -1000000000 ≤ j) (h2 : j ≤ 1000000000) : sMul (.v (.int i)) (.v (.int j)) = some (.v (.int (i * j))) := mulR (by unfold inW; rw [decide_eq_true_eq]; omega)
theorem k_mulT (h : i ≤ 1000) (h2 : -1000 ≤ i) : sMul (.v (.tup [p])) (.v (.int i)) = some (.v (.tup (List.replicate i.toNat p))) := by
  unfold sMul
  dsimp only
  rw [if_pos ⟨h, h2, by show 1 ≤ 1000; decide⟩]
  congr 3
  generalize i.toNat = n
  induction n with
  | zero => rfl
  | succ n ih => rw [List.replicate_succ, List.flatten_cons, ih]; rfl
theorem k_mod (h : 0 < j) : sMod (.v (.int i)) (.v (.int j)) = some (.v (.int (i % j))) := modI h
theorem k_div (h : 0 < j) (h2 : j < 1073741824) : sFdiv (.v (.int i)) (.v (.int j)) = some (.v (.int (i / j))) := divI ⟨h, h2⟩
theorem k_int : sInt [.v (.int i)] = some (.v (.int i)) := rfl
theorem k_intB {b : Bool} : sInt [.v (.bl b)] = some (.v (.int (if b then 1 else 0))) := rfl
theorem k_min : sMin [.v (.int i), .v (.int j)] = some (.v (.int (min i j))) := by
  unfold sMin; dsimp only; congr 3; omega
theorem k_max : sMax [.v (.int i), .v (.int j)] = some (.v (.int (max i j))) := by
  unfold sMax; dsimp only; congr 3; omega
theorem k_eqI : sEq (.v (.int i)) (.v (.int j)) = some (.v (.bl (decide (i = j)))) := by
  rw [eqI]; congr 3
theorem k_neI' : sNe (.v (.int i)) (.v (.int j)) = some (.v (.bl (!decide (i = j)))) := by
  show some (SV.v (.bl (!(i == j)))) = _
  congr 3
theorem k_eqS {x y : Str} : sEq (.v (.str x)) (.v (.str y)) = some (.v (.bl (x == y))) := rfl
theorem k_neS {x y : Str} : sNe (.v (.str x)) (.v (.str y)) = some (.v (.bl (!(x == y)))) := rfl
theorem k_lenT' : sLen [.v (.tup xs)] = some (.v (.int xs.length)) := rfl
theorem k_lenL : sLen [.l xs] = some (.v (.int xs.length)) := rfl
theorem k_lenK : sLen [.v (.lst xs)] = some (.v (.int xs.length)) := rfl
theorem k_tupL : sTuple [.l xs] = some (.v (.tup xs)) := rfl
theorem k_tupT : sTuple [.v (.tup xs)] = some (.v (.tup xs)) := rfl
theorem k_tupK : sTuple [.v (.lst xs)] = some (.v (.tup xs)) := rfl
theorem k_lisL : sList [.l xs] = some (.l xs) := rfl
theorem k_lisT : sList [.v (.tup xs)] = some (.l xs) := rfl
theorem k_lisK : sList [.v (.lst xs)] = some (.l xs) := rfl
theorem k_sumT {is : List Int} : sSum [.v (.tup (is.map .int))] = some (.v (.int is.sum)) := by
  unfold sSum; dsimp only [asQ]; rw [allI_map']
where allI_map' : ∀ {is : List Int}, allI (is.map PV.int) = some is
  | [] => rfl
  | i :: is => by rw [List.map_cons]; unfold allI; rw [allI_map']
theorem k_ix {xs : List PV} {p : PV} {i : Int} (h : atI xs i = some p) : sIx (.v (.tup xs)) (.v (.int i)) = some (.v p) := by
  show (atI xs i).map SV.v = _
  rw [h]; rfl
theorem k_ixL {xs : List PV} {p : PV} {i : Int} (h : atI xs i = some p) : sIx (.l xs) (.v (.int i)) = some (.v p) := by
  show (atI xs i).map SV.v = _
  rw [h]; rfl
theorem k_ixK {xs : List PV} {p : PV} {i : Int} (h : atI xs i = some p) : sIx (.v (.lst xs)) (.v (.int i)) = some (.v p) := by
  show (atI xs i).map SV.v = _
  rw [h]; rfl
end
section
variable {α : Type} {a b c d e f g h i : α} {r : List α}
theorem at_0 : atI (a :: r) 0 = some a := at0
theorem at_k {n : Nat} {x : α} {xs : List α} (h : xs[n]? = some x) : atI xs (n : Int) = some x := atI_nat h
theorem at_1 : atI (a :: b :: r) 1 = some b := atI_nat (j := 1) rfl
theorem at_2 : atI (a :: b :: c :: r) 2 = some c := atI_nat (j := 2) rfl
theorem at_3 : atI (a :: b :: c :: d :: r) 3 = some d := atI_nat (j := 3) rfl
theorem at_4 : atI (a :: b :: c :: d :: e :: r) 4 = some e := atI_nat (j := 4) rfl
theorem at_5 : atI (a :: b :: c :: d :: e :: f :: r) 5 = some f := atI_nat (j := 5) rfl
theorem at_6 : atI (a :: b :: c :: d :: e :: f :: g :: r) 6 = some g := atI_nat (j := 6) rfl
theorem at_7 : atI (a :: b :: c :: d :: e :: f :: g :: h :: r) 7 = some h := atI_nat (j := 7) rfl
theorem at_8 : atI (a :: b :: c :: d :: e :: f :: g :: h :: i :: r) 8 = some i := atI_nat (j := 8) rfl
end
section
variable {a b c d e f g h i : PV} {r : List PV}
theorem ix_0 : sIx (.v (.tup (a :: r))) (.v (.int 0)) = some (.v a) := k_ix at_0
theorem ix_1 : sIx (.v (.tup (a :: b :: r))) (.v (.int 1)) = some (.v b) := k_ix at_1
theorem ix_2 : sIx (.v (.tup (a :: b :: c :: r))) (.v (.int 2)) = some (.v c) := k_ix at_2
theorem ix_3 : sIx (.v (.tup (a :: b :: c :: d :: r))) (.v (.int 3)) = some (.v d) := k_ix at_3
theorem ix_4 : sIx (.v (.tup (a :: b :: c :: d :: e :: r))) (.v (.int 4)) = some (.v e) := k_ix at_4
theorem ix_5 : sIx (.v (.tup (a :: b :: c :: d :: e :: f :: r))) (.v (.int 5)) = some (.v f) := k_ix at_5
theorem ix_6 : sIx (.v (.tup (a :: b :: c :: d :: e :: f :: g :: r))) (.v (.int 6)) = some (.v g) := k_ix at_6
theorem ix_7 : sIx (.v (.tup (a :: b :: c :: d :: e :: f :: g :: h :: r))) (.v (.int 7)) = some (.v h) := k_ix at_7
theorem ix_8 : sIx (.v (.tup (a :: b :: c :: d :: e :: f :: g :: h :: i :: r))) (.v (.int 8)) = some (.v i) := k_ix at_8
theorem il_0 : sIx (.l (a :: r)) (.v (.int 0)) = some (.v a) := k_ixL at_0
theorem il_1 : sIx (.l (a :: b :: r)) (.v (.int 1)) = some (.v b) := k_ixL at_1
end
/-! ### the last, slices -/
theorem at_last {α : Type} {xs : List α} {x : α} : atI (xs ++ [x]) (-1) = some x := by
  unfold atI ixN
  rw [if_neg (by decide), List.length_append, List.length_singleton]
  rw [if_pos (by omega)]
  show (xs ++ [x])[_]? = _
  rw [show ((-1 : Int) + ((xs.length + 1 : Nat) : Int)).toNat = xs.length by omega]
  simp
theorem at_last2 {α : Type} {xs : List α} {x y : α} : atI (xs ++ [x, y]) (-2) = some x := by
  unfold atI ixN
  rw [if_neg (by decide), List.length_append]
  rw [if_pos (by simp only [List.length_cons, List.length_nil]; omega)]
  show (xs ++ [x, y])[_]? = _
  rw [show ((-2 : Int) + ((xs.length + [x, y].length : Nat) : Int)).toNat = xs.length by simp only [List.length_cons, List.length_nil]; omega]
  simp
theorem cut_to {xs : List PV} {n : Nat} : cutP xs none (some (n : Int)) = xs.take n := by
  unfold cutP
  rw [HT.sIx_none, HT.sIx_nat]
  simp
theorem cut_from {xs : List PV} {n : Nat} : cutP xs (some (n : Int)) none = xs.drop n := by
  unfold cutP
  rw [HT.sIx_none, HT.sIx_nat]
  by_cases h : n ≤ xs.length
  · rw [Nat.min_eq_left h]
    rw [List.take_of_length_le (by rw [List.length_drop]; omega)]
  · rw [Nat.min_eq_right (by omega), List.drop_of_length_le (Nat.le_refl _), List.drop_of_length_le (by omega)]
    simp
theorem cut_ab {xs : List PV} {n m : Nat} : cutP xs (some (n : Int)) (some (m : Int)) = (xs.take m).drop n := by
  unfold cutP
  rw [HT.sIx_nat, HT.sIx_nat]
  rw [List.drop_take]
  by_cases h : n ≤ xs.length
  · rw [Nat.min_eq_left h]
    by_cases h2 : m ≤ xs.length
    · rw [Nat.min_eq_left h2]
    · rw [Nat.min_eq_right (by omega), List.take_of_length_le (by rw [List.length_drop]; omega), List.take_of_length_le (by rw [List.length_drop]; omega)]
  · rw [Nat.min_eq_right (a := n) (by omega), List.drop_of_length_le (Nat.le_refl _), List.drop_of_length_le (i := n) (by omega)]
    simp
theorem sIx_neg {n : Nat} {d : Nat} {k : Nat} (h : 0 < k) : HT.sIx n d (some (-(k : Int))) = n - k := by
  unfold HT.sIx
  dsimp only
  split <;> omega
theorem cut_m {xs : List PV} {k : Nat} (h : 0 < k) : cutP xs none (some (-(k : Int))) = xs.take (xs.length - k) := by
  unfold cutP
  rw [HT.sIx_none, sIx_neg h]
  simp
theorem cut_m1 {xs : List PV} : cutP xs none (some (-1)) = xs.dropLast := by
  rw [show (-1 : Int) = -((1 : Nat) : Int) from rfl, cut_m (by decide), List.dropLast_eq_take]
theorem cut_m2 {xs : List PV} : cutP xs none (some (-2)) = xs.dropLast.dropLast := by
  rw [show (-2 : Int) = -((2 : Nat) : Int) from rfl, cut_m (by decide), List.dropLast_eq_take, List.dropLast_eq_take, List.take_take, List.length_take]
  congr 1
  omega
theorem cut_1 {xs : List PV} : cutP xs (some 1) none = xs.tail := by
  rw [show (1 : Int) = ((1 : Nat) : Int) from rfl, cut_from, List.drop_one]
theorem k_slT {xs : List PV} {lo hi : Option Int} : sSl (.v (.tup xs)) lo hi = some (.v (.tup (cutP xs lo hi))) := rfl
theorem k_slL {xs : List PV} {lo hi : Option Int} : sSl (.l xs) lo hi = some (.l (cutP xs lo hi)) := rfl
theorem k_slK {xs : List PV} {lo hi : Option Int} : sSl (.v (.lst xs)) lo hi = some (.l (cutP xs lo hi)) := rfl
/-! ### kinds -/
theorem k_is_ii {i : Int} : sIsi "int" (.v (.int i)) = some (.v (.bl true)) := rfl
theorem k_is_bi {i : Int} : sIsi "bool" (.v (.int i)) = some (.v (.bl false)) := rfl
theorem k_is_tt {xs : List PV} : sIsi "tuple" (.v (.tup xs)) = some (.v (.bl true)) := rfl
theorem k_is_st {xs : List PV} : sIsi "str" (.v (.tup xs)) = some (.v (.bl false)) := rfl
theorem k_is_si {i : Int} : sIsi "str" (.v (.int i)) = some (.v (.bl false)) := rfl
theorem k_is_ss {x : Str} : sIsi "str" (.v (.str x)) = some (.v (.bl true)) := rfl
theorem k_is_ti {i : Int} : sIsi "tuple" (.v (.int i)) = some (.v (.bl false)) := rfl
theorem k_is_ts {x : Str} : sIsi "tuple" (.v (.str x)) = some (.v (.bl false)) := rfl
theorem k_non_i {i : Int} : sIs (.v (.int i)) (.v .non) = some (.v (.bl false)) := rfl
theorem k_non_n : sIs (.v .non) (.v .non) = some (.v (.bl true)) := rfl
theorem k_non_s {x : Str} : sIs (.v (.str x)) (.v .non) = some (.v (.bl false)) := rfl
theorem k_non_t {xs : List PV} : sIs (.v (.tup xs)) (.v .non) = some (.v (.bl false)) := rfl
theorem k_nn_i {i : Int} : sIsNot (.v (.int i)) (.v .non) = some (.v (.bl true)) := rfl
theorem k_nn_n : sIsNot (.v .non) (.v .non) = some (.v (.bl false)) := rfl
theorem k_nn_s {x : Str} : sIsNot (.v (.str x)) (.v .non) = some (.v (.bl true)) := rfl
theorem k_nn_t {xs : List PV} : sIsNot (.v (.tup xs)) (.v .non) = some (.v (.bl true)) := rfl
theorem k_isnB {a b : Bool} : sIsNot (.v (.bl a)) (.v (.bl b)) = some (.v (.bl (!decide (a = b)))) := rfl
theorem k_isB {a b : Bool} : sIs (.v (.bl a)) (.v (.bl b)) = some (.v (.bl (decide (a = b)))) := rfl
theorem k_itT {xs : List PV} : itemsP (.tup xs) = some xs := rfl
theorem k_itL {xs : List PV} : itemsP (.lst xs) = some xs := rfl
end Lt
namespace Lt
open PySem PySem.Spec L2
open PyProof.Rows hiding St
/-! ### comprehensions -/
theorem set_none {ρ : Loc} {k : Nat} (h : ρ[k]? = some none) : ρ.set k none = ρ := by
  apply List.ext_getElem?; intro j
  by_cases hj : k = j
  · subst hj
    rw [List.getElem?_set_self (List.getElem?_eq_some_iff.mp h).1, h]
  · rw [List.getElem?_set_ne hj]
theorem set_back {ρ : Loc} {k : Nat} {s : SV} (h : ρ[k]? = some (some s)) : (ρ.set k none).set k (some s) = ρ := by
  rw [List.set_set]
  apply List.ext_getElem?; intro j
  by_cases hj : k = j
  · subst hj
    rw [List.getElem?_set_self (List.getElem?_eq_some_iff.mp h).1, h]
  · rw [List.getElem?_set_ne hj]
def freeV : Option (Option SV) → Bool
  | some none => true
  | some (some (.v _)) => true
  | _ => false
theorem lcL_pure {α : Type} {k : Nat} {ct : Loc → Rs Bool} {c : Loc → Rs PV} {ρ : Loc} {inj g : α → PV} {flt : α → Bool} (hk : k < ρ.length) (hn : ρ.set k none = ρ) : ∀ (xs : List α) (acc : List PV), (∀ x ∈ xs, ct (ρ.set k (some (.v (inj x)))) = .ok (flt x) (ρ.set k (some (.v (inj x)))) ∧ (flt x = true → c (ρ.set k (some (.v (inj x)))) = .ok (g x) (ρ.set k (some (.v (inj x)))))) → acc.length + xs.length ≤ 1000000 →
    lcL (.nm k) [k] ct c (xs.map inj) ρ acc = .ok (acc ++ (xs.filter flt).map g) ρ
  | [], acc, _, _ => by rw [List.map_nil, List.filter_nil, List.map_nil, List.append_nil]; rfl
  | x :: xs, acc, h, hl => by
    rw [List.length_cons] at hl
    obtain ⟨h1, h2⟩ := h x List.mem_cons_self
    have e : wipeL (ρ.set k (some (.v (inj x)))) [k] = ρ := by
      show (ρ.set k _).set k none = ρ
      rw [List.set_set]; exact hn
    rw [List.map_cons]
    unfold lcL
    rw [m_tgn, if_pos hk]
    dsimp only
    rw [h1]
    cases hf : flt x with
    | false =>
      dsimp only
      rw [e, lcL_pure hk hn xs acc (fun y hy => h y (List.mem_cons_of_mem _ hy)) (by omega), List.filter_cons_of_neg (by rw [hf]; exact Bool.false_ne_true)]
    | true =>
      dsimp only
      rw [h2 hf]
      dsimp only
      rw [if_pos (by omega), e, lcL_pure hk hn xs (acc ++ [g x]) (fun y hy => h y (List.mem_cons_of_mem _ hy)) (by rw [List.length_append]; simp; omega), List.filter_cons_of_pos hf, List.append_assoc]
      rfl
/-- [c for k in xs if ct] that leaves the slots as they are -/
theorem lc_if {α : Type} {n k : Nat} {ci : Loc → Rs (List PV)} {ct : Loc → Rs Bool} {c : Loc → Rs PV} {ρ : Loc} {inj : α → PV} (g : α → PV) (flt : α → Bool) (xs : List α) (hn : ρ.length = n) (hk : freeV ρ[k]? = true) (hi : ci ρ = .ok (xs.map inj) ρ)
    (h : ∀ x ∈ xs, ct (ρ.set k (some (.v (inj x)))) = .ok (flt x) (ρ.set k (some (.v (inj x)))) ∧ (flt x = true → c (ρ.set k (some (.v (inj x)))) = .ok (g x) (ρ.set k (some (.v (inj x)))))) (hl : xs.length ≤ 1000000) :
    lcO n (.nm k) [k] ci ct c ρ = .ok (.tm (.l ((xs.filter flt).map g))) ρ := by
  have hkl : k < ρ.length := by
    cases hh : ρ[k]? with
    | none => rw [hh] at hk; cases hk
    | some _ => exact (List.getElem?_eq_some_iff.mp hh).1
  have hs : saved ρ [k] = true := by
    unfold saved
    rw [List.all_cons, List.all_nil, Bool.and_true]
    unfold freeV at hk
    split at hk <;> first | (rename_i e; rw [e]) | cases hk
  have key := lcL_pure (ct := ct) (c := c) (ρ := ρ.set k none) (inj := inj) (g := g) (flt := flt) (k := k) (by rw [List.length_set]; exact hkl) (by rw [List.set_set]) xs [] (fun x hx => by rw [List.set_set]; exact h x hx) (by simpa using hl)
  rw [lcO_at hn hi hs (show lcL (.nm k) [k] ct c (xs.map inj) (wipeL ρ [k]) [] = _ from key), List.nil_append]
  congr 1
  show (match ρ[k]? with | some (some s) => (ρ.set k none).set k (some s) | _ => ρ.set k none) = ρ
  unfold freeV at hk
  split
  · rename_i s e; exact set_back e
  · rename_i e
    cases hh : ρ[k]? with
    | none => rw [hh] at hk; cases hk
    | some o => cases o with
      | none => exact set_none hh
      | some s => exact (e s hh).elim
/-- [c for k in xs] -/
theorem lc_all {α : Type} {n k : Nat} {ci : Loc → Rs (List PV)} {c : Loc → Rs PV} {ρ : Loc} {inj : α → PV} (g : α → PV) (xs : List α) (hn : ρ.length = n) (hk : freeV ρ[k]? = true) (hi : ci ρ = .ok (xs.map inj) ρ)
    (h : ∀ x ∈ xs, c (ρ.set k (some (.v (inj x)))) = .ok (g x) (ρ.set k (some (.v (inj x))))) (hl : xs.length ≤ 1000000) :
    lcO n (.nm k) [k] ci yesT c ρ = .ok (.tm (.l (xs.map g))) ρ := by
  rw [lc_if (ct := yesT) g (fun _ => true) xs hn hk hi (fun x hx => ⟨rfl, fun _ => h x hx⟩) hl, List.filter_eq_self.mpr fun _ _ => rfl]
/-- .. whose elements change something -/
def mapAcc {σ α β : Type} (nx : σ → α → σ) (g : σ → α → β) : σ → List α → List β
  | _, [] => []
  | s, x :: xs => g s x :: mapAcc nx g (nx s x) xs
theorem mapAcc_length {σ α β : Type} {nx : σ → α → σ} {g : σ → α → β} : ∀ {s : σ} {xs : List α}, (mapAcc nx g s xs).length = xs.length
  | _, [] => rfl
  | s, x :: xs => by unfold mapAcc; rw [List.length_cons, List.length_cons, mapAcc_length]
theorem lcL_acc {σ α : Type} {k : Nat} {c : Loc → Rs PV} {st : σ → Loc} {inj : α → PV} {nx : σ → α → σ} {g : σ → α → PV} (P : σ → Nat → Prop) (hk : ∀ s, k < (st s).length) : ∀ (xs : List α) (s : σ) (acc : List PV), P s xs.length →
    (∀ s x n, P s (n + 1) → c ((st s).set k (some (.v (inj x)))) = .ok (g s x) ((st (nx s x)).set k (some (.v (inj x)))) ∧ P (nx s x) n) → acc.length + xs.length ≤ 1000000 →
    lcL (.nm k) [k] yesT c (xs.map inj) ((st s).set k none) acc = .ok (acc ++ mapAcc nx g s xs) ((st (xs.foldl nx s)).set k none) ∧ P (xs.foldl nx s) 0
  | [], s, acc, hp, _, _ => ⟨by rw [List.map_nil, mapAcc, List.append_nil]; rfl, hp⟩
  | x :: xs, s, acc, hp, h, hl => by
    rw [List.length_cons] at hl hp
    obtain ⟨h1, h2⟩ := h s x _ hp
    have e : wipeL ((st (nx s x)).set k (some (.v (inj x)))) [k] = (st (nx s x)).set k none := by
      show ((st (nx s x)).set k _).set k none = _
      rw [List.set_set]
    obtain ⟨i1, i2⟩ := lcL_acc P hk xs (nx s x) (acc ++ [g s x]) h2 h (by rw [List.length_append]; simp; omega)
    refine ⟨?_, i2⟩
    rw [List.map_cons]
    unfold lcL
    rw [m_tgn, if_pos (by rw [List.length_set]; exact hk s)]
    dsimp only [yesT]
    rw [List.set_set, h1]
    dsimp only
    rw [if_pos (by omega), e, i1, List.append_assoc, mapAcc]
    rfl
theorem lc_acc {σ α : Type} {n k : Nat} {ci : Loc → Rs (List PV)} {c : Loc → Rs PV} (st : σ → Loc) {inj : α → PV} {o : Option SV} (s : σ) (xs : List α) (nx : σ → α → σ) (g : σ → α → PV) (P : σ → Nat → Prop) (hn : (st s).length = n) (hk : ∀ s, (st s)[k]? = some o) (ho : freeV (some o) = true) (hi : ci (st s) = .ok (xs.map inj) (st s)) (hp : P s xs.length)
    (h : ∀ s x n, P s (n + 1) → c ((st s).set k (some (.v (inj x)))) = .ok (g s x) ((st (nx s x)).set k (some (.v (inj x)))) ∧ P (nx s x) n) (hl : xs.length ≤ 1000000) :
    lcO n (.nm k) [k] ci yesT c (st s) = .ok (.tm (.l (mapAcc nx g s xs))) (st (xs.foldl nx s)) ∧ P (xs.foldl nx s) 0 := by
  obtain ⟨key, fin⟩ := lcL_acc (k := k) (c := c) (st := st) (inj := inj) (nx := nx) (g := g) P (fun s => (List.getElem?_eq_some_iff.mp (hk s)).1) xs s [] hp h (by simpa using hl)
  refine ⟨?_, fin⟩
  have hs : saved (st s) [k] = true := by
    unfold saved
    rw [List.all_cons, List.all_nil, Bool.and_true, hk s]
    unfold freeV at ho
    split at ho <;> first | (rename_i e; cases e; rfl) | cases ho
  rw [lcO_at hn hi hs (show lcL (.nm k) [k] yesT c (xs.map inj) (wipeL (st s) [k]) [] = _ from key), List.nil_append]
  congr 1
  show (match (st s)[k]? with | some (some q) => ((st (xs.foldl nx s)).set k none).set k (some q) | _ => (st (xs.foldl nx s)).set k none) = _
  rw [hk s]
  cases o with
  | none => exact set_none (hk _)
  | some q => exact set_back (hk _)
theorem cut_toI {xs : List PV} {i : Int} (h : 0 ≤ i) : cutP xs none (some i) = xs.take i.toNat := by
  obtain ⟨j, rfl⟩ := Int.eq_ofNat_of_zero_le h
  rw [cut_to]; rfl
theorem cut_fromI {xs : List PV} {i : Int} (h : 0 ≤ i) : cutP xs (some i) none = xs.drop i.toNat := by
  obtain ⟨j, rfl⟩ := Int.eq_ofNat_of_zero_le h
  rw [cut_from]; rfl
theorem cut_abI {xs : List PV} {i j : Int} (h : 0 ≤ i) (h2 : 0 ≤ j) : cutP xs (some i) (some j) = (xs.take j.toNat).drop i.toNat := by
  obtain ⟨m, rfl⟩ := Int.eq_ofNat_of_zero_le h
  obtain ⟨n, rfl⟩ := Int.eq_ofNat_of_zero_le h2
  rw [cut_ab]; rfl
theorem ix_atI {is : List Int} {i : Int} {x : Int} (h : 0 ≤ i) (h2 : is[i.toNat]? = some x) : sIx (.v (.tup (is.map .int))) (.v (.int i)) = some (.v (.int x)) := by
  obtain ⟨j, rfl⟩ := Int.eq_ofNat_of_zero_le h
  exact k_ix (atI_nat (by rw [List.getElem?_map]; rw [Int.toNat_natCast] at h2; rw [h2]; rfl))
theorem k_allB {α : Type} {xs : List α} {g : α → Bool} : sAll [.l (xs.map fun x => PV.bl (g x))] = some (.v (.bl (xs.all g))) := by
  have : ∀ xs : List α, allB (xs.map fun x => PV.bl (g x)) = some (xs.map g) := fun xs => allB_map xs
  unfold sAll
  dsimp only [asL]
  rw [this]
  dsimp only
  rw [List.all_map]
  rfl
theorem k_anyB {α : Type} {xs : List α} {g : α → Bool} : sAny [.l (xs.map fun x => PV.bl (g x))] = some (.v (.bl (xs.any g))) := by
  have : ∀ xs : List α, allB (xs.map fun x => PV.bl (g x)) = some (xs.map g) := fun xs => allB_map xs
  unfold sAny
  dsimp only [asL]
  rw [this]
  dsimp only
  rw [List.any_map]
  rfl
theorem range_map {j : Int} : rangeP 0 j = (List.range j.toNat).map fun (i : Nat) => PV.int (i : Int) := by
  unfold rangeP
  rw [Int.sub_zero]
  apply List.map_congr_left
  intro i _
  rw [Int.zero_add]
theorem defF_nx {k n : Nat} {K : List Nat} {c : Loc → Rs Fl} {ss os : List SV} {ρ ρ' : Loc} (hk : ss.length = k) (h0 : ss.map some ++ List.replicate (n - ss.length) none = ρ) (h : c ρ = .ok .nx ρ') (ho : outsF K 0 ss ρ' = some os) : defF k n K c ss = .ok (.v .non) os := by
  unfold defF
  rw [if_pos hk]
  unfold semF
  rw [h0, h]; dsimp only
  rw [ho]
theorem defF_ex {k n : Nat} {K : List Nat} {c : Loc → Rs Fl} {ss os : List SV} {x : Xn} {ρ ρ' : Loc} (hk : ss.length = k) (h0 : ss.map some ++ List.replicate (n - ss.length) none = ρ) (h : c ρ = .ex x ρ') (ho : outsF K 0 ss ρ' = some os) : defF k n K c ss = .ex x os := by
  unfold defF
  rw [if_pos hk]
  unfold semF
  rw [h0, h]; dsimp only
  rw [ho]
end Lt
set_option maxHeartbeats 1000000
/-! LtXc: errors as they are run -/
namespace Lt
open PySem PySem.Spec L2
open PyProof.Rows hiding St
local macro_rules
  | `(tactic| simp_arith [$as,*]) => `(tactic| simp (disch := first | assumption | omega | decide | (simp only [List.length_cons, List.length_nil, List.length_map, List.length_append, List.length_replicate, List.length_take, List.length_drop, List.length_dropLast, List.length_tail, List.length_range, List.length_set]; omega)) only [m_seq, m_if, m_or, m_and, m_not, m_tst, m_un, m_bin, m_konst, m_tm, m_sl, m_var, m_andV, m_orV, m_ifV, m_ret, m_retM, m_keepS, m_keepP, m_skip, m_cmp, m_callB, m_callF, m_seqO, m_seqO0, m_seqP, m_seqP0, m_seqV, m_seqV0, m_par2, m_par3, m_tup, m_lst, m_asg, m_unp, m_tgn, m_tgt, m_tgm, m_met, m_isT, m_tgs, m_tgs0, m_take0, m_take, m_take1t, m_take1s, m_tkv, m_tkl, m_tkr, m_tko, m_tkd, m_put, m_put0, m_put1t, m_put1v, m_put1l, m_put1r, m_expr, m_valT, m_noP, m_aP, m_slO, m_for, m_wR1, m_wR2, m_wV, m_app, m_setO, m_rec, m_fd, m_chn, m_get0, m_get, big_of, k_neg, k_add, k_addT, k_addL, m_sub, k_mul, k_mul', k_mulT, k_mod, k_div, k_int, k_min, k_max, k_eqI, k_neI', k_eqS, k_neS, k_lenT', k_lenL, k_lenK, k_tupL, k_tupT, k_tupK, k_lisL, k_lisT, k_lisK, k_sumT, ix_0, ix_1, ix_2, ix_3, ix_4, ix_5, ix_6, ix_7, ix_8, il_0, il_1, cut_m1, cut_m2, cut_1, cut_toI, cut_fromI, cut_abI, List.drop_one, k_slT, k_slL, k_slK, k_is_ii, k_is_bi, k_is_tt, k_is_st, k_is_si, k_is_ss, k_is_ti, k_is_ts, k_non_i, k_non_n, k_non_s, k_non_t, k_nn_i, k_nn_n, k_nn_s, k_nn_t, k_isnB, k_isB, k_itT, k_itL, List.getElem?_cons_zero, List.getElem?_cons_succ, List.set_cons_zero, List.set_cons_succ, List.length_cons, List.length_nil, List.length_map, List.map_cons, List.map_nil, List.replicate, List.cons_append, List.nil_append, Nat.reduceAdd, Nat.reduceSub, Nat.reduceLT, Nat.reduceLeDiff, Int.reduceNeg, Int.reduceAdd, Int.reduceSub, Int.reduceMul, Int.reduceEq, Int.reduceLE, Int.reduceLT, Int.cast_ofNat_Int, Int.natCast_zero, Int.natCast_one, Int.reduceToNat, Int.toNat_natCast, if_true, if_false, if_pos, if_neg, eq_self, Bool.false_eq_true, Bool.not_true, Bool.not_false, Bool.true_and, Bool.and_true, Bool.false_and, Bool.and_false, Bool.true_or, Bool.or_true, Bool.and_self, Bool.or_self, Bool.false_or, Bool.or_false, decide_true, decide_false, and_self, and_true, true_and, and_false, false_and, not_true_eq_false, not_false_eq_true, $as,*])
section
variable {ρ : Loc}
theorem m_rai0 {x : Str} {c : Loc → Rs PV} : raiS x none c ρ = match c ρ with | .ok _ ρ' => .ex ⟨x, []⟩ ρ' | .ex y ρ' => .ex y ρ' | .no => .no := by
  unfold raiS bindR
  cases c ρ <;> rfl
theorem m_rai1 {x f : Str} {c : Loc → Rs PV} : raiS x (some f) c ρ = match c ρ with | .ok p ρ' => .ex ⟨x, [(f, p)]⟩ ρ' | .ex y ρ' => .ex y ρ' | .no => .no := by
  unfold raiS bindR
  cases c ρ <;> rfl
theorem seq_ex {c d : Loc → Rs Fl} {ρ1 : Loc} {x : Xn} (h : c ρ = .ex x ρ1) : seqS c d ρ = .ex x ρ1 := by rw [m_seq, h]
theorem try_ok {kn : List Str} {hs : List Hdl} {c : Loc → Rs Fl} {f : Fl} {ρ1 : Loc} (h : c ρ = .ok f ρ1) : tryS kn hs c ρ = .ok f ρ1 := by unfold tryS; rw [h]
theorem try_ex {kn : List Str} {hs : List Hdl} {c : Loc → Rs Fl} {x : Xn} {ρ1 : Loc} (h : c ρ = .ex x ρ1) (hk : kn.contains x.c = true) : tryS kn hs c ρ = handR hs x ρ1 := by unfold tryS; rw [h]; dsimp only; rw [if_pos hk]
/-- an error that is raised in a call -/
abbrev oop : Xn := ⟨"OutOfPlace", []⟩
abbrev bwl (s : Str) : Xn := ⟨"BadWell", [("part", .str s)]⟩
theorem expr_ex {f : F} {c : Loc → Rs (List OV)} {ρ1 ρ2 : Loc} {ovs : List OV} {ss outs : List SV} {x : Xn} (h1 : c ρ = .ok ovs ρ1) (h2 : takeAll ρ1 ovs = some (ss, ρ2)) (h3 : f ss = .ex x outs) : exprS (callF f c) ρ = .ex x (putAll ρ2 ovs ss outs) := by
  rw [m_expr, m_callF, h1]; dsimp only
  rw [h2]; dsimp only
  rw [h3]
/-- the first thing that is no .. ends a walk -/
theorem forL_rt {α : Type} {tg : Tg} {b : Loc → Rs Fl} {inj : α → PV} (I : Loc → Prop) {p : PV} {qs : List PV} {s : SV} (step : ∀ x ρ, I ρ → ∃ ρ1 ρ2, setTg tg (.v (inj x)) ρ = some ρ1 ∧ b ρ1 = .ok .nx ρ2 ∧ I ρ2)
    (last : ∀ ρ, I ρ → ∃ ρ1 ρ2, setTg tg (.v p) ρ = some ρ1 ∧ b ρ1 = .ok (.rt s) ρ2 ∧ I ρ2) : ∀ (xs : List α) (ρ : Loc), I ρ → ∃ ρ', forL tg b (xs.map inj ++ p :: qs) ρ = .ok (.rt s) ρ' ∧ I ρ'
  | [], ρ, h => by
    obtain ⟨ρ1, ρ2, h1, h2, h3⟩ := last ρ h
    refine ⟨ρ2, ?_, h3⟩
    rw [List.map_nil, List.nil_append]
    unfold forL
    rw [h1]; dsimp only
    rw [h2]
  | x :: xs, ρ, h => by
    obtain ⟨ρ1, ρ2, h1, h2, h3⟩ := step x ρ h
    obtain ⟨ρ', h4, h5⟩ := forL_rt I step last xs ρ2 h3
    refine ⟨ρ', ?_, h5⟩
    rw [List.map_cons, List.cons_append]
    unfold forL
    rw [h1]; dsimp only
    rw [h2]; exact h4
end
end Lt
set_option maxHeartbeats 400000
/-! LtDr: the draws of the second family as functions. -/
namespace Lt
open PySem PySem.Spec L2
open PyProof.Rows hiding St
/-- the draws' state; c: how many there were at most -/
structure Dr where
  cs : List Int
  gs : List Int
  k : Int
  c : Nat
  hk : 0 ≤ k
  hc : k ≤ c
  hg : ∀ x ∈ gs, 0 ≤ x
  hl : gs.length < 2 ^ 60
def Dr.sv (d : Dr) : SV := mG (d.cs.map .int) (d.gs.map .int) d.k
theorem Dr.ex (d : Dr) (T : Int) : ∃ x : Int × Dr, x.2.c = d.c + 1 ∧ 0 ≤ x.1 ∧ (0 < T → x.1 < T) ∧ (0 < T → T < 1073741824 → d.c < 2 ^ 59 → nextG [d.sv, .v (.int T)] = .ok (.v (.int x.1)) [x.2.sv, .v (.int T)]) := by
  by_cases h : 0 < T ∧ T < 1073741824 ∧ d.c < 2 ^ 59
  · obtain ⟨r, gs', k', h1, h2, h3, h4, h5, h6, h7⟩ := nextG_ok (cs := d.cs) (gs := d.gs) (k := d.k) h.1 h.2.1 d.hk (by have := d.hc; omega) d.hg d.hl
    have hc := d.hc; have hk := d.hk; have hl := d.hl
    exact ⟨(r, ⟨d.cs, gs', k', d.c + 1, by omega, by omega, h6, by omega⟩), rfl, h2, fun _ => h3, fun _ _ _ => h1⟩
  · have hc := d.hc
    exact ⟨(0, ⟨d.cs, d.gs, d.k, d.c + 1, d.hk, by omega, d.hg, d.hl⟩), rfl, Int.le_refl 0, fun z => z, fun a b c => absurd ⟨a, b, c⟩ h⟩
noncomputable def Dr.num (d : Dr) (T : Int) : Int := (Classical.choose (d.ex T)).1
noncomputable def Dr.nxt (d : Dr) (T : Int) : Dr := (Classical.choose (d.ex T)).2
theorem Dr.nxt_c {d : Dr} {T : Int} : (d.nxt T).c = d.c + 1 := (Classical.choose_spec (d.ex T)).1
theorem Dr.nn (d : Dr) (T : Int) : 0 ≤ d.num T := (Classical.choose_spec (d.ex T)).2.1
theorem Dr.lt (d : Dr) {T : Int} (h : 0 < T) : d.num T < T := (Classical.choose_spec (d.ex T)).2.2.1 h
theorem Dr.next {d : Dr} {T : Int} (h : 0 < T) (h2 : T < 1073741824) (h3 : d.c < 2 ^ 59) : nextG [d.sv, .v (.int T)] = .ok (.v (.int (d.num T))) [(d.nxt T).sv, .v (.int T)] := (Classical.choose_spec (d.ex T)).2.2.2 h h2 h3
/-- one of some things -/
noncomputable def Dr.one (d : Dr) (xs : List PV) : PV := xs.getD (d.num xs.length).toNat .non
theorem Dr.one_mem {d : Dr} {xs : List PV} (h : xs ≠ []) : d.one xs ∈ xs := by
  have hp : 0 < (xs.length : Int) := by cases xs with | nil => exact absurd rfl h | cons _ _ => rw [List.length_cons]; omega
  have h1 := d.nn xs.length
  have h2 := d.lt hp
  unfold Dr.one
  rw [List.getD_eq_getElem?_getD, List.getElem?_eq_getElem (show (d.num xs.length).toNat < xs.length by omega)]
  exact List.getElem_mem _
theorem Dr.of {d : Dr} {xs : List PV} (h : 0 < xs.length) (h2 : xs.length < 1000000) (h3 : d.c < 2 ^ 59) : ofG [d.sv, .l xs] = .ok (.v (d.one xs)) [(d.nxt xs.length).sv, .l xs] := by
  have h1 := d.nn xs.length
  have h2' := d.lt (T := xs.length) (by omega)
  refine defF_rt (ρ := [some d.sv, some (.l xs)]) (ρ' := [some (d.nxt xs.length).sv, some (.l xs)]) rfl rfl ?_ rfl
  have e : bin2 sIx (varO 1) (callF nextG (seqO [varO 0, callB sLen (seqO [varO 1])])) [some d.sv, some (.l xs)] = .ok (.tm (.v (d.one xs))) [some (d.nxt xs.length).sv, some (.l xs)] := by
    have c1 : callF nextG (seqO [varO 0, callB sLen (seqO [varO 1])]) [some d.sv, some (.l xs)] = .ok (.tm (.v (.int (d.num xs.length)))) [some (d.nxt xs.length).sv, some (.l xs)] := by
      exact (callF_at (ρ1 := [some d.sv, some (.l xs)]) (ovs := [.sl 0, .tm (.v (.int xs.length))]) rfl rfl (Dr.next (by omega) (by omega) h3)).trans rfl
    refine bin2_at rfl c1 rfl rfl (k_ixL ?_)
    obtain ⟨j, hj⟩ := Int.eq_ofNat_of_zero_le h1
    have hj' : j < xs.length := by omega
    unfold Dr.one
    rw [hj, Int.toNat_natCast, List.getD_eq_getElem?_getD, List.getElem?_eq_getElem hj']
    exact atI_nat (List.getElem?_eq_getElem hj')
  exact ret_at (keepS_tm e)
/-- .. of ints -/
noncomputable def Dr.oneI (d : Dr) (is : List Int) : Int := is.getD (d.num is.length).toNat 0
theorem Dr.oneI_mem {d : Dr} {is : List Int} (h : is ≠ []) : d.oneI is ∈ is := by
  have hp : 0 < (is.length : Int) := by cases is with | nil => exact absurd rfl h | cons _ _ => rw [List.length_cons]; omega
  have h1 := d.nn is.length
  have h2 := d.lt hp
  unfold Dr.oneI
  rw [List.getD_eq_getElem?_getD, List.getElem?_eq_getElem (show (d.num is.length).toNat < is.length by omega)]
  exact List.getElem_mem _
theorem Dr.one_ints {d : Dr} {is : List Int} (h : is ≠ []) : d.one (is.map .int) = .int (d.oneI is) := by
  have hp : 0 < (is.length : Int) := by cases is with | nil => exact absurd rfl h | cons _ _ => rw [List.length_cons]; omega
  have h1 := d.nn is.length
  have h2 := d.lt hp
  have h3 : (d.num is.length).toNat < is.length := by omega
  unfold Dr.one Dr.oneI
  rw [List.length_map, List.getD_eq_getElem?_getD, List.getD_eq_getElem?_getD, List.getElem?_map, List.getElem?_eq_getElem h3]
  rfl
/-- the first state -/
def drawn (ns : List Int) (h : ns.length ≤ 63) : Dr := ⟨ns, ns.filter fun n => decide (10 ^ 18 ≤ n), 0, 0, Int.le_refl 0, Int.le_refl 0, great_nn, by have := List.length_filter_le (fun n => decide ((10 : Int) ^ 18 ≤ n)) ns; omega⟩
theorem begun_dr {ns : List Int} (h : ns.length ≤ 63) : begunG [.v (.lst (ns.map .int))] = .ok (drawn ns h).sv [.v (.lst (ns.map .int))] := begunG_ok h
theorem m_tkm {ρ : Loc} {i : Nat} {d : Dr} : takeS (some (some d.sv)) ρ i = some (d.sv, ρ.set i none) := rfl
theorem cast2 : ((2 : Nat) : Int) = 2 := rfl
theorem cast3 : ((3 : Nat) : Int) = 3 := rfl
theorem cast4 : ((4 : Nat) : Int) = 4 := rfl
theorem cast5 : ((5 : Nat) : Int) = 5 := rfl
theorem cast6 : ((6 : Nat) : Int) = 6 := rfl
theorem cast7 : ((7 : Nat) : Int) = 7 := rfl
theorem m_put1m {ρ : Loc} {i : Nat} {d : Dr} {o : SV} : put1 ρ (.sl i) d.sv o = ρ.set i (some o) := rfl
end Lt
set_option maxHeartbeats 400000
/-! LtFine: small values: shown, compared. -/
namespace Lt
open PySem PySem.Spec L2
open PyProof.Rows hiding St
/-- what is needed of a thing to be shown and compared; n: a bound of its weight, k: of its depth -/
structure FineD (n k : Nat) (d : PyData) : Prop where
  show_ : d.showable = true
  lay : d.canLay0 = true
  int : d.intsShort 13 = true
  wt : d.weight ≤ n
  dp : d.depth ≤ k
structure FineDs (n k : Nat) (ds : List PyData) : Prop where
  show_ : PyData.showableAll ds = true
  lay : PyData.canLayAll0 ds = true
  int : PyData.intsShortAll 13 ds = true
  wt : PyData.weightAll ds ≤ n
  dp : PyData.depthAll ds ≤ k
def Fine (n k : Nat) (p : PV) : Prop := ∃ d, toD p = some d ∧ FineD n k d
def Fines (n k : Nat) (ps : List PV) : Prop := ∃ ds, toDs ps = some ds ∧ FineDs n k ds
theorem FineD.okShow {n k : Nat} {d : PyData} (h : FineD n k d) (hn : n ≤ 1000000) (hk : k ≤ 60) : okShow d = true := by
  unfold Lt.okShow
  have hd := PyData.hasDict_of_canLay d h.lay
  have hl := PyData.shown_fits (B := 13) (by decide) (by decide) (PyData.leavesShort_of_canLay0 13 d h.lay h.int) (by have := h.wt; omega)
  have := h.dp
  rw [h.show_, hd, decide_eq_true hl, decide_eq_true (by omega : d.depth ≤ 60)]
  rfl
theorem FineD.shaped {n k : Nat} {d : PyData} (h : FineD n k d) (hk : k ≤ 60) : SeqAt.shaped d = true := by
  unfold SeqAt.shaped
  have := h.dp
  rw [h.lay, decide_eq_true (by omega : d.depth ≤ 64)]
  rfl
theorem fine_non {n k : Nat} : Fine n k .non := ⟨_, rfl, rfl, rfl, rfl, Nat.zero_le _, Nat.zero_le _⟩
theorem fine_bl {n k : Nat} {b : Bool} : Fine n k (.bl b) := ⟨_, rfl, rfl, rfl, rfl, Nat.zero_le _, Nat.zero_le _⟩
theorem log2_lt {n : Nat} (h : n < 2 ^ 39) : n.log2 < 39 := by
  by_cases h0 : n = 0
  · subst h0; decide
  · exact (Nat.log2_lt h0).mpr h
theorem fine_int {n k : Nat} {i : Int} (h : i.natAbs < 500000000000) (hn : 40 ≤ n) : Fine n k (.int i) := by
  have hl := log2_lt (n := i.natAbs) (by omega)
  refine ⟨_, rfl, ?_, rfl, ?_, ?_, Nat.zero_le _⟩
  · show decide (i.natAbs.log2 < 1920) = true
    rw [decide_eq_true_eq]; omega
  · show decide ((PyData.shown (.int i)).length ≤ 13) = true
    rw [decide_eq_true_eq]
    exact PyData.shown_int_le (by omega)
  · show (if i == 0 then 0 else i.natAbs.log2 + 1) ≤ n
    split <;> omega
theorem fine_str {n k : Nat} {x : Str} (h : PyData.strOk x = true) (hn : x.cps.size ≤ n) : Fine n k (.str x) := ⟨_, rfl, rfl, h, rfl, hn, Nat.zero_le _⟩
theorem fines_nil {n k : Nat} : Fines n k [] := ⟨_, rfl, rfl, rfl, rfl, Nat.zero_le _, Nat.zero_le _⟩
theorem fines_cons {n n1 n2 k : Nat} {p : PV} {ps : List PV} (a : Fine n1 k p) (b : Fines n2 k ps) (h : n1 + 1 + n2 ≤ n) : Fines n k (p :: ps) := by
  obtain ⟨d, e1, ⟨a1, a2, a3, a4, a5⟩⟩ := a
  obtain ⟨ds, e2, ⟨b1, b2, b3, b4, b5⟩⟩ := b
  refine ⟨d :: ds, by unfold toDs; rw [e1, e2], ?_, ?_, ?_, ?_, ?_⟩
  · unfold PyData.showableAll; rw [a1, b1]; rfl
  · unfold PyData.canLayAll0; rw [a2, b2]; rfl
  · unfold PyData.intsShortAll; rw [a3, b3]; rfl
  · unfold PyData.weightAll; omega
  · unfold PyData.depthAll; omega
theorem fine_tup {n k : Nat} {ps : List PV} (b : Fines n k ps) : Fine n (k + 1) (.tup ps) := by
  obtain ⟨ds, e2, ⟨b1, b2, b3, b4, b5⟩⟩ := b
  refine ⟨.tuple ds, by unfold toD; rw [e2], ?_, ?_, ?_, ?_, ?_⟩
  · unfold PyData.showable; exact b1
  · unfold PyData.canLay0; exact b2
  · unfold PyData.intsShort; exact b3
  · unfold PyData.weight; exact b4
  · unfold PyData.depth; omega
theorem fine_lst {n k : Nat} {ps : List PV} (b : Fines n k ps) : Fine n (k + 1) (.lst ps) := by
  obtain ⟨ds, e2, ⟨b1, b2, b3, b4, b5⟩⟩ := b
  refine ⟨.list ds, by unfold toD; rw [e2], ?_, ?_, ?_, ?_, ?_⟩
  · unfold PyData.showable; exact b1
  · unfold PyData.canLay0; exact b2
  · unfold PyData.intsShort; exact b3
  · unfold PyData.weight; exact b4
  · unfold PyData.depth; omega
theorem Fine.mono {n m k l : Nat} {p : PV} (h : Fine n k p) (h1 : n ≤ m) (h2 : k ≤ l) : Fine m l p := by
  obtain ⟨d, e, ⟨a1, a2, a3, a4, a5⟩⟩ := h
  exact ⟨d, e, a1, a2, a3, by omega, by omega⟩
/-- many of one bound -/
theorem fines_all {n k m : Nat} {ps : List PV} (h : ∀ p ∈ ps, Fine m k p) (hn : ps.length * (m + 1) ≤ n) : Fines n k ps := by
  induction ps generalizing n with
  | nil => exact fines_nil
  | cons p ps ih =>
    rw [List.length_cons, Nat.add_mul] at hn
    exact fines_cons (h p List.mem_cons_self) (ih (n := ps.length * (m + 1)) (fun q hq => h q (List.mem_cons_of_mem _ hq)) (Nat.le_refl _)) (by omega)
theorem fines_ints {n k : Nat} {is : List Int} (h : ∀ i ∈ is, i.natAbs < 500000000000) (hn : is.length * 41 ≤ n) : Fines n k (is.map .int) := by
  refine fines_all (m := 40) (fun p hp => ?_) (by rw [List.length_map]; omega)
  obtain ⟨i, hi, rfl⟩ := List.mem_map.mp hp
  exact fine_int (h i hi) (Nat.le_refl _)
/-- repr -/
def PV.rep (p : PV) : Str := match toD p with
  | some d => d.shown
  | none => ""
theorem k_repr {n k : Nat} {p : PV} (h : Fine n k p) (hn : n ≤ 1000000) (hk : k ≤ 60) : sRepr [.v p] = some (.v (.str p.rep)) := by
  obtain ⟨d, e, f⟩ := h
  unfold sRepr PV.rep
  dsimp only [dOf]
  rw [e]; dsimp only
  rw [f.okShow hn hk]; rfl
theorem k_reprL {n k : Nat} {ps : List PV} (h : Fine n k (.lst ps)) (hn : n ≤ 1000000) (hk : k ≤ 60) : sRepr [.l ps] = some (.v (.str (PV.lst ps).rep)) := by
  obtain ⟨d, e, f⟩ := h
  unfold sRepr PV.rep
  dsimp only [dOf]
  rw [e]; dsimp only
  rw [f.okShow hn hk]; rfl
mutual
theorem eqv_refl : ∀ d : PyData, d.canLay0 = true → PyData.eqv d d = true
  | .none, _ => rfl
  | .bool b, _ => by unfold PyData.eqv; exact beq_self_eq_true b
  | .int i, _ => by unfold PyData.eqv; exact beq_self_eq_true i
  | .str x, _ => by unfold PyData.eqv; exact beq_self_eq_true x
  | .list xs, h => by unfold PyData.eqv; exact eqvAll_refl xs (by unfold PyData.canLay0 at h; exact h)
  | .tuple xs, h => by unfold PyData.eqv; exact eqvAll_refl xs (by unfold PyData.canLay0 at h; exact h)
  | .dict _, h => by unfold PyData.canLay0 at h; cases h
theorem eqvAll_refl : ∀ ds : List PyData, PyData.canLayAll0 ds = true → PyData.eqvAll ds ds = true
  | [], _ => rfl
  | d :: ds, h => by
    unfold PyData.canLayAll0 at h
    rw [Bool.and_eq_true] at h
    unfold PyData.eqvAll
    rw [eqv_refl d h.1, eqvAll_refl ds h.2]; rfl
end
/-! ### equal as data -/
def eqP (p q : PV) : Bool := match toD p, toD q with
  | some d, some e => PyData.eqv d e
  | _, _ => false
theorem eqP_refl {n k : Nat} {p : PV} (h : Fine n k p) : eqP p p = true := by
  obtain ⟨d, e, f⟩ := h
  unfold eqP; rw [e]; exact eqv_refl d f.lay
theorem sEqB_fine {n k m l : Nat} {p q : PV} (h : Fine n k p) (hk : k ≤ 60) (h2 : Fine m l q) (hl : l ≤ 60) : sEqB (.v p) (.v q) = some (eqP p q) := by
  obtain ⟨d, e, f⟩ := h
  obtain ⟨d2, e2, f2⟩ := h2
  have gen : (match dOf (.v p), dOf (.v q) with
    | some d, some e => if SeqAt.shaped d && SeqAt.shaped e then some (PyData.eqv d e) else none
    | _, _ => none) = some (eqP p q) := by
    dsimp only [dOf]
    rw [e, e2]; dsimp only
    rw [f.shaped hk, f2.shaped hl]
    unfold eqP; rw [e, e2]; rfl
  have gA : sEqA (.v p) (.v q) = some (eqP p q) := by
    unfold sEqA
    split
    · rename_i h1 h3
      cases p <;> first | cases h1; done | skip
      cases q <;> first | cases h3; done | skip
      cases h1; cases h3
      cases e; cases e2
      rfl
    · rename_i xs ys _ h1 h3
      split
      · rename_i hne
        cases p <;> first | cases h1; done | skip
        cases q <;> first | cases h3; done | skip
        cases h1; cases h3
        unfold eqP
        rw [e, e2]
        dsimp only
        unfold toD at e e2
        have key : ∀ {xs ys : List PyData}, xs.length ≠ ys.length → PyData.eqvAll xs ys = false := by
          intro xs
          induction xs with
          | nil => intro ys hh; cases ys with
            | nil => exact absurd rfl hh
            | cons _ _ => rfl
          | cons x xs ih => intro ys hh; cases ys with
            | nil => rfl
            | cons y ys => unfold PyData.eqvAll; rw [ih (by simpa using hh), Bool.and_false]
        have len : ∀ {ps : List PV} {ds : List PyData}, toDs ps = some ds → ds.length = ps.length := by
          intro ps
          induction ps with
          | nil => intro ds hh; cases hh; rfl
          | cons p ps ih =>
            intro ds hh
            unfold toDs at hh
            split at hh
            · rename_i h2; cases hh; rw [List.length_cons, List.length_cons, ih h2]
            · cases hh
        cases hx : toDs xs with
        | none => rw [hx] at e; cases e
        | some dx =>
          cases hy : toDs ys with
          | none => rw [hy] at e2; cases e2
          | some dy =>
            rw [hx] at e; rw [hy] at e2
            cases e; cases e2
            unfold PyData.eqv
            rw [key (by rw [len hx, len hy]; exact hne)]
      · exact gen
    · exact gen
  unfold sEqB
  split
  · rename_i x y h1 h3
    cases h1; cases h3
    cases e; cases e2
    rfl
  · exact gA
theorem k_eqF {n k m l : Nat} {p q : PV} (h : Fine n k p) (hk : k ≤ 60) (h2 : Fine m l q) (hl : l ≤ 60) : sEq (.v p) (.v q) = some (.v (.bl (eqP p q))) := by
  unfold sEq; rw [sEqB_fine h hk h2 hl]; rfl
theorem k_neF {n k m l : Nat} {p q : PV} (h : Fine n k p) (hk : k ≤ 60) (h2 : Fine m l q) (hl : l ≤ 60) : sNe (.v p) (.v q) = some (.v (.bl (!eqP p q))) := by
  unfold sNe; rw [sEqB_fine h hk h2 hl]; rfl
end Lt
set_option maxHeartbeats 400000
/-! LtWell: the wells of the program. -/
namespace Lt
open PySem PySem.Spec L2
open PyProof.Rows hiding St
local macro_rules
  | `(tactic| simp_arith [$as,*]) => `(tactic| simp (disch := first | assumption | omega | decide | (simp only [List.length_cons, List.length_nil, List.length_map, List.length_append, List.length_replicate, List.length_take, List.length_drop, List.length_dropLast, List.length_tail, List.length_range, List.length_set]; omega)) only [m_seq, m_if, m_or, m_and, m_not, m_tst, m_un, m_bin, m_konst, m_tm, m_sl, m_var, m_andV, m_orV, m_ifV, m_ret, m_retM, m_keepS, m_keepP, m_skip, m_cmp, m_callB, m_callF, m_seqO, m_seqO0, m_seqP, m_seqP0, m_seqV, m_seqV0, m_par2, m_par3, m_tup, m_lst, m_asg, m_unp, m_tgn, m_tgt, m_tgm, m_met, m_isT, m_tgs, m_tgs0, m_take0, m_take, m_take1t, m_take1s, m_tkv, m_tkl, m_tkr, m_tko, m_tkd, m_put, m_put0, m_put1t, m_put1v, m_put1l, m_put1r, m_expr, m_valT, m_noP, m_aP, m_slO, m_for, m_wR1, m_wR2, m_wV, m_app, m_setO, m_rec, m_fd, m_chn, m_get0, m_get, big_of, k_neg, k_add, k_addT, k_addL, m_sub, k_mul, k_mul', k_mulT, k_mod, k_div, k_int, k_min, k_max, k_eqI, k_neI', k_eqS, k_neS, k_lenT', k_lenL, k_lenK, k_tupL, k_tupT, k_tupK, k_lisL, k_lisT, k_lisK, k_sumT, ix_0, ix_1, ix_2, ix_3, ix_4, ix_5, ix_6, ix_7, ix_8, il_0, il_1, cut_m1, cut_m2, cut_1, cut_toI, cut_fromI, cut_abI, List.drop_one, k_slT, k_slL, k_slK, k_is_ii, k_is_bi, k_is_tt, k_is_st, k_is_si, k_is_ss, k_is_ti, k_is_ts, k_non_i, k_non_n, k_non_s, k_non_t, k_nn_i, k_nn_n, k_nn_s, k_nn_t, k_isnB, k_isB, k_itT, k_itL, List.getElem?_cons_zero, List.getElem?_cons_succ, List.set_cons_zero, List.set_cons_succ, List.length_cons, List.length_nil, List.length_map, List.map_cons, List.map_nil, List.replicate, List.cons_append, List.nil_append, Nat.reduceAdd, Nat.reduceSub, Nat.reduceLT, Nat.reduceLeDiff, Int.reduceNeg, Int.reduceAdd, Int.reduceSub, Int.reduceToNat, Int.toNat_natCast, if_true, if_false, if_pos, if_neg, eq_self, Bool.false_eq_true, Bool.not_true, Bool.not_false, Bool.true_and, Bool.and_true, Bool.false_and, Bool.and_false, Bool.true_or, Bool.or_true, Bool.and_self, Bool.or_self, Bool.false_or, Bool.or_false, decide_true, decide_false, and_self, and_true, true_and, and_false, false_and, not_true_eq_false, not_false_eq_true, $as,*])
def P.b_is_whole : Loc → Rs Fl := seqS (ifS (orT (notT (tstV (un1 (sIsi "int") (varO 0)))) (tstV (un1 (sIsi "bool") (varO 0)))) (retS (keepS (konst (.bl false)))) (skip))
 (retS (keepS (andV (tstV (orV (tstV (bin2 sIs (varO 1) (konst .non))) (bin2 (sCmpI fun i j => decide (j ≤ i)) (varO 0) (varO 1)))) (orV (tstV (bin2 sIs (varO 2) (konst .non))) (bin2 (sCmpI fun i j => decide (i ≤ j)) (varO 0) (varO 2))))))
def P.f_is_whole : F := defF 3 3 [0, 1, 2] P.b_is_whole
def P.b_are_levels : Loc → Rs Fl := seqS (ifS (orT (notT (tstV (un1 (sIsi "tuple") (varO 1)))) (tstV (bin2 sNe (callB sLen (seqO [varO 1])) (varO 2)))) (retS (keepS (konst (.bl false)))) (skip))
 (retS (keepS (callB sAll (seqO [lcO 4 (.nm 3) [3] (walkV (keepP (varO 1))) yesT (keepP (callF P.f_is_whole (seqO [varO 3, konst (.int 0), bin2 sIx (varO 0) (konst (.int 0))])))]))))
def P.f_are_levels : F := defF 3 4 [0, 1, 2] P.b_are_levels
def P.b_are_counts : Loc → Rs Fl := seqS (ifS (orT (notT (tstV (un1 (sIsi "tuple") (varO 0)))) (tstV (bin2 sNe (callB sLen (seqO [varO 0])) (varO 1)))) (retS (keepS (konst (.bl false)))) (skip))
 (retS (keepS (callB sAll (seqO [lcO 3 (.nm 2) [2] (walkV (keepP (varO 0))) yesT (keepP (callF P.f_is_whole (seqO [varO 2, konst (.int 0), konst (.int 1000)])))]))))
def P.f_are_counts : F := defF 2 3 [0, 1] P.b_are_counts
def P.b_number_of : Loc → Rs Fl := retS (keepS (ifV (tstV (bin2 sIs (bin2 sIx (varO 0) (konst (.int 4))) (konst .non))) (konst .non) (bin2 sAdd (bin2 sAdd (callB sSum (seqO [bin2 sIx (varO 0) (konst (.int 2))])) (callB sSum (seqO [bin2 sIx (varO 0) (konst (.int 3))]))) (bin2 sIx (varO 0) (konst (.int 4))))))
def P.f_number_of : F := defF 1 1 [0] P.b_number_of
def P.b_is_state_of : Loc → Rs Fl := seqS (ifS (orT (notT (tstV (un1 (sIsi "tuple") (varO 1)))) (orT (tstV (bin2 sNe (callB sLen (seqO [varO 1])) (konst (.int 5)))) (notT (tstV (callF P.f_is_whole (seqO [bin2 sIx (varO 1) (konst (.int 0)), konst (.int 0), bin2 sIx (varO 0) (konst (.int 0))])))))) (retS (keepS (konst (.bl false)))) (skip))
 (seqS (ifS (orT (notT (tstV (callF P.f_are_levels (seqO [varO 0, bin2 sIx (varO 1) (konst (.int 1)), bin2 sIx (varO 0) (konst (.int 8))])))) (notT (tstV (callF P.f_are_counts (seqO [bin2 sIx (varO 1) (konst (.int 2)), bin2 sIx (varO 0) (konst (.int 4))]))))) (retS (keepS (konst (.bl false)))) (skip))
 (seqS (ifS (notT (tstV (callF P.f_are_counts (seqO [bin2 sIx (varO 1) (konst (.int 3)), bin2 sSub (bin2 sIx (varO 0) (konst (.int 5))) (konst (.int 1))])))) (retS (keepS (konst (.bl false)))) (skip))
 (seqS (ifS (tstV (bin2 sIs (bin2 sIx (varO 1) (konst (.int 4))) (konst .non))) (retS (keepS (konst (.bl true)))) (skip))
 (retS (keepS (andV (tstV (callF P.f_is_whole (seqO [bin2 sIx (varO 1) (konst (.int 4)), konst (.int 0), konst (.int 50)]))) (bin2 (sCmpI fun i j => decide (i ≤ j)) (callF P.f_number_of (seqO [varO 1])) (konst (.int 50)))))))))
def P.f_is_state_of : F := defF 2 2 [0, 1] P.b_is_state_of
def P.b_wrong_part : Loc → Rs Fl := seqS (unpS (.tp [.nm 1, .nm 2, .nm 3, .nm 4, .nm 5, .nm 6, .nm 7, .nm 8, .nm 9]) (varO 0))
 (seqS (ifS (notT (tstV (callF P.f_is_whole (seqO [varO 1, konst (.int 1), konst (.int 200)])))) (retS (keepS (konst (.str "top")))) (skip))
 (seqS (ifS (notT (tstV (callF P.f_is_whole (seqO [varO 2, konst (.int 1), konst (.int 50)])))) (retS (keepS (konst (.str "drain")))) (skip))
 (seqS (ifS (notT (tstV (callF P.f_is_whole (seqO [varO 3, konst (.int 1), varO 1])))) (retS (keepS (konst (.str "on")))) (skip))
 (seqS (ifS (notT (tstV (callF P.f_is_whole (seqO [varO 4, konst (.int 0), bin2 sSub (varO 3) (konst (.int 1))])))) (retS (keepS (konst (.str "off")))) (skip))
 (seqS (ifS (notT (tstV (callF P.f_is_whole (seqO [varO 5, konst (.int 1), konst (.int 5)])))) (retS (keepS (konst (.str "run")))) (skip))
 (seqS (ifS (notT (tstV (callF P.f_is_whole (seqO [varO 6, konst (.int 1), konst (.int 5)])))) (retS (keepS (konst (.str "rest")))) (skip))
 (seqS (ifS (notT (tstV (callF P.f_is_whole (seqO [varO 7, konst (.int 1), konst (.int 5)])))) (retS (keepS (konst (.str "starts")))) (skip))
 (seqS (ifS (notT (tstV (callF P.f_is_whole (seqO [varO 8, konst (.int 1), konst (.int 20)])))) (retS (keepS (konst (.str "step")))) (skip))
 (retS (keepS (ifV (tstV (callF P.f_is_whole (seqO [varO 9, konst (.int 0), konst (.int 3)]))) (konst .non) (konst (.str "lag")))))))))))))
def P.f_wrong_part : F := defF 1 10 [0] P.b_wrong_part
def P.b_need_well : Loc → Rs Fl := seqS (ifS (orT (notT (tstV (un1 (sIsi "tuple") (varO 0)))) (tstV (bin2 sNe (callB sLen (seqO [varO 0])) (konst (.int 9))))) (raiS "BadWell" (some "part") (keepP (konst (.str "form")))) (skip))
 (seqS (asgS 1 (keepS (callF P.f_wrong_part (seqO [varO 0]))))
 (seqS (ifS (tstV (bin2 sIsNot (varO 1) (konst .non))) (raiS "BadWell" (some "part") (keepP (varO 1))) (skip))
 (retS (keepS (varO 0)))))
def P.f_need_well : F := defF 1 2 [0] P.b_need_well
def P.b_need_state : Loc → Rs Fl := ifS (notT (tstV (callF P.f_is_state_of (seqO [callF P.f_need_well (seqO [varO 0]), varO 1])))) (raiS "OutOfPlace" none (keepP (konst (.str "no state")))) (skip)
def P.f_need_state : F := defF 2 2 [0, 1] P.b_need_state
def P.b_is_inflow : Loc → Rs Fl := retS (keepS (callF P.f_is_whole (seqO [varO 0, konst (.int 0), konst (.int 300)])))
def P.f_is_inflow : F := defF 1 1 [0] P.b_is_inflow
def P.b_seen_of : Loc → Rs Fl := seqS (asgS 3 (keepS (ifV (tstV (bin2 (sCmpI fun i j => decide (j < i)) (bin2 sIx (varO 0) (konst (.int 8))) (konst (.int 0)))) (bin2 sIx (varO 2) (konst (.int 0))) (varO 1))))
 (retS (keepS (bin2 sSub (varO 3) (bin2 sMod (callB sInt (seqO [varO 3])) (bin2 sIx (varO 0) (konst (.int 7)))))))
def P.f_seen_of : F := defF 3 4 [0, 1, 2] P.b_seen_of
def P.b_moves_of : Loc → Rs Fl := seqS (asgS 2 (keepS (callF P.f_seen_of (seqO [varO 0, bin2 sIx (varO 1) (konst (.int 0)), bin2 sIx (varO 1) (konst (.int 1))]))))
 (seqS (ifS (tstV (bin2 (sCmpI fun i j => decide (j ≤ i)) (varO 2) (bin2 sIx (varO 0) (konst (.int 2))))) (retS (keepS (tupO (seqP [keepP (ifV (tstV (bin2 sIs (bin2 sIx (varO 1) (konst (.int 4))) (konst .non))) (bin2 sIx (varO 0) (konst (.int 6))) (callB sMin (seqO [bin2 sIx (varO 0) (konst (.int 6)), bin2 sIx (varO 1) (konst (.int 4))]))), keepP (konst (.int 0))])))) (skip))
 (retS (keepS (tupO (seqP [keepP (konst (.int 0)), keepP (ifV (tstV (bin2 (sCmpI fun i j => decide (i ≤ j)) (varO 2) (bin2 sIx (varO 0) (konst (.int 3))))) (bin2 sIx (bin2 sIx (varO 1) (konst (.int 2))) (un1 sNeg (konst (.int 1)))) (konst (.int 0)))])))))
def P.f_moves_of : F := defF 2 3 [0, 1] P.b_moves_of
def P.b_aged : Loc → Rs Fl := seqS (asgS 6 (keepS (bin2 sAdd (tupO (seqP [keepP (varO 4)])) (varO 1))))
 (seqS (asgS 6 (keepS (bin2 sAdd (slO (varO 6) noPart (aPart (un1 sNeg (konst (.int 2))))) (tupO (seqP [keepP (bin2 sSub (bin2 sAdd (bin2 sIx (varO 6) (un1 sNeg (konst (.int 2)))) (bin2 sIx (varO 6) (un1 sNeg (konst (.int 1))))) (varO 5))])))))
 (seqS (asgS 7 (keepS (bin2 sAdd (tupO (seqP [keepP (varO 5)])) (varO 2))))
 (retS (keepS (tupO (seqP [keepP (varO 6), keepP (slO (varO 7) noPart (aPart (un1 sNeg (konst (.int 1))))), keepP (ifV (tstV (bin2 sIs (varO 3) (konst .non))) (konst .non) (bin2 sAdd (bin2 sSub (varO 3) (varO 4)) (bin2 sIx (varO 7) (un1 sNeg (konst (.int 1))))))]))))))
def P.f_aged : F := defF 6 8 [0, 1, 2, 3, 4, 5] P.b_aged
def P.b_led_to : Loc → Rs Fl := seqS (unpS (.tp [.nm 5, .nm 6, .nm 7]) (callF P.f_aged (seqO [varO 0, bin2 sIx (varO 1) (konst (.int 2)), bin2 sIx (varO 1) (konst (.int 3)), bin2 sIx (varO 1) (konst (.int 4)), varO 2, varO 3])))
 (seqS (parS [8, 9] (seqV [keepS (bin2 sSub (bin2 sAdd (bin2 sIx (varO 1) (konst (.int 0))) (varO 4)) (bin2 sMul (bin2 sIx (varO 0) (konst (.int 1))) (callB sSum (seqO [varO 5])))), keepS (bin2 sAdd (bin2 sAdd (callB sSum (seqO [bin2 sIx (varO 1) (konst (.int 2))])) (callB sSum (seqO [bin2 sIx (varO 1) (konst (.int 3))]))) (varO 2))]))
 (seqS (ifS (tstV (bin2 (sCmpI fun i j => decide (j < i)) (varO 8) (bin2 sIx (varO 0) (konst (.int 0))))) (retS (keepS (tupO (seqP [keepP (konst (.str "over")), keepP (varO 9)])))) (skip))
 (seqS (ifS (tstV (bin2 (sCmpI fun i j => decide (i < j)) (varO 8) (konst (.int 0)))) (retS (keepS (tupO (seqP [keepP (konst (.str "dry")), keepP (varO 9)])))) (skip))
 (seqS (asgS 10 (keepS (ifV (tstV (bin2 (sCmpI fun i j => decide (j < i)) (bin2 sIx (varO 0) (konst (.int 8))) (konst (.int 0)))) (bin2 sAdd (slO (bin2 sIx (varO 1) (konst (.int 1))) (aPart (konst (.int 1))) noPart) (tupO (seqP [keepP (bin2 sIx (varO 1) (konst (.int 0)))]))) (tupO (seqP [])))))
 (retS (keepS (tupO (seqP [keepP (tupO (seqP [keepP (varO 8), keepP (varO 10), keepP (varO 5), keepP (varO 6), keepP (varO 7)])), keepP (varO 9)]))))))))
def P.f_led_to : F := defF 5 11 [0, 1, 2, 3, 4] P.b_led_to
def P.b_after_in : Loc → Rs Fl := seqS (unpS (.tp [.nm 3, .nm 4]) (callF P.f_moves_of (seqO [varO 0, varO 1])))
 (retS (keepS (bin2 sIx (callF P.f_led_to (seqO [varO 0, varO 1, varO 3, varO 4, varO 2])) (konst (.int 0)))))
def P.f_after_in : F := defF 3 5 [0, 1, 2] P.b_after_in
def P.b_after : Loc → Rs Fl := seqS (exprS (callF P.f_need_state (seqO [varO 0, varO 1])))
 (seqS (ifS (notT (tstV (callF P.f_is_inflow (seqO [varO 2])))) (raiS "OutOfPlace" none (keepP (konst (.str "no inflow")))) (skip))
 (retS (keepS (callF P.f_after_in (seqO [varO 0, varO 1, varO 2])))))
def P.f_after : F := defF 3 3 [0, 1, 2] P.b_after
def P.b_is_state : Loc → Rs Fl := retS (keepS (callF P.f_is_state_of (seqO [callF P.f_need_well (seqO [varO 0]), varO 1])))
def P.f_is_state : F := defF 2 2 [0, 1] P.b_is_state
/-! ### wells and states -/
structure Well where
  top : Int
  drain : Int
  on : Int
  off : Int
  run : Int
  rest : Int
  starts : Int
  step : Int
  lag : Int
def Well.p (w : Well) : PV := .tup [.int w.top, .int w.drain, .int w.on, .int w.off, .int w.run, .int w.rest, .int w.starts, .int w.step, .int w.lag]
structure Well.Ok (w : Well) : Prop where
  a1 : 1 ≤ w.top
  a2 : w.top ≤ 200
  b1 : 1 ≤ w.drain
  b2 : w.drain ≤ 50
  c1 : 1 ≤ w.on
  c2 : w.on ≤ w.top
  d1 : 0 ≤ w.off
  d2 : w.off ≤ w.on - 1
  e1 : 1 ≤ w.run
  e2 : w.run ≤ 5
  f1 : 1 ≤ w.rest
  f2 : w.rest ≤ 5
  g1 : 1 ≤ w.starts
  g2 : w.starts ≤ 5
  h1 : 1 ≤ w.step
  h2 : w.step ≤ 20
  i1 : 0 ≤ w.lag
  i2 : w.lag ≤ 3
def opI : Option Int → PV
  | none => .non
  | some i => .int i
/-- a state: level, past levels, running, resting, ready -/
structure Sd where
  lv : Int
  past : List Int
  on : List Int
  off : List Int
  rd : Option Int
def Sd.p (s : Sd) : PV := .tup [.int s.lv, .tup (s.past.map .int), .tup (s.on.map .int), .tup (s.off.map .int), opI s.rd]
section
variable {w : Well} {s : Sd}
theorem w_isi : sIsi "tuple" (.v w.p) = some (.v (.bl true)) := rfl
theorem w_len : sLen [.v w.p] = some (.v (.int 9)) := rfl
theorem w_0 : sIx (.v w.p) (.v (.int 0)) = some (.v (.int w.top)) := rfl
theorem w_1 : sIx (.v w.p) (.v (.int 1)) = some (.v (.int w.drain)) := rfl
theorem w_2 : sIx (.v w.p) (.v (.int 2)) = some (.v (.int w.on)) := rfl
theorem w_3 : sIx (.v w.p) (.v (.int 3)) = some (.v (.int w.off)) := rfl
theorem w_4 : sIx (.v w.p) (.v (.int 4)) = some (.v (.int w.run)) := rfl
theorem w_5 : sIx (.v w.p) (.v (.int 5)) = some (.v (.int w.rest)) := rfl
theorem w_6 : sIx (.v w.p) (.v (.int 6)) = some (.v (.int w.starts)) := rfl
theorem w_7 : sIx (.v w.p) (.v (.int 7)) = some (.v (.int w.step)) := rfl
theorem w_8 : sIx (.v w.p) (.v (.int 8)) = some (.v (.int w.lag)) := rfl
theorem s_isi : sIsi "tuple" (.v s.p) = some (.v (.bl true)) := rfl
theorem s_len : sLen [.v s.p] = some (.v (.int 5)) := rfl
theorem s_0 : sIx (.v s.p) (.v (.int 0)) = some (.v (.int s.lv)) := rfl
theorem s_1 : sIx (.v s.p) (.v (.int 1)) = some (.v (.tup (s.past.map .int))) := rfl
theorem s_2 : sIx (.v s.p) (.v (.int 2)) = some (.v (.tup (s.on.map .int))) := rfl
theorem s_3 : sIx (.v s.p) (.v (.int 3)) = some (.v (.tup (s.off.map .int))) := rfl
theorem s_4 : sIx (.v s.p) (.v (.int 4)) = some (.v (opI s.rd)) := rfl
end

theorem is_whole_int {i lo hi : Int} : P.f_is_whole [.v (.int i), .v (.int lo), .v (.int hi)] = .ok (.v (.bl (decide (lo ≤ i) && decide (i ≤ hi)))) [.v (.int i), .v (.int lo), .v (.int hi)] := by
  refine defF_rt (ρ' := [some (.v (.int i)), some (.v (.int lo)), some (.v (.int hi))]) rfl rfl ?_ rfl
  unfold P.b_is_whole
  by_cases h : lo ≤ i <;> by_cases h2 : i ≤ hi <;> simp_arith [h, h2]
theorem wrong_part_ok {w : Well} (W : w.Ok) : P.f_wrong_part [.v w.p] = .ok (.v .non) [.v w.p] := by
  obtain ⟨a, b, c, d, e, f, g, h, i⟩ := w
  refine defF_rt (ρ' := [some (.v (Well.p ⟨a, b, c, d, e, f, g, h, i⟩)), some (.v (.int a)), some (.v (.int b)), some (.v (.int c)), some (.v (.int d)), some (.v (.int e)), some (.v (.int f)), some (.v (.int g)), some (.v (.int h)), some (.v (.int i))]) rfl rfl ?_ rfl
  unfold P.b_wrong_part
  obtain ⟨a1, a2, b1, b2, c1, c2, d1, d2, e1, e2, f1, f2, g1, g2, h1, h2, i1, i2⟩ := W
  dsimp only at a1 a2 b1 b2 c1 c2 d1 d2 e1 e2 f1 f2 g1 g2 h1 h2 i1 i2
  simp_arith [Well.p, is_whole_int, a1, a2, b1, b2, c1, c2, d1, d2, e1, e2, f1, f2, g1, g2, h1, h2, i1, i2]
theorem need_well_ok {w : Well} (W : w.Ok) : P.f_need_well [.v w.p] = .ok (.v w.p) [.v w.p] := by
  refine defF_rt (ρ := [some (.v w.p), none]) (ρ' := [some (.v w.p), some (.v .non)]) rfl rfl ?_ rfl
  unfold P.b_need_well
  simp_arith [w_isi, w_len, wrong_part_ok W]
theorem are_levels_ok {w : Well} {is : List Int} {n : Int} (hl : is.length ≤ 1000) (hn : (is.length : Int) = n) :
    P.f_are_levels [.v w.p, .v (.tup (is.map .int)), .v (.int n)] = .ok (.v (.bl (is.all fun i => decide (0 ≤ i) && decide (i ≤ w.top)))) [.v w.p, .v (.tup (is.map .int)), .v (.int n)] := by
  refine defF_rt (ρ := [some (.v w.p), some (.v (.tup (is.map .int))), some (.v (.int n)), none]) (ρ' := [some (.v w.p), some (.v (.tup (is.map .int))), some (.v (.int n)), none]) rfl rfl ?_ rfl
  unfold P.b_are_levels
  have hlc := lc_all (n := 4) (k := 3) (ci := walkV (keepP (varO 1))) (c := keepP (callF P.f_is_whole (seqO [varO 3, konst (.int 0), bin2 sIx (varO 0) (konst (.int 0))]))) (ρ := [some (.v w.p), some (.v (.tup (is.map .int))), some (.v (.int n)), none]) (inj := PV.int) (fun i => .bl (decide (0 ≤ i) && decide (i ≤ w.top))) is rfl rfl rfl (fun x _ => by simp_arith [w_0, is_whole_int]) (by omega)
  simp_arith [hlc, hn, k_allB]
theorem are_counts_ok {is : List Int} {n : Int} (hl : is.length ≤ 1000) (hn : (is.length : Int) = n) :
    P.f_are_counts [.v (.tup (is.map .int)), .v (.int n)] = .ok (.v (.bl (is.all fun i => decide (0 ≤ i) && decide (i ≤ 1000)))) [.v (.tup (is.map .int)), .v (.int n)] := by
  refine defF_rt (ρ := [some (.v (.tup (is.map .int))), some (.v (.int n)), none]) (ρ' := [some (.v (.tup (is.map .int))), some (.v (.int n)), none]) rfl rfl ?_ rfl
  unfold P.b_are_counts
  have hlc := lc_all (n := 3) (k := 2) (ci := walkV (keepP (varO 0))) (c := keepP (callF P.f_is_whole (seqO [varO 2, konst (.int 0), konst (.int 1000)]))) (ρ := [some (.v (.tup (is.map .int))), some (.v (.int n)), none]) (inj := PV.int) (fun i => .bl (decide (0 ≤ i) && decide (i ≤ 1000))) is rfl rfl rfl (fun x _ => by simp_arith [is_whole_int]) (by omega)
  simp_arith [hlc, hn, k_allB]
/-- a state of a well, of some number -/
structure Sd.Ok (w : Well) (s : Sd) : Prop where
  lv0 : 0 ≤ s.lv
  lv1 : s.lv ≤ w.top
  pl : (s.past.length : Int) = w.lag
  pa : ∀ x ∈ s.past, 0 ≤ x ∧ x ≤ w.top
  nl : (s.on.length : Int) = w.run
  na : ∀ x ∈ s.on, 0 ≤ x ∧ x ≤ 1000
  fl : (s.off.length : Int) = w.rest - 1
  fa : ∀ x ∈ s.off, 0 ≤ x ∧ x ≤ 1000
  rd : ∀ r, s.rd = some r → 0 ≤ r ∧ r ≤ 50 ∧ s.on.sum + s.off.sum + r ≤ 50
theorem number_of_some {s : Sd} {r : Int} (h : s.rd = some r) : P.f_number_of [.v s.p] = .ok (.v (.int (s.on.sum + s.off.sum + r))) [.v s.p] := by
  obtain ⟨lv, past, on, off, rd⟩ := s
  cases h
  refine defF_rt (ρ' := [some (.v (Sd.p ⟨lv, past, on, off, some r⟩))]) rfl rfl ?_ rfl
  unfold P.b_number_of
  simp_arith [Sd.p, opI]
theorem all_of {is : List Int} {a b : Int} (h : ∀ x ∈ is, a ≤ x ∧ x ≤ b) : (is.all fun i => decide (a ≤ i) && decide (i ≤ b)) = true := by
  rw [List.all_eq_true]
  intro x hx
  rw [Bool.and_eq_true, decide_eq_true_eq, decide_eq_true_eq]
  exact h x hx
theorem is_state_of_ok {w : Well} {s : Sd} (W : w.Ok) (S : s.Ok w) : P.f_is_state_of [.v w.p, .v s.p] = .ok (.v (.bl true)) [.v w.p, .v s.p] := by
  refine defF_rt (ρ' := [some (.v w.p), some (.v s.p)]) rfl rfl ?_ rfl
  obtain ⟨a1, a2, b1, b2, c1, c2, d1, d2, e1, e2, f1, f2, g1, g2, h1, h2, i1, i2⟩ := W
  obtain ⟨l0, l1, pl, pa, nl, na, fl, fa, rd⟩ := S
  have A1 := are_levels_ok (w := w) (is := s.past) (by omega) pl
  have A2 := are_counts_ok (is := s.on) (by omega) nl
  have A3 := are_counts_ok (is := s.off) (by omega) fl
  rw [all_of pa] at A1
  rw [all_of na] at A2
  rw [all_of fa] at A3
  unfold P.b_is_state_of
  cases hr : s.rd with
  | none => simp_arith [s_isi, s_len, s_0, s_1, s_2, s_3, s_4, w_0, w_4, w_5, w_8, is_whole_int, l0, l1, A1, A2, A3, hr, opI]
  | some r =>
    obtain ⟨r0, r1, r2⟩ := rd r hr
    simp_arith [s_isi, s_len, s_0, s_1, s_2, s_3, s_4, w_0, w_4, w_5, w_8, is_whole_int, l0, l1, A1, A2, A3, hr, opI, number_of_some hr, r0, r1, r2]
theorem is_state_ok {w : Well} {s : Sd} (W : w.Ok) (S : s.Ok w) : P.f_is_state [.v w.p, .v s.p] = .ok (.v (.bl true)) [.v w.p, .v s.p] := by
  refine defF_rt (ρ' := [some (.v w.p), some (.v s.p)]) rfl rfl ?_ rfl
  unfold P.b_is_state
  simp_arith [need_well_ok W, is_state_of_ok W S]
theorem need_state_ok {w : Well} {s : Sd} (W : w.Ok) (S : s.Ok w) : P.f_need_state [.v w.p, .v s.p] = .ok (.v .non) [.v w.p, .v s.p] := by
  refine defF_nx (ρ' := [some (.v w.p), some (.v s.p)]) rfl rfl ?_ rfl
  unfold P.b_need_state
  simp_arith [need_well_ok W, is_state_of_ok W S]
theorem is_inflow_ok {i : Int} (h : 0 ≤ i) (h2 : i ≤ 300) : P.f_is_inflow [.v (.int i)] = .ok (.v (.bl true)) [.v (.int i)] := by
  refine defF_rt (ρ' := [some (.v (.int i))]) rfl rfl ?_ rfl
  unfold P.b_is_inflow
  simp_arith [is_whole_int, h, h2]
/-! ### a beat -/
def Well.seen (w : Well) (lv : Int) (past : List Int) : Int := (if 0 < w.lag then past.headD 0 else lv) - (if 0 < w.lag then past.headD 0 else lv) % w.step
theorem seen_of_ok {w : Well} {lv : Int} {past : List Int} (W : w.Ok) (hp : (past.length : Int) = w.lag) : P.f_seen_of [.v w.p, .v (.int lv), .v (.tup (past.map .int))] = .ok (.v (.int (w.seen lv past))) [.v w.p, .v (.int lv), .v (.tup (past.map .int))] := by
  have hs := W.h1
  unfold Well.seen
  by_cases h : 0 < w.lag
  · cases past with
    | nil => rw [List.length_nil] at hp; omega
    | cons x xs =>
      refine defF_rt (ρ := [some (.v w.p), some (.v (.int lv)), some (.v (.tup ((x :: xs).map .int))), none]) (ρ' := [some (.v w.p), some (.v (.int lv)), some (.v (.tup ((x :: xs).map .int))), some (.v (.int x))]) rfl rfl ?_ rfl
      unfold P.b_seen_of
      simp_arith [w_8, w_7, h, List.headD_cons]
  · refine defF_rt (ρ := [some (.v w.p), some (.v (.int lv)), some (.v (.tup (past.map .int))), none]) (ρ' := [some (.v w.p), some (.v (.int lv)), some (.v (.tup (past.map .int))), some (.v (.int lv))]) rfl rfl ?_ rfl
    unfold P.b_seen_of
    simp_arith [w_8, w_7, h]
def Sd.started (w : Well) (s : Sd) : Int := if w.on ≤ w.seen s.lv s.past then (match s.rd with | none => w.starts | some r => min w.starts r) else 0
def Sd.stopped (w : Well) (s : Sd) : Int := if w.on ≤ w.seen s.lv s.past then 0 else if w.seen s.lv s.past ≤ w.off then s.on.getLastD 0 else 0
theorem at_m1 {α β : Type} {f : α → β} {d : α} {xs : List α} (h : 0 < xs.length) : atI (xs.map f) (-1) = some (f (xs.getLastD d)) := by
  rcases List.eq_nil_or_concat xs with rfl | ⟨ys, y, rfl⟩
  · cases h
  · rw [List.concat_eq_append, List.map_append, List.map_cons, List.map_nil, at_last]
    congr 2
    simp
theorem at_m2 {α β : Type} {f : α → β} {d : α} {xs : List α} (h : 1 < xs.length) : atI (xs.map f) (-2) = some (f (xs.dropLast.getLastD d)) := by
  rcases List.eq_nil_or_concat xs with rfl | ⟨ys, y, rfl⟩
  · cases h
  · rcases List.eq_nil_or_concat ys with rfl | ⟨zs, z, rfl⟩
    · simp at h
    · rw [show ((zs.concat z).concat y) = zs ++ [z, y] by simp, List.map_append, List.map_cons, List.map_cons, List.map_nil, at_last2]
      congr 2
      simp
theorem ix_m1 {is : List Int} (h : 0 < is.length) : sIx (.v (.tup (is.map .int))) (.v (.int (-1))) = some (.v (.int (is.getLastD 0))) := k_ix (at_m1 h)
theorem moves_of_ok {w : Well} {s : Sd} (W : w.Ok) (S : s.Ok w) : P.f_moves_of [.v w.p, .v s.p] = .ok (.v (.tup [.int (s.started w), .int (s.stopped w)])) [.v w.p, .v s.p] := by
  refine defF_rt (ρ := [some (.v w.p), some (.v s.p), none]) (ρ' := [some (.v w.p), some (.v s.p), some (.v (.int (w.seen s.lv s.past)))]) rfl rfl ?_ rfl
  have hn : 0 < s.on.length := by have := S.nl; have := W.e1; omega
  have A := seen_of_ok (lv := s.lv) W S.pl
  unfold P.b_moves_of Sd.started Sd.stopped
  by_cases h : w.on ≤ w.seen s.lv s.past
  · cases hr : s.rd with
    | none => simp_arith [s_0, s_1, s_2, s_4, w_2, w_3, w_6, A, h, hr, opI]
    | some r => simp_arith [s_0, s_1, s_2, s_4, w_2, w_3, w_6, A, h, hr, opI]
  · by_cases h2 : w.seen s.lv s.past ≤ w.off
    · simp_arith [s_0, s_1, s_2, s_4, w_2, w_3, w_6, A, h, h2, ix_m1]
    · simp_arith [s_0, s_1, s_2, s_4, w_2, w_3, w_6, A, h, h2]
/-- the counts of those that are on, behind a beat -/
def onAft (on : List Int) (st sp : Int) : List Int := (st :: on).dropLast.dropLast ++ [(st :: on).dropLast.getLastD 0 + (st :: on).getLastD 0 - sp]
def offAft (off : List Int) (sp : Int) : List Int := (sp :: off).dropLast
def rdAft (off : List Int) (st sp : Int) : Option Int → Option Int
  | none => none
  | some r => some (r - st + (sp :: off).getLastD 0)
theorem aged_ok {w : PV} {on off : List Int} {rd : Option Int} {st sp : Int} (hn : 0 < on.length) (h2 : on.length ≤ 1000) (h3 : off.length ≤ 1000) :
    P.f_aged [.v w, .v (.tup (on.map .int)), .v (.tup (off.map .int)), .v (opI rd), .v (.int st), .v (.int sp)] = .ok (.v (.tup [.tup ((onAft on st sp).map .int), .tup ((offAft off sp).map .int), opI (rdAft off st sp rd)])) [.v w, .v (.tup (on.map .int)), .v (.tup (off.map .int)), .v (opI rd), .v (.int st), .v (.int sp)] := by
  have a1 : sIx (.v (.tup (.int st :: on.map .int))) (.v (.int (-1))) = some (.v (.int ((st :: on).getLastD 0))) := k_ix (at_m1 (f := PV.int) (xs := st :: on) (by simp))
  have a2 : sIx (.v (.tup (.int st :: on.map .int))) (.v (.int (-2))) = some (.v (.int ((st :: on).dropLast.getLastD 0))) := k_ix (at_m2 (f := PV.int) (xs := st :: on) (by simp; omega))
  have a3 : sIx (.v (.tup (.int sp :: off.map .int))) (.v (.int (-1))) = some (.v (.int ((sp :: off).getLastD 0))) := k_ix (at_m1 (f := PV.int) (xs := sp :: off) (by simp))
  refine defF_rt (ρ := [some (.v w), some (.v (.tup (on.map .int))), some (.v (.tup (off.map .int))), some (.v (opI rd)), some (.v (.int st)), some (.v (.int sp)), none, none])
    (ρ' := [some (.v w), some (.v (.tup (on.map .int))), some (.v (.tup (off.map .int))), some (.v (opI rd)), some (.v (.int st)), some (.v (.int sp)), some (.v (.tup ((PV.int st :: on.map .int).dropLast.dropLast ++ [PV.int ((st :: on).dropLast.getLastD 0 + (st :: on).getLastD 0 - sp)]))), some (.v (.tup (.int sp :: off.map .int)))]) rfl rfl ?_ rfl
  have e1 : (onAft on st sp).map PV.int = (PV.int st :: on.map .int).dropLast.dropLast ++ [PV.int ((st :: on).dropLast.getLastD 0 + (st :: on).getLastD 0 - sp)] := by
    unfold onAft
    rw [List.map_append, List.map_dropLast, List.map_dropLast]; rfl
  have e2 : (offAft off sp).map PV.int = (PV.int sp :: off.map .int).dropLast := by
    unfold offAft
    rw [List.map_dropLast]; rfl
  unfold P.b_aged
  rw [e1, e2]
  cases rd <;> simp_arith [a1, a2, a3, opI, rdAft]
def Sd.busy (s : Sd) (st : Int) : Int := s.on.sum + s.off.sum + st
def Sd.lvAft (w : Well) (s : Sd) (st sp i : Int) : Int := s.lv + i - w.drain * (onAft s.on st sp).sum
def pastAft (past : List Int) (lv : Int) : List Int := (past ++ [lv]).tail
/-- the state behind a beat, whatever it comes to -/
def Sd.aft (w : Well) (s : Sd) (st sp i : Int) : Sd := ⟨s.lvAft w st sp i, pastAft s.past s.lv, onAft s.on st sp, offAft s.off sp, rdAft s.off st sp s.rd⟩
/-- .. as it is told -/
def Sd.led (w : Well) (s : Sd) (st sp i : Int) : PV := if w.top < s.lvAft w st sp i then .str "over" else if s.lvAft w st sp i < 0 then .str "dry" else (s.aft w st sp i).p
theorem onAft_length {on : List Int} {st sp : Int} (h : 0 < on.length) : (onAft on st sp).length = on.length := by
  unfold onAft; simp; omega
theorem offAft_length {off : List Int} {sp : Int} : (offAft off sp).length = off.length := by
  unfold offAft; simp
theorem pastAft_length {past : List Int} {lv : Int} : (pastAft past lv).length = past.length := by
  unfold pastAft; simp
theorem led_to_ok {w : Well} {s : Sd} {st sp i : Int} (W : w.Ok) (S : s.Ok w) :
    P.f_led_to [.v w.p, .v s.p, .v (.int st), .v (.int sp), .v (.int i)] = .ok (.v (.tup [s.led w st sp i, .int (s.busy st)])) [.v w.p, .v s.p, .v (.int st), .v (.int sp), .v (.int i)] := by
  obtain ⟨a1, a2, b1, b2, c1, c2, d1, d2, e1, e2, f1, f2, g1, g2, h1, h2, i1, i2⟩ := W
  obtain ⟨l0, l1, pl, pa, nl, na, fl, fa, rd⟩ := S
  have A := aged_ok (w := w.p) (on := s.on) (off := s.off) (rd := s.rd) (st := st) (sp := sp) (by omega) (by omega) (by omega)
  have hpast : (if 0 < w.lag then PV.tup ((List.map PV.int s.past).tail ++ [PV.int s.lv]) else PV.tup []) = PV.tup ((pastAft s.past s.lv).map .int) := by
    unfold pastAft
    by_cases h : 0 < w.lag
    · rw [if_pos h]
      cases hs : s.past with
      | nil => rw [hs, List.length_nil] at pl; omega
      | cons x xs => simp
    · rw [if_neg h]
      cases hs : s.past with
      | nil => rfl
      | cons x xs => rw [hs, List.length_cons] at pl; omega
  have fin : ∀ {x10 : Option SV} {r : PV}, P.b_led_to [some (.v w.p), some (.v s.p), some (.v (.int st)), some (.v (.int sp)), some (.v (.int i)), none, none, none, none, none, none] = .ok (.rt (.v r)) [some (.v w.p), some (.v s.p), some (.v (.int st)), some (.v (.int sp)), some (.v (.int i)), some (.v (.tup ((onAft s.on st sp).map .int))), some (.v (.tup ((offAft s.off sp).map .int))), some (.v (opI (rdAft s.off st sp s.rd))), some (.v (.int (s.lvAft w st sp i))), some (.v (.int (s.busy st))), x10] →
      P.f_led_to [.v w.p, .v s.p, .v (.int st), .v (.int sp), .v (.int i)] = .ok (.v r) [.v w.p, .v s.p, .v (.int st), .v (.int sp), .v (.int i)] := fun h => defF_rt rfl rfl h rfl
  have lv : s.lv + i - w.drain * (onAft s.on st sp).sum = s.lvAft w st sp i := rfl
  have bs : s.on.sum + s.off.sum + st = s.busy st := rfl
  unfold Sd.led
  by_cases h : w.top < s.lvAft w st sp i
  · refine fin (x10 := none) ?_
    unfold P.b_led_to
    simp_arith [s_0, s_1, s_2, s_3, s_4, w_0, w_1, w_8, A, lv, bs, h]
  · by_cases h2 : s.lvAft w st sp i < 0
    · refine fin (x10 := none) ?_
      unfold P.b_led_to
      simp_arith [s_0, s_1, s_2, s_3, s_4, w_0, w_1, w_8, A, lv, bs, h, h2]
    · refine fin (x10 := some (.v (.tup ((pastAft s.past s.lv).map .int)))) ?_
      unfold P.b_led_to
      rw [if_neg h, if_neg h2, ← hpast]
      by_cases h3 : 0 < w.lag
      · rw [if_pos h3] at hpast ⊢
        simp_arith [s_0, s_1, s_2, s_3, s_4, w_0, w_1, w_8, A, lv, bs, h, h2, h3]
        rw [hpast]; rfl
      · rw [if_neg h3] at hpast ⊢
        simp_arith [s_0, s_1, s_2, s_3, s_4, w_0, w_1, w_8, A, lv, bs, h, h2, h3]
        rw [hpast]; rfl
/-- what a beat comes to -/
def Sd.beat (w : Well) (s : Sd) (i : Int) : PV := s.led w (s.started w) (s.stopped w) i
theorem after_in_ok {w : Well} {s : Sd} {i : Int} (W : w.Ok) (S : s.Ok w) : P.f_after_in [.v w.p, .v s.p, .v (.int i)] = .ok (.v (s.beat w i)) [.v w.p, .v s.p, .v (.int i)] := by
  refine defF_rt (ρ := [some (.v w.p), some (.v s.p), some (.v (.int i)), none, none]) (ρ' := [some (.v w.p), some (.v s.p), some (.v (.int i)), some (.v (.int (s.started w))), some (.v (.int (s.stopped w)))]) rfl rfl ?_ rfl
  unfold P.b_after_in
  simp_arith [moves_of_ok W S, led_to_ok W S, Sd.beat]
theorem after_ok {w : Well} {s : Sd} {i : Int} (W : w.Ok) (S : s.Ok w) (h : 0 ≤ i) (h2 : i ≤ 300) : P.f_after [.v w.p, .v s.p, .v (.int i)] = .ok (.v (s.beat w i)) [.v w.p, .v s.p, .v (.int i)] := by
  refine defF_rt (ρ' := [some (.v w.p), some (.v s.p), some (.v (.int i))]) rfl rfl ?_ rfl
  unfold P.b_after
  simp_arith [need_state_ok W S, is_inflow_ok h h2, after_in_ok W S]
end Lt
set_option maxHeartbeats 400000
/-! LtBeat: plain facts of beats. -/
namespace Lt
open PySem PySem.Spec L2
open PyProof.Rows hiding St
theorem last_mem {xs : List Int} (h : 0 < xs.length) : xs.getLastD 0 ∈ xs := by
  rcases List.eq_nil_or_concat xs with rfl | ⟨ys, y, rfl⟩
  · cases h
  · simp
theorem two_last {z : List Int} (h : 1 < z.length) : ∃ ys a b, z = ys ++ [a, b] ∧ z.dropLast.dropLast = ys ∧ z.dropLast.getLastD 0 = a ∧ z.getLastD 0 = b := by
  rcases List.eq_nil_or_concat z with rfl | ⟨ys, y, rfl⟩
  · cases h
  · rcases List.eq_nil_or_concat ys with rfl | ⟨zs, x, rfl⟩
    · simp at h
    · exact ⟨zs, x, y, by simp, by simp, by simp, by simp⟩
theorem onAft_sum {on : List Int} {st sp : Int} (h : 0 < on.length) : (onAft on st sp).sum = st + on.sum - sp := by
  obtain ⟨ys, a, b, e, e1, e2, e3⟩ := two_last (z := st :: on) (by simp; omega)
  unfold onAft
  rw [e1, e2, e3]
  have : (st :: on).sum = (ys ++ [a, b]).sum := by rw [e]
  simp at this ⊢
  omega
theorem offAft_sum {off : List Int} {sp : Int} : (offAft off sp).sum = sp + off.sum - (sp :: off).getLastD 0 := by
  unfold offAft
  rcases List.eq_nil_or_concat (sp :: off) with h | ⟨ys, y, h⟩
  · cases h
  · have : (sp :: off).sum = (ys.concat y).sum := by rw [h]
    rw [h]
    simp at this ⊢
    omega
theorem onAft_nn {on : List Int} {st sp : Int} (h : 0 < on.length) (hn : ∀ x ∈ on, 0 ≤ x) (h1 : 0 ≤ st) (h2 : sp ≤ on.getLastD 0) : ∀ x ∈ onAft on st sp, 0 ≤ x := by
  obtain ⟨ys, a, b, e, e1, e2, e3⟩ := two_last (z := st :: on) (by simp; omega)
  have hz : ∀ x ∈ st :: on, 0 ≤ x := fun x hx => by
    rcases List.mem_cons.mp hx with rfl | hx
    · exact h1
    · exact hn x hx
  have hb : on.getLastD 0 = b := by
    rw [← e3]
    cases on with
    | nil => cases h
    | cons y ys => rfl
  unfold onAft
  rw [e1, e2, e3]
  intro x hx
  rcases List.mem_append.mp hx with hx | hx
  · exact hz x (by rw [e]; exact List.mem_append_left _ hx)
  · rw [List.mem_singleton.mp hx]
    have := hz a (by rw [e]; simp)
    omega
theorem offAft_nn {off : List Int} {sp : Int} (hn : ∀ x ∈ off, 0 ≤ x) (h1 : 0 ≤ sp) : ∀ x ∈ offAft off sp, 0 ≤ x := fun x hx => by
  rcases List.mem_cons.mp (List.dropLast_subset _ hx) with rfl | hx
  · exact h1
  · exact hn x hx
theorem lastD_nn {off : List Int} {sp : Int} (hn : ∀ x ∈ off, 0 ≤ x) (h1 : 0 ≤ sp) : 0 ≤ (sp :: off).getLastD 0 := by
  have := last_mem (xs := sp :: off) (by simp)
  rcases List.mem_cons.mp this with h | h
  · rw [h]; exact h1
  · exact hn _ h
theorem sum_nn {xs : List Int} (h : ∀ x ∈ xs, 0 ≤ x) : 0 ≤ xs.sum := by
  induction xs with
  | nil => exact Int.le_refl 0
  | cons x xs ih =>
    rw [List.sum_cons]
    have := h x List.mem_cons_self
    have := ih fun y hy => h y (List.mem_cons_of_mem _ hy)
    omega
theorem le_sum {xs : List Int} (h : ∀ x ∈ xs, 0 ≤ x) : ∀ x ∈ xs, x ≤ xs.sum := by
  induction xs with
  | nil => intro x hx; cases hx
  | cons y xs ih =>
    intro x hx
    rw [List.sum_cons]
    have h0 := h y List.mem_cons_self
    have hs := sum_nn fun y hy => h y (List.mem_cons_of_mem _ hy)
    rcases List.mem_cons.mp hx with rfl | hx
    · omega
    · have := ih (fun y hy => h y (List.mem_cons_of_mem _ hy)) x hx
      omega
/-- a state of so many pumps (none: without end), of which at most b are on or rest -/
structure Sd.Good (w : Well) (many : Option Int) (b : Int) (s : Sd) : Prop where
  lv0 : 0 ≤ s.lv
  lv1 : s.lv ≤ w.top
  pl : (s.past.length : Int) = w.lag
  pa : ∀ x ∈ s.past, 0 ≤ x ∧ x ≤ w.top
  nl : (s.on.length : Int) = w.run
  na : ∀ x ∈ s.on, 0 ≤ x
  fl : (s.off.length : Int) = w.rest - 1
  fa : ∀ x ∈ s.off, 0 ≤ x
  bd : s.on.sum + s.off.sum ≤ b
  rd : match many with
    | none => s.rd = none
    | some n => ∃ r, s.rd = some r ∧ 0 ≤ r ∧ s.on.sum + s.off.sum + r = n
theorem Sd.Good.ok {w : Well} {many : Option Int} {b : Int} {s : Sd} (h : s.Good w many b) (hb : b ≤ 1000) (hm : ∀ n, many = some n → n ≤ 50) : s.Ok w := by
  have s1 := sum_nn h.na
  have s2 := sum_nn h.fa
  have hbd := h.bd
  refine ⟨h.lv0, h.lv1, h.pl, h.pa, h.nl, fun x hx => ⟨h.na x hx, ?_⟩, h.fl, fun x hx => ⟨h.fa x hx, ?_⟩, fun r hr => ?_⟩
  · have := le_sum h.na x hx; omega
  · have := le_sum h.fa x hx; omega
  · have hrd := h.rd
    cases many with
    | none => rw [hrd] at hr; cases hr
    | some n =>
      obtain ⟨r', e, h1, h2⟩ := hrd
      rw [e] at hr; cases hr
      have := hm n rfl
      omega
theorem Sd.started_nn {w : Well} {many : Option Int} {b : Int} {s : Sd} (W : w.Ok) (h : s.Good w many b) : 0 ≤ s.started w ∧ s.started w ≤ 5 ∧ ∀ r, s.rd = some r → s.started w ≤ r := by
  have g1 := W.g1; have g2 := W.g2
  have hrd := h.rd
  unfold Sd.started
  split
  · cases many with
    | none =>
      rw [show s.rd = none from hrd]
      exact ⟨by show 0 ≤ w.starts; omega, g2, fun r hr => nomatch hr⟩
    | some n =>
      obtain ⟨r, e, h1, h2⟩ := hrd
      rw [e]
      show 0 ≤ min w.starts r ∧ min w.starts r ≤ 5 ∧ _
      refine ⟨by omega, by omega, fun q hq => ?_⟩
      cases hq
      show min w.starts r ≤ r
      omega
  · refine ⟨Int.le_refl 0, by omega, fun r hr => ?_⟩
    cases many with
    | none => rw [show s.rd = none from hrd] at hr; cases hr
    | some n =>
      obtain ⟨r', e, h1, h2⟩ := hrd
      rw [e] at hr; cases hr; exact h1
theorem Sd.stopped_nn {w : Well} {many : Option Int} {b : Int} {s : Sd} (W : w.Ok) (h : s.Good w many b) : 0 ≤ s.stopped w ∧ s.stopped w ≤ s.on.getLastD 0 := by
  have hl : 0 < s.on.length := by have := h.nl; have := W.e1; omega
  have := h.na _ (last_mem hl)
  unfold Sd.stopped
  split
  · exact ⟨Int.le_refl 0, this⟩
  · split
    · exact ⟨this, Int.le_refl _⟩
    · exact ⟨Int.le_refl 0, this⟩
/-- a beat keeps it, if it is neither over nor dry -/
theorem Sd.Good.aft {w : Well} {many : Option Int} {b st sp i : Int} {s : Sd} (W : w.Ok) (h : s.Good w many b) (h1 : 0 ≤ st) (h2 : st ≤ 5) (h3 : ∀ r, s.rd = some r → st ≤ r) (h4 : 0 ≤ sp) (h5 : sp ≤ s.on.getLastD 0)
    (ho : ¬ w.top < s.lvAft w st sp i) (hd : ¬ s.lvAft w st sp i < 0) : (s.aft w st sp i).Good w many (b + 5) := by
  have hl : 0 < s.on.length := by have := h.nl; have := W.e1; omega
  have s1 := onAft_sum (st := st) (sp := sp) hl
  have s2 := offAft_sum (off := s.off) (sp := sp)
  have n1 := lastD_nn h.fa h4
  have hb := h.bd
  refine ⟨by show 0 ≤ s.lvAft w st sp i; omega, by show s.lvAft w st sp i ≤ _; omega, ?_, ?_, ?_, onAft_nn hl h.na h1 h5, ?_, offAft_nn h.fa h4, ?_, ?_⟩
  · show ((pastAft s.past s.lv).length : Int) = _
    rw [pastAft_length]; exact h.pl
  · intro x hx
    have hx := List.mem_of_mem_tail (show x ∈ (s.past ++ [s.lv]).tail from hx)
    rcases List.mem_append.mp hx with hx | hx
    · exact h.pa x hx
    · rw [List.mem_singleton.mp hx]; exact ⟨h.lv0, h.lv1⟩
  · show ((onAft s.on st sp).length : Int) = _
    rw [onAft_length hl]; exact h.nl
  · show ((offAft s.off sp).length : Int) = _
    rw [offAft_length]; exact h.fl
  · show (onAft s.on st sp).sum + (offAft s.off sp).sum ≤ _
    omega
  · have hrd := h.rd
    cases many with
    | none => show rdAft s.off st sp s.rd = none; rw [show s.rd = none from hrd]; rfl
    | some n =>
      obtain ⟨r, e, h6, h7⟩ := hrd
      have := h3 r e
      refine ⟨r - st + (sp :: s.off).getLastD 0, ?_, by omega, ?_⟩
      · show rdAft s.off st sp s.rd = _; rw [e]; rfl
      · show (onAft s.on st sp).sum + (offAft s.off sp).sum + _ = n
        omega
/-- small enough to be shown -/
theorem Sd.Good.fine {w : Well} {many : Option Int} {b : Int} {s : Sd} (W : w.Ok) (h : s.Good w many b) (hb : b ≤ 1000) (hm : ∀ n, many = some n → n ≤ 1000) : Fine 1000 2 s.p := by
  have s1 := sum_nn h.na
  have s2 := sum_nn h.fa
  obtain ⟨lv0, lv1, pl, pa, nl, na, fl, fa, bd, rd⟩ := h
  have a2 := W.a2; have e2 := W.e2; have f2 := W.f2; have i2 := W.i2
  have hints : ∀ {is : List Int}, (∀ i ∈ is, 0 ≤ i ∧ i ≤ 1000) → is.length ≤ 5 → Fine 205 1 (.tup (is.map .int)) := fun h1 h2 => fine_tup (fines_ints (fun i hi => by have := h1 i hi; omega) (by omega))
  have hrd : Fine 40 1 (opI s.rd) := by
    cases many with
    | none => rw [show s.rd = none from rd]; exact fine_non
    | some n =>
      obtain ⟨r, e, h6, h7⟩ := rd
      have := hm n rfl
      rw [e]; exact fine_int (by omega) (Nat.le_refl _)
  refine fine_tup (k := 1) (fines_cons (n1 := 40) (n2 := 900) (fine_int (by omega) (Nat.le_refl _)) (fines_cons (n1 := 205) (n2 := 600) (hints (fun i hi => by have := pa i hi; omega) (by omega)) (fines_cons (n1 := 205) (n2 := 300) (hints (fun i hi => ⟨na i hi, ?_⟩) (by omega)) (fines_cons (n1 := 205) (n2 := 60) (hints (fun i hi => ⟨fa i hi, ?_⟩) (by omega)) (fines_cons (n1 := 40) (n2 := 0) hrd fines_nil (by omega)) (by omega)) (by omega)) (by omega)) (by omega))
  · have := le_sum na i hi; omega
  · have := le_sum fa i hi; omega
theorem Sd.beat_fine {w : Well} {many : Option Int} {b i : Int} {s : Sd} (W : w.Ok) (h : s.Good w many b) (hb : b ≤ 900) (hm : ∀ n, many = some n → n ≤ 1000) : Fine 1000 2 (s.beat w i) := by
  obtain ⟨h1, h2, h3⟩ := Sd.started_nn W h
  obtain ⟨h4, h5⟩ := Sd.stopped_nn W h
  unfold Sd.beat Sd.led
  split
  · exact fine_str (by decide +kernel) (by decide +kernel)
  · split
    · exact fine_str (by decide +kernel) (by decide +kernel)
    · rename_i ho hd
      exact (h.aft W h1 h2 h3 h4 h5 ho hd).fine W (by omega) hm
theorem Sd.beat_cases {w : Well} {many : Option Int} {b : Int} {s : Sd} (i : Int) (W : w.Ok) (h : s.Good w many b) : s.beat w i = .str "over" ∨ s.beat w i = .str "dry" ∨ ∃ s' : Sd, s.beat w i = s'.p ∧ s'.Good w many (b + 5) := by
  obtain ⟨h1, h2, h3⟩ := Sd.started_nn W h
  obtain ⟨h4, h5⟩ := Sd.stopped_nn W h
  unfold Sd.beat Sd.led
  split
  · exact .inl rfl
  · split
    · exact .inr (.inl rfl)
    · rename_i ho hd
      exact .inr (.inr ⟨_, rfl, h.aft W h1 h2 h3 h4 h5 ho hd⟩)
theorem Sd.Good.mono {w : Well} {many : Option Int} {b c : Int} {s : Sd} (h : s.Good w many b) (hb : b ≤ c) : s.Good w many c := ⟨h.lv0, h.lv1, h.pl, h.pa, h.nl, h.na, h.fl, h.fa, Int.le_trans h.bd hb, h.rd⟩
end Lt
set_option maxHeartbeats 1000000
/-! LtPit: drawn wells of the second family, begun states, shifted counts. -/
namespace Lt
open PySem PySem.Spec L2
open PyProof.Rows hiding St
local macro_rules
  | `(tactic| simp_arith [$as,*]) => `(tactic| simp (disch := first | assumption | omega | decide | (simp only [List.length_cons, List.length_nil, List.length_map, List.length_append, List.length_replicate, List.length_take, List.length_drop, List.length_dropLast, List.length_tail, List.length_range, List.length_set]; omega)) only [m_seq, m_if, m_or, m_and, m_not, m_tst, m_un, m_bin, m_konst, m_tm, m_sl, m_var, m_andV, m_orV, m_ifV, m_ret, m_retM, m_keepS, m_keepP, m_skip, m_cmp, m_callB, m_callF, m_seqO, m_seqO0, m_seqP, m_seqP0, m_seqV, m_seqV0, m_par2, m_par3, m_tup, m_lst, m_asg, m_unp, m_tgn, m_tgt, m_tgm, m_met, m_isT, m_tgs, m_tgs0, m_take0, m_take, m_take1t, m_take1s, m_tkv, m_tkl, m_tkr, m_tko, m_tkd, m_put, m_put0, m_put1t, m_put1v, m_put1l, m_put1r, m_expr, m_valT, m_noP, m_aP, m_slO, m_for, m_wR1, m_wR2, m_wV, m_app, m_setO, m_rec, m_fd, m_chn, m_get0, m_get, big_of, k_neg, k_add, k_addT, k_addL, m_sub, k_mul, k_mul', k_mulT, k_mod, k_div, k_int, k_min, k_max, k_eqI, k_neI', k_eqS, k_neS, k_lenT', k_lenL, k_lenK, k_tupL, k_tupT, k_tupK, k_lisL, k_lisT, k_lisK, k_sumT, ix_0, ix_1, ix_2, ix_3, ix_4, ix_5, ix_6, ix_7, ix_8, il_0, il_1, cut_m1, cut_m2, cut_1, cut_toI, cut_fromI, cut_abI, List.drop_one, k_slT, k_slL, k_slK, k_is_ii, k_is_bi, k_is_tt, k_is_st, k_is_si, k_is_ss, k_is_ti, k_is_ts, k_non_i, k_non_n, k_non_s, k_non_t, k_nn_i, k_nn_n, k_nn_s, k_nn_t, k_isnB, k_isB, k_itT, k_itL, List.getElem?_cons_zero, List.getElem?_cons_succ, List.set_cons_zero, List.set_cons_succ, List.length_cons, List.length_nil, List.length_map, List.map_cons, List.map_nil, List.replicate, List.cons_append, List.nil_append, Nat.reduceAdd, Nat.reduceSub, Nat.reduceLT, Nat.reduceLeDiff, Int.reduceNeg, Int.reduceAdd, Int.reduceSub, Int.reduceToNat, Int.toNat_natCast, if_true, if_false, if_pos, if_neg, eq_self, Bool.false_eq_true, Bool.not_true, Bool.not_false, Bool.true_and, Bool.and_true, Bool.false_and, Bool.and_false, Bool.true_or, Bool.or_true, Bool.and_self, Bool.or_self, Bool.false_or, Bool.or_false, decide_true, decide_false, and_self, and_true, true_and, and_false, false_and, not_true_eq_false, not_false_eq_true, $as,*])
def P.b_is_number : Loc → Rs Fl := retS (keepS (orV (tstV (bin2 sIs (varO 0) (konst .non))) (callF P.f_is_whole (seqO [varO 0, konst (.int 0), konst (.int 50)]))))
def P.f_is_number : F := defF 1 1 [0] P.b_is_number
def P.b_need_number : Loc → Rs Fl := ifS (notT (tstV (callF P.f_is_number (seqO [varO 0])))) (raiS "OutOfPlace" none (keepP (konst (.str "no number of pumps")))) (skip)
def P.f_need_number : F := defF 1 1 [0] P.b_need_number
def P.b_begun_with : Loc → Rs Fl := retS (keepS (tupO (seqP [keepP (varO 2), keepP (bin2 sMul (tupO (seqP [keepP (varO 2)])) (bin2 sIx (varO 0) (konst (.int 8)))), keepP (bin2 sMul (tupO (seqP [keepP (konst (.int 0))])) (bin2 sIx (varO 0) (konst (.int 4)))), keepP (bin2 sMul (tupO (seqP [keepP (konst (.int 0))])) (bin2 sSub (bin2 sIx (varO 0) (konst (.int 5))) (konst (.int 1)))), keepP (varO 1)])))
def P.f_begun_with : F := defF 3 3 [0, 1, 2] P.b_begun_with
def P.b_begun : Loc → Rs Fl := seqS (exprS (callF P.f_need_well (seqO [varO 0])))
 (seqS (exprS (callF P.f_need_number (seqO [varO 1])))
 (seqS (ifS (notT (tstV (callF P.f_is_whole (seqO [varO 2, konst (.int 0), bin2 sIx (varO 0) (konst (.int 0))])))) (raiS "OutOfPlace" none (keepP (konst (.str "no level")))) (skip))
 (retS (keepS (callF P.f_begun_with (seqO [varO 0, varO 1, varO 2]))))))
def P.f_begun : F := defF 3 3 [0, 1, 2] P.b_begun
def P.b__law_pit : Loc → Rs Fl := seqS (asgS 4 (keepS (bin2 sAdd (konst (.int 2)) (callF nextG (seqO [varO 0, bin2 sSub (varO 1) (konst (.int 1))])))))
 (seqS (asgS 5 (keepS (bin2 sAdd (konst (.int 1)) (callF nextG (seqO [varO 0, varO 4])))))
 (seqS (parS [6, 7] (seqV [keepS (bin2 sAdd (konst (.int 1)) (callF nextG (seqO [varO 0, callF ofG (seqO [varO 0, lstO (seqP [keepP (konst (.int 2)), keepP (konst (.int 4)), keepP (konst (.int 9))])])]))), keepS (callF nextG (seqO [varO 0, varO 5]))]))
 (seqS (asgS 8 (keepS (tupO (seqP [keepP (bin2 sAdd (konst (.int 1)) (callF nextG (seqO [varO 0, varO 2]))), keepP (bin2 sAdd (konst (.int 1)) (callF nextG (seqO [varO 0, varO 2]))), keepP (bin2 sAdd (konst (.int 1)) (callF nextG (seqO [varO 0, konst (.int 3)])))]))))
 (seqS (asgS 9 (keepS (bin2 sAdd (konst (.int 1)) (callF nextG (seqO [varO 0, callF ofG (seqO [varO 0, lstO (seqP [keepP (konst (.int 1)), keepP (konst (.int 1)), keepP (konst (.int 4))])])])))))
 (retS (keepS (bin2 sAdd (bin2 sAdd (tupO (seqP [keepP (varO 4), keepP (varO 6), keepP (varO 5), keepP (varO 7)])) (varO 8)) (tupO (seqP [keepP (varO 9), keepP (callF nextG (seqO [varO 0, bin2 sAdd (varO 3) (konst (.int 1))]))])))))))))
def P.f__law_pit : F := defF 4 10 [0, 1, 2, 3] P.b__law_pit
def P.b__law_first : Loc → Rs Fl := retS (keepS (tupO (seqP [keepP (varO 2), keepP (bin2 sMul (tupO (seqP [keepP (varO 2)])) (bin2 sIx (varO 0) (konst (.int 8)))), keepP (bin2 sMul (tupO (seqP [keepP (konst (.int 0))])) (bin2 sIx (varO 0) (konst (.int 4)))), keepP (bin2 sMul (tupO (seqP [keepP (konst (.int 0))])) (bin2 sSub (bin2 sIx (varO 0) (konst (.int 5))) (konst (.int 1)))), keepP (varO 1)])))
def P.f__law_first : F := defF 3 3 [0, 1, 2] P.b__law_first
def P.b__law_shifted : Loc → Rs Fl := seqS (asgS 5 (keepS (bin2 sAdd (lstO (seqP [keepP (varO 3)])) (callB sList (seqO [slO (varO 0) noPart (aPart (un1 sNeg (konst (.int 1))))])))))
 (seqS (setO 5 (keepP (bin2 sSub (bin2 sAdd (bin2 sIx (varO 5) (un1 sNeg (konst (.int 1)))) (bin2 sIx (varO 0) (un1 sNeg (konst (.int 1))))) (varO 4))) (un1 sNeg (konst (.int 1))))
 (seqS (asgS 6 (keepS (bin2 sAdd (lstO (seqP [keepP (varO 4)])) (callB sList (seqO [varO 1])))))
 (seqS (asgS 7 (keepS (ifV (tstV (bin2 sIs (varO 2) (konst .non))) (konst .non) (bin2 sAdd (bin2 sSub (varO 2) (varO 3)) (bin2 sIx (varO 6) (un1 sNeg (konst (.int 1))))))))
 (retS (keepS (tupO (seqP [keepP (callB sTuple (seqO [varO 5])), keepP (callB sTuple (seqO [slO (varO 6) noPart (aPart (un1 sNeg (konst (.int 1))))])), keepP (varO 7)])))))))
def P.f__law_shifted : F := defF 5 8 [0, 1, 2, 3, 4] P.b__law_shifted

structure Pit where
  w : Well
  d : Dr
noncomputable def Dr.pit (d : Dr) (top age late : Int) : Pit :=
  let up := 2 + d.num (top - 1)
  let d1 := d.nxt (top - 1)
  let on := 1 + d1.num up
  let d2 := d1.nxt up
  let o := d2.oneI [2, 4, 9]
  let d3 := d2.nxt 3
  let drain := 1 + d3.num o
  let d4 := d3.nxt o
  let off := d4.num on
  let d5 := d4.nxt on
  let run := 1 + d5.num age
  let d6 := d5.nxt age
  let rest := 1 + d6.num age
  let d7 := d6.nxt age
  let starts := 1 + d7.num 3
  let d8 := d7.nxt 3
  let p := d8.oneI [1, 1, 4]
  let d9 := d8.nxt 3
  let step := 1 + d9.num p
  let d10 := d9.nxt p
  let lag := d10.num (late + 1)
  ⟨⟨up, drain, on, off, run, rest, starts, step, lag⟩, d10.nxt (late + 1)⟩
theorem oneI3 {d : Dr} {a b c : Int} : d.oneI [a, b, c] = a ∨ d.oneI [a, b, c] = b ∨ d.oneI [a, b, c] = c := by
  have := Dr.oneI_mem (d := d) (is := [a, b, c]) (by simp)
  simpa using this
theorem one3 {d : Dr} {a b c : Int} : d.one [.int a, .int b, .int c] = .int (d.oneI [a, b, c]) := Dr.one_ints (is := [a, b, c]) (by simp)
theorem one4 {d : Dr} {a b c e : Int} : d.one [.int a, .int b, .int c, .int e] = .int (d.oneI [a, b, c, e]) := Dr.one_ints (is := [a, b, c, e]) (by simp)
theorem oneI4 {d : Dr} {a b c e : Int} : d.oneI [a, b, c, e] = a ∨ d.oneI [a, b, c, e] = b ∨ d.oneI [a, b, c, e] = c ∨ d.oneI [a, b, c, e] = e := by
  have := Dr.oneI_mem (d := d) (is := [a, b, c, e]) (by simp)
  simpa using this
theorem pit_ok {d : Dr} {top age late : Int} (h1 : 1 < top) (h2 : top ≤ 1000) (h3 : 0 < age) (h4 : age ≤ 1000) (h5 : 0 ≤ late) (h6 : late ≤ 1000) (hc : d.c + 100 < 2 ^ 59) :
    P.f__law_pit [d.sv, .v (.int top), .v (.int age), .v (.int late)] = .ok (.v (d.pit top age late).w.p) [(d.pit top age late).d.sv, .v (.int top), .v (.int age), .v (.int late)] := by
  have a1 := d.nn (top - 1); have a2 := d.lt (T := top - 1) (by omega)
  generalize ex1 : d.num (top - 1) = x1 at *
  generalize ed1 : d.nxt (top - 1) = d1 at *
  have c1 : d1.c = d.c + 1 := by rw [← ed1]; exact Dr.nxt_c
  have b1 := d1.nn (2 + x1); have b2 := d1.lt (T := 2 + x1) (by omega)
  generalize ex2 : d1.num (2 + x1) = x2 at *
  generalize ed2 : d1.nxt (2 + x1) = d2 at *
  have c2 : d2.c = d.c + 2 := by rw [← ed2, Dr.nxt_c]; omega
  have o1 := oneI3 (d := d2) (a := 2) (b := 4) (c := 9)
  generalize eo : d2.oneI [2, 4, 9] = o at *
  generalize ed3 : d2.nxt 3 = d3 at *
  have c3 : d3.c = d.c + 3 := by rw [← ed3, Dr.nxt_c]; omega
  generalize ex3 : d3.num o = x3 at *
  generalize ed4 : d3.nxt o = d4 at *
  have c4 : d4.c = d.c + 4 := by rw [← ed4, Dr.nxt_c]; omega
  generalize ex4 : d4.num (1 + x2) = x4 at *
  generalize ed5 : d4.nxt (1 + x2) = d5 at *
  have c5 : d5.c = d.c + 5 := by rw [← ed5, Dr.nxt_c]; omega
  generalize ex5 : d5.num age = x5 at *
  generalize ed6 : d5.nxt age = d6 at *
  have c6 : d6.c = d.c + 6 := by rw [← ed6, Dr.nxt_c]; omega
  generalize ex6 : d6.num age = x6 at *
  generalize ed7 : d6.nxt age = d7 at *
  have c7 : d7.c = d.c + 7 := by rw [← ed7, Dr.nxt_c]; omega
  generalize ex7 : d7.num 3 = x7 at *
  generalize ed8 : d7.nxt 3 = d8 at *
  have c8 : d8.c = d.c + 8 := by rw [← ed8, Dr.nxt_c]; omega
  have p1 := oneI3 (d := d8) (a := 1) (b := 1) (c := 4)
  generalize ep : d8.oneI [1, 1, 4] = p at *
  generalize ed9 : d8.nxt 3 = d9 at *
  have c9 : d9.c = d.c + 9 := by rw [← ed9, Dr.nxt_c]; omega
  generalize ex8 : d9.num p = x8 at *
  generalize ed10 : d9.nxt p = d10 at *
  have c10 : d10.c = d.c + 10 := by rw [← ed10, Dr.nxt_c]; omega
  generalize ex9 : d10.num (late + 1) = x9 at *
  generalize ed11 : d10.nxt (late + 1) = d11 at *
  have ew : d.pit top age late = ⟨⟨2 + x1, 1 + x3, 1 + x2, x4, 1 + x5, 1 + x6, 1 + x7, 1 + x8, x9⟩, d11⟩ := by
    simp only [Dr.pit, ex1, ed1, ex2, ed2, eo, ed3, ex3, ed4, ex4, ed5, ex5, ed6, ex6, ed7, ex7, ed8, ep, ed9, ex8, ed10, ex9, ed11]
  rw [ew]
  refine defF_rt (ρ := [some d.sv, some (.v (.int top)), some (.v (.int age)), some (.v (.int late)), none, none, none, none, none, none])
    (ρ' := [some d11.sv, some (.v (.int top)), some (.v (.int age)), some (.v (.int late)), some (.v (.int (2 + x1))), some (.v (.int (1 + x2))), some (.v (.int (1 + x3))), some (.v (.int x4)), some (.v (.tup [.int (1 + x5), .int (1 + x6), .int (1 + x7)])), some (.v (.int (1 + x8)))]) rfl rfl ?_ rfl
  unfold P.b__law_pit
  have S : ∀ e : Dr, e.sv = SV.r [("cells", .l (e.cs.map .int)), ("great", .l (e.gs.map .int)), ("spot", .v (.int e.k))] := fun _ => rfl
  simp_arith [m_tkm, Dr.next, Dr.of, ex1, ed1, ex2, ed2, one3, eo, ed3, ex3, ed4, ex4, ed5, ex5, ed6, ex6, ed7, ex7, ed8, ep, ed9, ex8, ed10, ex9, ed11, cast3, m_put1m, Well.p]
theorem pit_c {d : Dr} {top age late : Int} : (d.pit top age late).d.c = d.c + 11 := by
  simp only [Dr.pit, Dr.nxt_c]
theorem pit_w {d : Dr} {top age late : Int} (h1 : 1 < top) (h2 : top ≤ 199) (h3 : 0 < age) (h4 : age ≤ 5) (h5 : 0 ≤ late) (h6 : late ≤ 3) : (d.pit top age late).w.Ok := by
  have a1 := d.nn (top - 1); have a2 := d.lt (T := top - 1) (by omega)
  unfold Dr.pit
  dsimp only
  refine ⟨?_, ?_, ?_, ?_, ?_, ?_, ?_, ?_, ?_, ?_, ?_, ?_, ?_, ?_, ?_, ?_, ?_, ?_⟩ <;> dsimp only
  · omega
  · omega
  · have := ((d.nxt (top - 1)).nxt (2 + d.num (top - 1))).nxt 3 |>.nn (((d.nxt (top - 1)).nxt (2 + d.num (top - 1))).oneI [2, 4, 9]); omega
  · have o := oneI3 (d := (d.nxt (top - 1)).nxt (2 + d.num (top - 1))) (a := 2) (b := 4) (c := 9)
    have := (((d.nxt (top - 1)).nxt (2 + d.num (top - 1))).nxt 3).lt (T := ((d.nxt (top - 1)).nxt (2 + d.num (top - 1))).oneI [2, 4, 9]) (by omega)
    omega
  · have := (d.nxt (top - 1)).nn (2 + d.num (top - 1)); omega
  · have := (d.nxt (top - 1)).lt (T := 2 + d.num (top - 1)) (by omega); omega
  · exact Dr.nn _ _
  · have := (d.nxt (top - 1)).nn (2 + d.num (top - 1))
    refine Int.le_sub_one_of_lt (Dr.lt _ (by omega))
  · have := Dr.nn ((((((d.nxt (top - 1)).nxt (2 + d.num (top - 1))).nxt 3).nxt (((d.nxt (top - 1)).nxt (2 + d.num (top - 1))).oneI [2, 4, 9]))).nxt (1 + (d.nxt (top - 1)).num (2 + d.num (top - 1)))) age
    omega
  · have := Dr.lt ((((((d.nxt (top - 1)).nxt (2 + d.num (top - 1))).nxt 3).nxt (((d.nxt (top - 1)).nxt (2 + d.num (top - 1))).oneI [2, 4, 9]))).nxt (1 + (d.nxt (top - 1)).num (2 + d.num (top - 1)))) (T := age) h3
    omega
  · exact Int.le_add_of_nonneg_right (Dr.nn _ _)
  · exact Int.le_trans (Int.add_le_add_left (Int.le_of_lt_add_one (Int.lt_of_lt_of_le (Dr.lt _ h3) (show age ≤ 4 + 1 by omega))) 1) (by decide)
  · exact Int.le_add_of_nonneg_right (Dr.nn _ _)
  · exact Int.le_trans (Int.add_le_add_left (Int.le_of_lt_add_one (Int.lt_of_lt_of_le (Dr.lt _ (by decide)) (show (3 : Int) ≤ 4 + 1 by omega))) 1) (by decide)
  · exact Int.le_add_of_nonneg_right (Dr.nn _ _)
  · have := oneI3 (d := (((((((((d.nxt (top - 1)).nxt (2 + d.num (top - 1))).nxt 3).nxt (((d.nxt (top - 1)).nxt (2 + d.num (top - 1))).oneI [2, 4, 9]))).nxt (1 + (d.nxt (top - 1)).num (2 + d.num (top - 1)))).nxt age).nxt age).nxt 3)) (a := 1) (b := 1) (c := 4)
    refine Int.le_trans (Int.add_le_add_left (Int.le_of_lt_add_one (Int.lt_of_lt_of_le (Dr.lt _ ?_) (?_ : _ ≤ (18 : Int) + 1))) 1) (by decide) <;> omega
  · exact Dr.nn _ _
  · exact Int.le_of_lt_add_one (Int.lt_of_lt_of_le (Dr.lt _ (by omega)) (by omega))
/-! ### states that are begun -/
def Sd.first (w : Well) (many : Option Int) (lv : Int) : Sd := ⟨lv, List.replicate w.lag.toNat lv, List.replicate w.run.toNat 0, List.replicate (w.rest - 1).toNat 0, many⟩
theorem rep_map {n : Nat} {i : Int} : List.replicate n (PV.int i) = (List.replicate n i).map .int := by rw [List.map_replicate]
theorem begun_with_ok {w : Well} {many : Option Int} {lv : Int} (W : w.Ok) : P.f_begun_with [.v w.p, .v (opI many), .v (.int lv)] = .ok (.v (Sd.first w many lv).p) [.v w.p, .v (opI many), .v (.int lv)] := by
  obtain ⟨a1, a2, b1, b2, c1, c2, d1, d2, e1, e2, f1, f2, g1, g2, h1, h2, i1, i2⟩ := W
  refine defF_rt (ρ' := [some (.v w.p), some (.v (opI many)), some (.v (.int lv))]) rfl rfl ?_ rfl
  unfold P.b_begun_with
  simp_arith [w_8, w_4, w_5, Sd.p, Sd.first, rep_map]
theorem lfirst_ok {w : Well} {many : Option Int} {lv : Int} (W : w.Ok) : P.f__law_first [.v w.p, .v (opI many), .v (.int lv)] = .ok (.v (Sd.first w many lv).p) [.v w.p, .v (opI many), .v (.int lv)] := begun_with_ok W
theorem need_number_ok {many : Option Int} (h : ∀ n, many = some n → 0 ≤ n ∧ n ≤ 50) : P.f_need_number [.v (opI many)] = .ok (.v .non) [.v (opI many)] := by
  have e : P.f_is_number [.v (opI many)] = .ok (.v (.bl true)) [.v (opI many)] := by
    refine defF_rt (ρ' := [some (.v (opI many))]) rfl rfl ?_ rfl
    unfold P.b_is_number
    cases many with
    | none => simp_arith [opI]
    | some n =>
      obtain ⟨n1, n2⟩ := h n rfl
      simp_arith [opI, is_whole_int, n1, n2]
  refine defF_nx (ρ' := [some (.v (opI many))]) rfl rfl ?_ rfl
  unfold P.b_need_number
  simp_arith [e]
theorem begun_ok {w : Well} {many : Option Int} {lv : Int} (W : w.Ok) (h : ∀ n, many = some n → 0 ≤ n ∧ n ≤ 50) (h1 : 0 ≤ lv) (h2 : lv ≤ w.top) : P.f_begun [.v w.p, .v (opI many), .v (.int lv)] = .ok (.v (Sd.first w many lv).p) [.v w.p, .v (opI many), .v (.int lv)] := by
  refine defF_rt (ρ' := [some (.v w.p), some (.v (opI many)), some (.v (.int lv))]) rfl rfl ?_ rfl
  unfold P.b_begun
  simp_arith [need_well_ok W, need_number_ok h, is_whole_int, w_0, h1, h2, begun_with_ok W]
theorem sum_zeros {n : Nat} : (List.replicate n (0 : Int)).sum = 0 := by
  induction n with
  | zero => rfl
  | succ n ih => rw [List.replicate_succ, List.sum_cons, ih]; rfl
theorem Sd.first_good {w : Well} {many : Option Int} {lv : Int} (W : w.Ok) (h : ∀ n, many = some n → 0 ≤ n) (h1 : 0 ≤ lv) (h2 : lv ≤ w.top) : (Sd.first w many lv).Good w many 0 := by
  have e1 := W.e1; have f1 := W.f1; have i1 := W.i1
  unfold Sd.first
  refine ⟨h1, h2, ?_, ?_, ?_, ?_, ?_, ?_, ?_, ?_⟩ <;> dsimp only
  · rw [List.length_replicate]; omega
  · intro x hx; rw [(List.mem_replicate.mp hx).2]; exact ⟨h1, h2⟩
  · rw [List.length_replicate]; omega
  · intro x hx; rw [(List.mem_replicate.mp hx).2]; exact Int.le_refl 0
  · rw [List.length_replicate]; omega
  · intro x hx; rw [(List.mem_replicate.mp hx).2]; exact Int.le_refl 0
  · rw [sum_zeros, sum_zeros]; exact Int.le_refl 0
  · cases many with
    | none => rfl
    | some n => exact ⟨n, rfl, h n rfl, by rw [sum_zeros, sum_zeros]; omega⟩
/-! ### the law's own counts -/
theorem shifted_ok {on off : List Int} {rd : Option Int} {st sp : Int} (hn : 0 < on.length) (h2 : on.length ≤ 1000) (h3 : off.length ≤ 1000) :
    P.f__law_shifted [.v (.tup (on.map .int)), .v (.tup (off.map .int)), .v (opI rd), .v (.int st), .v (.int sp)] = .ok (.v (.tup [.tup ((onAft on st sp).map .int), .tup ((offAft off sp).map .int), opI (rdAft off st sp rd)])) [.v (.tup (on.map .int)), .v (.tup (off.map .int)), .v (opI rd), .v (.int st), .v (.int sp)] := by
  rcases List.eq_nil_or_concat on with rfl | ⟨ys, y, rfl⟩
  · cases hn
  rw [List.concat_eq_append] at *
  have a1 : sIx (.v (.tup ((ys ++ [y]).map .int))) (.v (.int (-1))) = some (.v (.int y)) := k_ix (by rw [List.map_append]; exact at_last)
  have a3 : sIx (.l (.int sp :: off.map .int)) (.v (.int (-1))) = some (.v (.int ((sp :: off).getLastD 0))) := k_ixL (at_m1 (f := PV.int) (xs := sp :: off) (by simp))
  have a2 : sIx (.l (.int st :: ys.map .int)) (.v (.int (-1))) = some (.v (.int ((st :: ys).getLastD 0))) := k_ixL (at_m1 (f := PV.int) (xs := st :: ys) (by simp))
  have dl : ((ys ++ [y]).map PV.int).dropLast = ys.map .int := by simp
  have a4 : ixN (ys.map PV.int).length.succ (-1) = some ys.length := by
    unfold ixN
    rw [if_neg (by decide), if_pos (by simp; omega), List.length_map]
    congr 1; simp; omega
  have a5 : ixN (ys.length + 1) (-1) = some ys.length := by rw [List.length_map] at a4; exact a4
  have e1 : (onAft (ys ++ [y]) st sp).map PV.int = (PV.int st :: ys.map .int).set ys.length (PV.int ((st :: ys).getLastD 0 + y - sp)) := by
    obtain ⟨zs, a, b, e, e1, e2, e3⟩ := two_last (z := st :: (ys ++ [y])) (by simp)
    unfold onAft
    rw [e1, e2, e3]
    have hh := List.append_inj' (s₁ := st :: ys) (t₁ := [y]) (s₂ := zs ++ [a]) (t₂ := [b]) (by simpa using e) rfl
    have h1 : st :: ys = zs ++ [a] := hh.1
    have h2 : y = b := by simpa using hh.2
    have h3 : ys.length = zs.length := by have := congrArg List.length h1; simpa using this
    rw [show (PV.int st :: ys.map .int) = (zs ++ [a]).map PV.int by rw [← h1]; rfl, show (st :: ys).getLastD 0 = a by rw [h1]; simp, h2, h3]
    simp
  have e2 : (offAft off sp).map PV.int = (PV.int sp :: off.map .int).dropLast := by
    unfold offAft
    rw [List.map_dropLast]; rfl
  rw [e1, e2]
  refine defF_rt (ρ := [some (.v (.tup ((ys ++ [y]).map .int))), some (.v (.tup (off.map .int))), some (.v (opI rd)), some (.v (.int st)), some (.v (.int sp)), none, none, none])
    (ρ' := [some (.v (.tup ((ys ++ [y]).map .int))), some (.v (.tup (off.map .int))), some (.v (opI rd)), some (.v (.int st)), some (.v (.int sp)), some (.l ((PV.int st :: ys.map .int).set ys.length (PV.int ((st :: ys).getLastD 0 + y - sp)))), some (.l (.int sp :: off.map .int)), some (.v (opI (rdAft off st sp rd)))]) rfl rfl ?_ rfl
  rw [List.length_append, List.length_singleton] at h2
  unfold P.b__law_shifted
  generalize hon : (ys ++ [y]).map PV.int = on' at *
  cases rd <;> simp_arith [a1, dl, a2, a3, a5, opI, rdAft]
end Lt
set_option maxHeartbeats 1000000
/-! LtMo: more of what is run -/
namespace Lt
open PySem PySem.Spec L2
open PyProof.Rows hiding St
local macro_rules
  | `(tactic| simp_arith [$as,*]) => `(tactic| simp (disch := first | assumption | omega | decide | (simp only [List.length_cons, List.length_nil, List.length_map, List.length_append, List.length_replicate, List.length_take, List.length_drop, List.length_dropLast, List.length_tail, List.length_range, List.length_set]; omega)) only [m_seq, m_if, m_or, m_and, m_not, m_tst, m_un, m_bin, m_konst, m_tm, m_sl, m_var, m_andV, m_orV, m_ifV, m_ret, m_retM, m_keepS, m_keepP, m_skip, m_cmp, m_callB, m_callF, m_seqO, m_seqO0, m_seqP, m_seqP0, m_seqV, m_seqV0, m_par2, m_par3, m_tup, m_lst, m_asg, m_unp, m_tgn, m_tgt, m_tgm, m_met, m_isT, m_tgs, m_tgs0, m_take0, m_take, m_take1t, m_take1s, m_tkv, m_tkl, m_tkr, m_tko, m_tkd, m_put, m_put0, m_put1t, m_put1v, m_put1l, m_put1r, m_expr, m_valT, m_noP, m_aP, m_slO, m_for, m_wR1, m_wR2, m_wV, m_app, m_setO, m_rec, m_fd, m_chn, m_get0, m_get, big_of, k_neg, k_add, k_addT, k_addL, m_sub, k_mul, k_mul', k_mulT, k_mod, k_div, k_int, k_min, k_max, k_eqI, k_neI', k_eqS, k_neS, k_lenT', k_lenL, k_lenK, k_tupL, k_tupT, k_tupK, k_lisL, k_lisT, k_lisK, k_sumT, ix_0, ix_1, ix_2, ix_3, ix_4, ix_5, ix_6, ix_7, ix_8, il_0, il_1, cut_m1, cut_m2, cut_1, cut_toI, cut_fromI, cut_abI, List.drop_one, k_slT, k_slL, k_slK, k_is_ii, k_is_bi, k_is_tt, k_is_st, k_is_si, k_is_ss, k_is_ti, k_is_ts, k_non_i, k_non_n, k_non_s, k_non_t, k_nn_i, k_nn_n, k_nn_s, k_nn_t, k_isnB, k_isB, k_itT, k_itL, List.getElem?_cons_zero, List.getElem?_cons_succ, List.set_cons_zero, List.set_cons_succ, List.length_cons, List.length_nil, List.length_map, List.map_cons, List.map_nil, List.replicate, List.cons_append, List.nil_append, Nat.reduceAdd, Nat.reduceSub, Nat.reduceLT, Nat.reduceLeDiff, Int.reduceNeg, Int.reduceAdd, Int.reduceSub, Int.reduceMul, Int.reduceEq, Int.reduceLE, Int.reduceLT, Int.cast_ofNat_Int, Int.natCast_zero, Int.natCast_one, Int.reduceToNat, Int.toNat_natCast, if_true, if_false, if_pos, if_neg, eq_self, Bool.false_eq_true, Bool.not_true, Bool.not_false, Bool.true_and, Bool.and_true, Bool.false_and, Bool.and_false, Bool.true_or, Bool.or_true, Bool.and_self, Bool.or_self, Bool.false_or, Bool.or_false, decide_true, decide_false, and_self, and_true, true_and, and_false, false_and, not_true_eq_false, not_false_eq_true, $as,*])
/-! ### comprehensions with any target -/
theorem lcL_tg {α : Type} {tg : Tg} {vs : List Nat} {ct : Loc → Rs Bool} {c : Loc → Rs PV} {ρ : Loc} {inj g : α → PV} {flt : α → Bool} (st : α → Loc) : ∀ (xs : List α) (acc : List PV),
    (∀ x ∈ xs, setTg tg (.v (inj x)) ρ = some (st x) ∧ wipeL (st x) vs = ρ ∧ ct (st x) = .ok (flt x) (st x) ∧ (flt x = true → c (st x) = .ok (g x) (st x))) → acc.length + xs.length ≤ 1000000 →
    lcL tg vs ct c (xs.map inj) ρ acc = .ok (acc ++ (xs.filter flt).map g) ρ
  | [], acc, _, _ => by rw [List.map_nil, List.filter_nil, List.map_nil, List.append_nil]; rfl
  | x :: xs, acc, h, hl => by
    rw [List.length_cons] at hl
    obtain ⟨h1, h2, h3, h4⟩ := h x List.mem_cons_self
    rw [List.map_cons]
    unfold lcL
    rw [h1]; dsimp only
    rw [h3]
    cases hf : flt x with
    | false =>
      dsimp only
      rw [h2, lcL_tg st xs acc (fun y hy => h y (List.mem_cons_of_mem _ hy)) (by omega), List.filter_cons_of_neg (by rw [hf]; exact Bool.false_ne_true)]
    | true =>
      dsimp only
      rw [h4 hf]; dsimp only
      rw [if_pos (by omega), h2, lcL_tg st xs (acc ++ [g x]) (fun y hy => h y (List.mem_cons_of_mem _ hy)) (by rw [List.length_append]; simp; omega), List.filter_cons_of_pos hf, List.map_cons, List.append_assoc]
      rfl
theorem lc_tg {α : Type} {n : Nat} {tg : Tg} {vs : List Nat} {ci : Loc → Rs (List PV)} {ct : Loc → Rs Bool} {c : Loc → Rs PV} {ρ0 ρ : Loc} {inj : α → PV} (st : α → Loc) (g : α → PV) (flt : α → Bool) (xs : List α) (hn : ρ0.length = n) (hs : saved ρ vs = true) (hb : restL (wipeL ρ vs) ρ vs = ρ) (hi : ci ρ0 = .ok (xs.map inj) ρ)
    (h : ∀ x ∈ xs, setTg tg (.v (inj x)) (wipeL ρ vs) = some (st x) ∧ wipeL (st x) vs = wipeL ρ vs ∧ ct (st x) = .ok (flt x) (st x) ∧ (flt x = true → c (st x) = .ok (g x) (st x))) (hl : xs.length ≤ 1000000) :
    lcO n tg vs ci ct c ρ0 = .ok (.tm (.l ((xs.filter flt).map g))) ρ := by
  rw [lcO_at hn hi hs (lcL_tg st xs [] h (by simpa using hl)), List.nil_append, hb]
/-! ### i in a list of ints -/
theorem toDs_ints : ∀ ns : List Int, toDs (ns.map .int) = some (ns.map PyData.int)
  | [] => rfl
  | n :: ns => by rw [List.map_cons, toDs, toDs_ints ns]; rfl
theorem any_ints {i : Int} : ∀ {ns : List Int}, ((ns.map PyData.int).any fun z => PyData.eqv z (.int i)) = decide (i ∈ ns)
  | [] => rfl
  | n :: ns => by
    rw [List.map_cons, List.any_cons, any_ints (ns := ns)]
    rw [show PyData.eqv (.int n) (.int i) = decide (n = i) from rfl]
    by_cases h : n = i
    · subst h; simp
    · rw [decide_eq_false h, Bool.false_or]
      have : (i ∈ n :: ns) ↔ i ∈ ns := by
        rw [List.mem_cons]; exact ⟨fun z => z.resolve_left fun e => h e.symm, .inr⟩
      simp [this]
theorem shaped_ints {ns : List Int} (h : ∀ i ∈ ns, i.natAbs < 500000000000) (hn : ns.length ≤ 20000) : SeqAt.shaped (.list (ns.map PyData.int)) = true := by
  obtain ⟨d, e, f⟩ := fine_lst (n := ns.length * 41) (k := 0) (fines_ints h (Nat.le_refl _))
  have : toD (.lst (ns.map .int)) = some (.list (ns.map PyData.int)) := by
    unfold toD; rw [toDs_ints]
  rw [this] at e; cases e
  exact f.shaped (by omega)
theorem shaped_int {i : Int} (h : i.natAbs < 500000000000) : SeqAt.shaped (.int i) = true := by
  obtain ⟨d, e, f⟩ := fine_int (n := 40) (k := 0) h (Nat.le_refl _)
  cases e
  exact f.shaped (by omega)
theorem inB_L {i : Int} {ns : List Int} (hi : i.natAbs < 500000000000) (h : ∀ i ∈ ns, i.natAbs < 500000000000) (hn : ns.length ≤ 20000) : sInB (.v (.int i)) (.l (ns.map .int)) = some (decide (i ∈ ns)) := by
  unfold sInB
  have e1 : dOf (.v (.int i)) = some (.int i) := rfl
  have e2 : dOf (.l (ns.map .int)) = some (.list (ns.map PyData.int)) := by
    show toD (.lst (ns.map .int)) = _
    unfold toD; rw [toDs_ints]
  rw [e1, e2]; dsimp only
  rw [shaped_int hi, shaped_ints h hn, Bool.and_self, if_pos rfl, any_ints]
theorem k_inL {i : Int} {ns : List Int} (hi : i.natAbs < 500000000000) (h : ∀ i ∈ ns, i.natAbs < 500000000000) (hn : ns.length ≤ 20000) : sIn (.v (.int i)) (.l (ns.map .int)) = some (.v (.bl (decide (i ∈ ns)))) := by
  unfold sIn; rw [inB_L hi h hn]; rfl
theorem k_inK {i : Int} {ns : List Int} (hi : i.natAbs < 500000000000) (h : ∀ i ∈ ns, i.natAbs < 500000000000) (hn : ns.length ≤ 20000) : sIn (.v (.int i)) (.v (.lst (ns.map .int))) = some (.v (.bl (decide (i ∈ ns)))) := k_inL hi h hn
/-! ### counts -/
theorem allI_ints : ∀ ns : List Int, allI (ns.map .int) = some ns
  | [] => rfl
  | n :: ns => by rw [List.map_cons, allI, allI_ints ns]
theorem k_cnt {ns : List Int} {k : Int} : sCnt (.v (.tup (ns.map .int))) [.v (.int k)] = some (.v (.int (ns.count k : Nat))) := by
  unfold sCnt; dsimp only; rw [allI_ints]
theorem k_wE {c : Loc → Rs PV} {ρ ρ' : Loc} {xs : List PV} (h : c ρ = .ok (.tup xs) ρ') : walkE c ρ = .ok (enumP xs) ρ' := by
  unfold walkE bindR; rw [h]; rfl
theorem k_wEl {c : Loc → Rs PV} {ρ ρ' : Loc} {xs : List PV} (h : c ρ = .ok (.lst xs) ρ') : walkE c ρ = .ok (enumP xs) ρ' := by
  unfold walkE bindR; rw [h]; rfl
theorem enumP_ints {ns : List Int} : enumP (ns.map .int) = (ns.zipIdx).map fun p => PV.tmp [.int (p.2 : Nat), .int p.1] := by
  unfold enumP
  rw [List.zipIdx_map, List.map_map]
  rfl
theorem isEmpty_neL {xs : List PV} : sNe (.l xs) (.l []) = some (.v (.bl (!xs.isEmpty))) := by
  cases xs <;> rfl
theorem k_sorted {ns : List Int} : sSorted [.l (ns.map .int)] = some (.l ((sortI ns).map .int)) := by
  show (match allI (ns.map .int) with | some ns => some (SV.l ((sortI ns).map .int)) | none => none) = _
  rw [allI_ints]
abbrev natP (k : Nat) : PV := .int (k : Int)
theorem natP_map {ks : List Nat} : ks.map natP = (ks.map fun (k : Nat) => (k : Int)).map .int := by rw [List.map_map]; rfl
theorem ixNat {is : List Int} {k : Nat} (h : k < is.length) : sIx (.v (.tup (is.map .int))) (.v (.int (k : Nat))) = some (.v (.int (is.getD k 0))) := by
  refine ix_atI (by omega) ?_
  rw [Int.toNat_natCast, List.getD_eq_getElem?_getD, List.getElem?_eq_getElem h]; rfl
theorem mod_nat {a b n : Nat} : ((a : Int) + (b : Int)) % (n : Int) = (((a + b) % n : Nat) : Int) := by rw [Int.natCast_emod, Int.natCast_add]
end Lt
set_option maxHeartbeats 1000000
/-! LtCrew: crews -/
namespace Lt
open PySem PySem.Spec L2
open PyProof.Rows hiding St
local macro_rules
  | `(tactic| simp_arith [$as,*]) => `(tactic| simp (disch := first | assumption | omega | decide | (simp only [List.length_cons, List.length_nil, List.length_map, List.length_append, List.length_replicate, List.length_take, List.length_drop, List.length_dropLast, List.length_tail, List.length_range, List.length_set]; omega)) only [m_seq, m_if, m_or, m_and, m_not, m_tst, m_un, m_bin, m_konst, m_tm, m_sl, m_var, m_andV, m_orV, m_ifV, m_ret, m_retM, m_keepS, m_keepP, m_skip, m_cmp, m_callB, m_callF, m_seqO, m_seqO0, m_seqP, m_seqP0, m_seqV, m_seqV0, m_par2, m_par3, m_tup, m_lst, m_asg, m_unp, m_tgn, m_tgt, m_tgm, m_met, m_isT, m_tgs, m_tgs0, m_take0, m_take, m_take1t, m_take1s, m_tkv, m_tkl, m_tkr, m_tko, m_tkd, m_put, m_put0, m_put1t, m_put1v, m_put1l, m_put1r, m_expr, m_valT, m_noP, m_aP, m_slO, m_for, m_wR1, m_wR2, m_wV, m_app, m_setO, m_rec, m_fd, m_chn, m_get0, m_get, big_of, k_neg, k_add, k_addT, k_addL, m_sub, k_mul, k_mul', k_mulT, k_mod, k_div, k_int, k_min, k_max, k_eqI, k_neI', k_eqS, k_neS, k_lenT', k_lenL, k_lenK, k_tupL, k_tupT, k_tupK, k_lisL, k_lisT, k_lisK, k_sumT, ix_0, ix_1, ix_2, ix_3, ix_4, ix_5, ix_6, ix_7, ix_8, il_0, il_1, cut_m1, cut_m2, cut_1, cut_toI, cut_fromI, cut_abI, List.drop_one, k_slT, k_slL, k_slK, k_is_ii, k_is_bi, k_is_tt, k_is_st, k_is_si, k_is_ss, k_is_ti, k_is_ts, k_non_i, k_non_n, k_non_s, k_non_t, k_nn_i, k_nn_n, k_nn_s, k_nn_t, k_isnB, k_isB, k_itT, k_itL, List.getElem?_cons_zero, List.getElem?_cons_succ, List.set_cons_zero, List.set_cons_succ, List.length_cons, List.length_nil, List.length_map, List.map_cons, List.map_nil, List.replicate, List.cons_append, List.nil_append, Nat.reduceAdd, Nat.reduceSub, Nat.reduceLT, Nat.reduceLeDiff, Int.reduceNeg, Int.reduceAdd, Int.reduceSub, Int.reduceMul, Int.reduceEq, Int.reduceLE, Int.reduceLT, Int.cast_ofNat_Int, Int.natCast_zero, Int.natCast_one, Int.reduceToNat, Int.toNat_natCast, if_true, if_false, if_pos, if_neg, eq_self, Bool.false_eq_true, Bool.not_true, Bool.not_false, Bool.true_and, Bool.and_true, Bool.false_and, Bool.and_false, Bool.true_or, Bool.or_true, Bool.and_self, Bool.or_self, Bool.false_or, Bool.or_false, decide_true, decide_false, and_self, and_true, true_and, and_false, false_and, not_true_eq_false, not_false_eq_true, $as,*])
def P.b_need_rule : Loc → Rs Fl := ifS (orT (notT (tstV (un1 (sIsi "str") (varO 0)))) (tstV (bin2 sNotIn (varO 0) (tupO (seqP [keepP (konst (.str "first")), keepP (konst (.str "turns"))]))))) (raiS "OutOfPlace" none (keepP (konst (.str "no rule")))) (skip)
def P.f_need_rule : F := defF 1 1 [0] P.b_need_rule
def P.b_is_age : Loc → Rs Fl := retS (keepS (andV (tstV (callF P.f_is_whole (seqO [varO 1, bin2 sSub (konst (.int 0)) (bin2 sIx (varO 0) (konst (.int 5))), bin2 sIx (varO 0) (konst (.int 4))]))) (bin2 sNe (varO 1) (konst (.int 0)))))
def P.f_is_age : F := defF 2 2 [0, 1] P.b_is_age
def P.b_is_past_e1 : Loc → Rs PV := keepP (callF P.f_is_whole (seqO [varO 2, konst (.int 0), bin2 sIx (varO 0) (konst (.int 0))]))
def P.b_is_past : Loc → Rs Fl := retS (keepS (andV (tstV (un1 (sIsi "tuple") (varO 1))) (andV (tstV (bin2 sEq (callB sLen (seqO [varO 1])) (bin2 sIx (varO 0) (konst (.int 8))))) (callB sAll (seqO [lcO 3 (.nm 2) [2] (walkV (keepP (varO 1))) yesT P.b_is_past_e1])))))
def P.f_is_past : F := defF 2 3 [0, 1] P.b_is_past
def P.b_is_crew_of_e1 : Loc → Rs PV := keepP (callF P.f_is_age (seqO [varO 0, varO 3]))
def P.b_is_crew_of : Loc → Rs Fl := seqS (ifS (orT (notT (tstV (un1 (sIsi "tuple") (varO 2)))) (orT (tstV (bin2 sNe (callB sLen (seqO [varO 2])) (konst (.int 4)))) (notT (tstV (callF P.f_is_whole (seqO [bin2 sIx (varO 2) (konst (.int 0)), konst (.int 0), bin2 sIx (varO 0) (konst (.int 0))])))))) (retS (keepS (konst (.bl false)))) (skip))
 (seqS (ifS (orT (notT (tstV (callF P.f_is_past (seqO [varO 0, bin2 sIx (varO 2) (konst (.int 1))])))) (orT (notT (tstV (un1 (sIsi "tuple") (bin2 sIx (varO 2) (konst (.int 2)))))) (notT (tstV (chn (sCmpI fun i j => decide (i ≤ j)) (sCmpI fun i j => decide (i ≤ j)) (konst (.int 1)) (callB sLen (seqO [bin2 sIx (varO 2) (konst (.int 2))])) (konst (.int 6))))))) (retS (keepS (konst (.bl false)))) (skip))
 (seqS (ifS (notT (tstV (callB sAll (seqO [lcO 4 (.nm 3) [3] (walkV (keepP (bin2 sIx (varO 2) (konst (.int 2))))) yesT P.b_is_crew_of_e1])))) (retS (keepS (konst (.bl false)))) (skip))
 (retS (keepS (callF P.f_is_whole (seqO [bin2 sIx (varO 2) (konst (.int 3)), konst (.int 0), ifV (tstV (bin2 sEq (varO 1) (konst (.str "turns")))) (bin2 sSub (callB sLen (seqO [bin2 sIx (varO 2) (konst (.int 2))])) (konst (.int 1))) (konst (.int 0))]))))))
def P.f_is_crew_of : F := defF 3 4 [0, 1, 2] P.b_is_crew_of
def P.b_is_crew : Loc → Rs Fl := seqS (exprS (callF P.f_need_well (seqO [varO 0])))
 (seqS (exprS (callF P.f_need_rule (seqO [varO 1])))
 (retS (keepS (callF P.f_is_crew_of (seqO [varO 0, varO 1, varO 2])))))
def P.f_is_crew : F := defF 3 3 [0, 1, 2] P.b_is_crew
def P.b_need_crew : Loc → Rs Fl := seqS (exprS (callF P.f_need_well (seqO [varO 0])))
 (seqS (exprS (callF P.f_need_rule (seqO [varO 1])))
 (ifS (notT (tstV (callF P.f_is_crew_of (seqO [varO 0, varO 1, varO 2])))) (raiS "OutOfPlace" none (keepP (konst (.str "no crew")))) (skip)))
def P.f_need_crew : F := defF 3 3 [0, 1, 2] P.b_need_crew
def P.b_first_crew : Loc → Rs Fl := seqS (exprS (callF P.f_need_well (seqO [varO 0])))
 (seqS (ifS (orT (notT (tstV (callF P.f_is_whole (seqO [varO 1, konst (.int 1), konst (.int 6)])))) (notT (tstV (callF P.f_is_whole (seqO [varO 2, konst (.int 0), bin2 sIx (varO 0) (konst (.int 0))]))))) (raiS "OutOfPlace" none (keepP (konst (.str "no number of pumps, or no level")))) (skip))
 (retS (keepS (tupO (seqP [keepP (varO 2), keepP (bin2 sMul (tupO (seqP [keepP (varO 2)])) (bin2 sIx (varO 0) (konst (.int 8)))), keepP (bin2 sMul (tupO (seqP [keepP (bin2 sSub (konst (.int 0)) (bin2 sIx (varO 0) (konst (.int 5))))])) (varO 1)), keepP (konst (.int 0))])))))
def P.f_first_crew : F := defF 3 3 [0, 1, 2] P.b_first_crew
def P.b_state_of_e1 : Loc → Rs PV := keepP (metB isTupS sCnt (varO 4) (seqO [varO 7]))
def P.b_state_of_e2 : Loc → Rs PV := keepP (metB isTupS sCnt (varO 4) (seqO [bin2 sSub (konst (.int 0)) (varO 7)]))
def P.b_state_of : Loc → Rs Fl := seqS (exprS (callF P.f_need_well (seqO [varO 0])))
 (seqS (ifS (notT (tstV (callF P.f_is_crew_of (seqO [varO 0, konst (.str "turns"), varO 1])))) (raiS "OutOfPlace" none (keepP (konst (.str "no crew")))) (skip))
 (seqS (unpS (.tp [.nm 2, .nm 3, .nm 4, .nm 5]) (varO 1))
 (seqS (asgS 6 (keepS (callB sTuple (seqO [lcO 9 (.nm 7) [7] (walkR2 (seqO [konst (.int 1), bin2 sAdd (bin2 sIx (varO 0) (konst (.int 4))) (konst (.int 1))])) yesT P.b_state_of_e1]))))
 (seqS (asgS 8 (keepS (callB sTuple (seqO [lcO 9 (.nm 7) [7] (walkR2 (seqO [konst (.int 1), bin2 sIx (varO 0) (konst (.int 5))])) yesT P.b_state_of_e2]))))
 (retS (keepS (tupO (seqP [keepP (varO 2), keepP (varO 3), keepP (varO 6), keepP (varO 8), keepP (metB isTupS sCnt (varO 4) (seqO [bin2 sSub (konst (.int 0)) (bin2 sIx (varO 0) (konst (.int 5)))]))]))))))))
def P.f_state_of : F := defF 2 9 [0, 1] P.b_state_of
def P.b_beginners_e1 : Loc → Rs PV := keepP (bin2 sMod (callB sInt (seqO [bin2 sAdd (varO 6) (varO 8)])) (callB sLen (seqO [varO 5])))
def P.b_beginners_e2 : Loc → Rs PV := keepP (varO 9)
def P.b_beginners_t1 : Loc → Rs Bool := tstV (bin2 sEq (bin2 sIx (varO 5) (varO 9)) (bin2 sSub (konst (.int 0)) (bin2 sIx (varO 0) (konst (.int 5)))))
def P.b_beginners : Loc → Rs Fl := seqS (unpS (.tp [.nm 3, .nm 4, .nm 5, .nm 6]) (varO 2))
 (seqS (ifS (tstV (bin2 (sCmpI fun i j => decide (i < j)) (callF P.f_seen_of (seqO [varO 0, varO 3, varO 4])) (bin2 sIx (varO 0) (konst (.int 2))))) (retS (keepS (lstO (seqP [])))) (skip))
 (seqS (asgS 7 (keepS (ifV (tstV (bin2 sEq (varO 1) (konst (.str "turns")))) (lcO 10 (.nm 8) [8] (walkR1 (seqO [callB sLen (seqO [varO 5])])) yesT P.b_beginners_e1) (un1 (sRg1 true) (callB sLen (seqO [varO 5]))))))
 (retS (keepS (slO (lcO 10 (.nm 9) [9] (walkV (keepP (varO 7))) P.b_beginners_t1 P.b_beginners_e2) noPart (aPart (bin2 sIx (varO 0) (konst (.int 6)))))))))
def P.f_beginners : F := defF 3 10 [0, 1, 2] P.b_beginners
def P.b_ages_after_l1 : Loc → Rs Fl := ifS (tstV (bin2 sIn (varO 10) (varO 7))) (exprS (appO 8 (keepP (konst (.int 1))))) (ifS (tstV (bin2 (sCmpI fun i j => decide (j < i)) (varO 11) (konst (.int 0)))) (exprS (appO 8 (keepP (ifV (andT (tstV (varO 9)) (tstV (bin2 sEq (varO 11) (bin2 sIx (varO 0) (konst (.int 4)))))) (un1 sNeg (konst (.int 1))) (callB sMin (seqO [bin2 sAdd (varO 11) (konst (.int 1)), bin2 sIx (varO 0) (konst (.int 4))])))))) (exprS (appO 8 (keepP (callB sMax (seqO [bin2 sSub (varO 11) (konst (.int 1)), bin2 sSub (konst (.int 0)) (bin2 sIx (varO 0) (konst (.int 5)))]))))))
def P.b_ages_after : Loc → Rs Fl := seqS (unpS (.tp [.nm 3, .nm 4, .nm 5, .nm 6]) (varO 2))
 (seqS (parS [7, 8] (seqV [keepS (callF P.f_beginners (seqO [varO 0, varO 1, varO 2])), keepS (lstO (seqP []))]))
 (seqS (asgS 9 (keepS (bin2 (sCmpI fun i j => decide (i ≤ j)) (callF P.f_seen_of (seqO [varO 0, varO 3, varO 4])) (bin2 sIx (varO 0) (konst (.int 3))))))
 (seqS (forS (.tp [.nm 10, .nm 11]) (walkE (keepP (varO 5))) P.b_ages_after_l1)
 (retS (keepS (callB sTuple (seqO [varO 8])))))))
def P.f_ages_after : F := defF 3 12 [0, 1, 2] P.b_ages_after
def P.b_crew_in_e1 : Loc → Rs PV := keepP (konst (.int 1))
def P.b_crew_in_t1 : Loc → Rs Bool := tstV (bin2 (sCmpI fun i j => decide (j < i)) (varO 11) (konst (.int 0)))
def P.b_crew_in : Loc → Rs Fl := seqS (unpS (.tp [.nm 4, .nm 5, .nm 6, .nm 7]) (varO 2))
 (seqS (parS [8, 9] (seqV [keepS (callF P.f_ages_after (seqO [varO 0, varO 1, varO 2])), keepS (callF P.f_beginners (seqO [varO 0, varO 1, varO 2]))]))
 (seqS (asgS 10 (keepS (bin2 sSub (bin2 sAdd (varO 4) (varO 3)) (bin2 sMul (bin2 sIx (varO 0) (konst (.int 1))) (callB sLen (seqO [lcO 12 (.nm 11) [11] (walkV (keepP (varO 8))) P.b_crew_in_t1 P.b_crew_in_e1]))))))
 (seqS (ifS (tstV (bin2 (sCmpI fun i j => decide (j < i)) (varO 10) (bin2 sIx (varO 0) (konst (.int 0))))) (retS (keepS (konst (.str "over")))) (skip))
 (seqS (ifS (tstV (bin2 (sCmpI fun i j => decide (i < j)) (varO 10) (konst (.int 0)))) (retS (keepS (konst (.str "dry")))) (skip))
 (seqS (ifS (andT (tstV (bin2 sEq (varO 1) (konst (.str "turns")))) (tstV (bin2 sNe (varO 9) (lstO (seqP []))))) (asgS 7 (keepS (bin2 sMod (callB sInt (seqO [bin2 sAdd (bin2 sIx (varO 9) (un1 sNeg (konst (.int 1)))) (konst (.int 1))])) (callB sLen (seqO [varO 6]))))) (skip))
 (retS (keepS (tupO (seqP [keepP (varO 10), keepP (slO (bin2 sAdd (varO 5) (tupO (seqP [keepP (varO 4)]))) (aPart (konst (.int 1))) noPart), keepP (varO 8), keepP (varO 7)])))))))))
def P.f_crew_in : F := defF 4 12 [0, 1, 2, 3] P.b_crew_in
def P.b_need_inflow : Loc → Rs Fl := ifS (notT (tstV (callF P.f_is_whole (seqO [varO 0, konst (.int 0), konst (.int 300)])))) (raiS "OutOfPlace" none (keepP (konst (.str "no inflow")))) (skip)
def P.f_need_inflow : F := defF 1 1 [0] P.b_need_inflow
def P.b_crew_after : Loc → Rs Fl := seqS (exprS (callF P.f_need_crew (seqO [varO 0, varO 1, varO 2])))
 (seqS (exprS (callF P.f_need_inflow (seqO [varO 3])))
 (retS (keepS (callF P.f_crew_in (seqO [varO 0, varO 1, varO 2, varO 3])))))
def P.f_crew_after : F := defF 4 4 [0, 1, 2, 3] P.b_crew_after
def P.b_runners_e1 : Loc → Rs PV := keepP (varO 3)
def P.b_runners_t1 : Loc → Rs Bool := tstV (bin2 (sCmpI fun i j => decide (j < i)) (varO 4) (konst (.int 0)))
def P.b_runners : Loc → Rs Fl := retS (keepS (lcO 5 (.tp [.nm 3, .nm 4]) [3, 4] (walkE (keepP (callF P.f_ages_after (seqO [varO 0, varO 1, varO 2])))) P.b_runners_t1 P.b_runners_e1))
def P.f_runners : F := defF 3 5 [0, 1, 2] P.b_runners
def P.b_running : Loc → Rs Fl := seqS (exprS (callF P.f_need_crew (seqO [varO 0, varO 1, varO 2])))
 (seqS (exprS (callF P.f_need_inflow (seqO [varO 3])))
 (retS (keepS (callB sTuple (seqO [callF P.f_runners (seqO [varO 0, varO 1, varO 2])])))))
def P.f_running : F := defF 4 4 [0, 1, 2, 3] P.b_running
def P.b_starting : Loc → Rs Fl := seqS (exprS (callF P.f_need_crew (seqO [varO 0, varO 1, varO 2])))
 (seqS (exprS (callF P.f_need_inflow (seqO [varO 3])))
 (retS (keepS (callB sTuple (seqO [callB sSorted (seqO [callF P.f_beginners (seqO [varO 0, varO 1, varO 2])])])))))
def P.f_starting : F := defF 4 4 [0, 1, 2, 3] P.b_starting
/-! ### crews -/
structure Cw where
  lv : Int
  past : List Int
  ages : List Int
  mark : Nat
def Cw.p (c : Cw) : PV := .tup [.int c.lv, .tup (c.past.map .int), .tup (c.ages.map .int), .int (c.mark : Nat)]
def ruS (t : Bool) : Str := if t then "turns" else "first"
def ruP (t : Bool) : PV := .str (ruS t)
structure Cw.Ok (w : Well) (t : Bool) (c : Cw) : Prop where
  lv0 : 0 ≤ c.lv
  lv1 : c.lv ≤ w.top
  pl : (c.past.length : Int) = w.lag
  pa : ∀ x ∈ c.past, 0 ≤ x ∧ x ≤ w.top
  n0 : 1 ≤ c.ages.length
  n1 : c.ages.length ≤ 6
  aa : ∀ a ∈ c.ages, -w.rest ≤ a ∧ a ≤ w.run ∧ a ≠ 0
  ml : c.mark < c.ages.length
  mf : t = false → c.mark = 0
theorem Cw.Ok.turns {w : Well} {t : Bool} {c : Cw} (h : c.Ok w t) : c.Ok w true := ⟨h.lv0, h.lv1, h.pl, h.pa, h.n0, h.n1, h.aa, h.ml, fun z => nomatch z⟩
section
variable {w : Well} {c : Cw} {t : Bool}
theorem c_isi : sIsi "tuple" (.v c.p) = some (.v (.bl true)) := rfl
theorem c_len : sLen [.v c.p] = some (.v (.int 4)) := rfl
theorem c_0 : sIx (.v c.p) (.v (.int 0)) = some (.v (.int c.lv)) := rfl
theorem c_1 : sIx (.v c.p) (.v (.int 1)) = some (.v (.tup (c.past.map .int))) := rfl
theorem c_2 : sIx (.v c.p) (.v (.int 2)) = some (.v (.tup (c.ages.map .int))) := rfl
theorem c_3 : sIx (.v c.p) (.v (.int 3)) = some (.v (.int (c.mark : Nat))) := rfl
theorem c_tg {a b d e : Nat} {ρ : Loc} : setTg (.tp [.nm a, .nm b, .nm d, .nm e]) (.v c.p) ρ = setTgs [.nm a, .nm b, .nm d, .nm e] [.int c.lv, .tup (c.past.map .int), .tup (c.ages.map .int), .int (c.mark : Nat)] ρ := rfl
theorem ru_isi : sIsi "str" (.v (ruP t)) = some (.v (.bl true)) := by cases t <;> rfl
theorem ru_in : sNotIn (.v (ruP t)) (.v (.tup [.str "first", .str "turns"])) = some (.v (.bl false)) := by cases t <;> kernel_rfl
theorem ru_eq : sEq (.v (ruP t)) (.v (.str "turns")) = some (.v (.bl t)) := by cases t <;> rfl
theorem need_rule_ok : P.f_need_rule [.v (ruP t)] = .ok (.v .non) [.v (ruP t)] := by
  refine defF_nx (ρ' := [some (.v (ruP t))]) rfl rfl ?_ rfl
  unfold P.b_need_rule
  simp_arith [ru_isi, ru_in]
theorem is_age_ok {a : Int} : P.f_is_age [.v w.p, .v (.int a)] = .ok (.v (.bl ((decide (0 - w.rest ≤ a) && decide (a ≤ w.run)) && !decide (a = 0)))) [.v w.p, .v (.int a)] := by
  refine defF_rt (ρ' := [some (.v w.p), some (.v (.int a))]) rfl rfl ?_ rfl
  unfold P.b_is_age
  cases h : (decide (0 - w.rest ≤ a) && decide (a ≤ w.run)) <;> simp_arith [w_4, w_5, is_whole_int, h]
theorem is_past_ok {is : List Int} (hl : is.length ≤ 1000) : P.f_is_past [.v w.p, .v (.tup (is.map .int))] = .ok (.v (.bl (decide ((is.length : Int) = w.lag) && is.all fun i => decide (0 ≤ i) && decide (i ≤ w.top)))) [.v w.p, .v (.tup (is.map .int))] := by
  refine defF_rt (ρ' := [some (.v w.p), some (.v (.tup (is.map .int))), none]) rfl rfl ?_ rfl
  unfold P.b_is_past
  have hlc := lc_all (n := 3) (k := 2) (ci := walkV (keepP (varO 1))) (c := P.b_is_past_e1) (ρ := [some (.v w.p), some (.v (.tup (is.map .int))), none]) (inj := PV.int) (fun i => .bl (decide (0 ≤ i) && decide (i ≤ w.top))) is rfl rfl rfl (fun x _ => by unfold P.b_is_past_e1; simp_arith [w_0, is_whole_int]) (by omega)
  by_cases h : (is.length : Int) = w.lag
  · simp_arith [w_8, hlc, h, k_allB]
  · simp_arith [w_8, hlc, h, k_allB]
theorem is_crew_of_ok (W : w.Ok) (C : c.Ok w t) : P.f_is_crew_of [.v w.p, .v (ruP t), .v c.p] = .ok (.v (.bl true)) [.v w.p, .v (ruP t), .v c.p] := by
  refine defF_rt (ρ' := [some (.v w.p), some (.v (ruP t)), some (.v c.p), none]) rfl rfl ?_ rfl
  unfold P.b_is_crew_of
  have h1 := C.lv0; have h2 := C.lv1; have h3 := C.n0; have h4 := C.n1; have h5 := C.pl; have h6 := C.ml; have h7 := W.i2
  have hp : (c.past.all fun i => decide (0 ≤ i) && decide (i ≤ w.top)) = true := all_of C.pa
  have ha : (c.ages.all fun a => (decide (0 - w.rest ≤ a) && decide (a ≤ w.run)) && !decide (a = 0)) = true := by
    rw [List.all_eq_true]
    intro a ha
    obtain ⟨z1, z2, z3⟩ := C.aa a ha
    rw [decide_eq_true (show 0 - w.rest ≤ a by omega), decide_eq_true z2, decide_eq_false z3]; rfl
  have hlc := lc_all (n := 4) (k := 3) (ci := walkV (keepP (bin2 sIx (varO 2) (konst (.int 2))))) (c := P.b_is_crew_of_e1) (ρ := [some (.v w.p), some (.v (ruP t)), some (.v c.p), none]) (inj := PV.int) (fun a => .bl ((decide (0 - w.rest ≤ a) && decide (a ≤ w.run)) && !decide (a = 0))) c.ages rfl rfl rfl (fun x _ => by unfold P.b_is_crew_of_e1; simp_arith [is_age_ok]) (by omega)
  have z1 : decide (0 ≤ c.lv) = true := decide_eq_true h1
  have z2 : decide (c.lv ≤ w.top) = true := decide_eq_true h2
  have z3 : decide ((1 : Int) ≤ (c.ages.length : Nat)) = true := decide_eq_true (by omega)
  have z4 : decide (((c.ages.length : Nat) : Int) ≤ 6) = true := decide_eq_true (by omega)
  have z5 : decide ((0 : Int) ≤ (c.mark : Nat)) = true := decide_eq_true (by omega)
  cases t with
  | true =>
    have z6 : decide (((c.mark : Nat) : Int) ≤ (c.ages.length : Nat) - 1) = true := decide_eq_true (by omega)
    simp_arith [c_isi, c_len, c_0, c_1, c_2, c_3, w_0, is_whole_int, is_past_ok, hp, h5, hlc, k_allB, ha, ru_eq, z1, z2, z3, z4, z5, z6]
  | false =>
    have z6 : decide (((c.mark : Nat) : Int) ≤ 0) = true := decide_eq_true (by have := C.mf rfl; omega)
    simp_arith [c_isi, c_len, c_0, c_1, c_2, c_3, w_0, is_whole_int, is_past_ok, hp, h5, hlc, k_allB, ha, ru_eq, z1, z2, z3, z4, z5, z6]
theorem is_crew_ok (W : w.Ok) (C : c.Ok w t) : P.f_is_crew [.v w.p, .v (ruP t), .v c.p] = .ok (.v (.bl true)) [.v w.p, .v (ruP t), .v c.p] := by
  refine defF_rt (ρ' := [some (.v w.p), some (.v (ruP t)), some (.v c.p)]) rfl rfl ?_ rfl
  unfold P.b_is_crew
  simp_arith [need_well_ok W, need_rule_ok, is_crew_of_ok W C]
theorem need_crew_ok (W : w.Ok) (C : c.Ok w t) : P.f_need_crew [.v w.p, .v (ruP t), .v c.p] = .ok (.v .non) [.v w.p, .v (ruP t), .v c.p] := by
  refine defF_nx (ρ' := [some (.v w.p), some (.v (ruP t)), some (.v c.p)]) rfl rfl ?_ rfl
  unfold P.b_need_crew
  simp_arith [need_well_ok W, need_rule_ok, is_crew_of_ok W C]
theorem need_inflow_ok {i : Int} (h : 0 ≤ i) (h2 : i ≤ 300) : P.f_need_inflow [.v (.int i)] = .ok (.v .non) [.v (.int i)] := by
  refine defF_nx (ρ' := [some (.v (.int i))]) rfl rfl ?_ rfl
  unfold P.b_need_inflow
  simp_arith [is_whole_int, decide_eq_true h, decide_eq_true h2]
def Cw.first (w : Well) (n : Nat) (lv : Int) : Cw := ⟨lv, List.replicate w.lag.toNat lv, List.replicate n (-w.rest), 0⟩
theorem Cw.first_ok {n : Nat} {lv : Int} (W : w.Ok) (h1 : 1 ≤ n) (h2 : n ≤ 6) (h3 : 0 ≤ lv) (h4 : lv ≤ w.top) : (Cw.first w n lv).Ok w t := by
  have a1 := W.i1; have a2 := W.f1; have a3 := W.e1
  refine ⟨h3, h4, ?_, fun x hx => ?_, ?_, ?_, fun a ha => ?_, ?_, fun _ => rfl⟩
  · show ((List.replicate w.lag.toNat lv).length : Int) = _
    rw [List.length_replicate]; omega
  · have := List.eq_of_mem_replicate hx; omega
  · show 1 ≤ (List.replicate n (-w.rest)).length; rw [List.length_replicate]; exact h1
  · show (List.replicate n (-w.rest)).length ≤ 6; rw [List.length_replicate]; exact h2
  · have := List.eq_of_mem_replicate ha; omega
  · show 0 < (List.replicate n (-w.rest)).length; rw [List.length_replicate]; exact h1
theorem first_crew_ok {n : Nat} {lv : Int} (W : w.Ok) (h1 : 1 ≤ n) (h2 : n ≤ 6) (h3 : 0 ≤ lv) (h4 : lv ≤ w.top) : P.f_first_crew [.v w.p, .v (.int (n : Nat)), .v (.int lv)] = .ok (.v (Cw.first w n lv).p) [.v w.p, .v (.int (n : Nat)), .v (.int lv)] := by
  refine defF_rt (ρ' := [some (.v w.p), some (.v (.int (n : Nat))), some (.v (.int lv))]) rfl rfl ?_ rfl
  unfold P.b_first_crew
  have a1 := W.i1; have a2 := W.i2
  simp_arith [need_well_ok W, is_whole_int, w_0, w_5, w_8, decide_eq_true h3, decide_eq_true h4, decide_eq_true (show (1 : Int) ≤ (n : Nat) by omega), decide_eq_true (show ((n : Nat) : Int) ≤ 6 by omega)]
  rw [show (0 : Int) - w.rest = -w.rest by omega]
  unfold Cw.first Cw.p
  rw [List.map_replicate, List.map_replicate]
  rfl
end
def Cw.order (t : Bool) (c : Cw) : List Nat := if t then (List.range c.ages.length).map fun k => (c.mark + k) % c.ages.length else List.range c.ages.length
def Cw.begs (w : Well) (t : Bool) (c : Cw) : List Nat := if w.seen c.lv c.past < w.on then [] else ((c.order t).filter fun k => decide (c.ages.getD k 0 = -w.rest)).take w.starts.toNat
section
variable {w : Well} {c : Cw} {t : Bool}
theorem Cw.Ok.order_lt (C : c.Ok w t) : ∀ k ∈ c.order t, k < c.ages.length := fun k hk => by
  have := C.n0
  unfold Cw.order at hk
  split at hk
  · obtain ⟨j, _, rfl⟩ := List.mem_map.mp hk; exact Nat.mod_lt _ this
  · exact List.mem_range.mp hk
theorem Cw.order_len : (c.order t).length = c.ages.length := by unfold Cw.order; split <;> simp
theorem Cw.Ok.begs_lt (C : c.Ok w t) : ∀ k ∈ c.begs w t, k < c.ages.length := fun k hk => by
  unfold Cw.begs at hk
  split at hk
  · cases hk
  · exact C.order_lt k (List.mem_filter.mp (List.mem_of_mem_take hk)).1
theorem Cw.begs_len : (c.begs w t).length ≤ c.ages.length := by
  unfold Cw.begs
  split
  · exact Nat.zero_le _
  · rw [List.length_take]
    refine Nat.le_trans (Nat.min_le_right _ _) (Nat.le_trans (List.length_filter_le _ _) ?_)
    rw [Cw.order_len]; exact Nat.le_refl _
theorem beginners_ok (W : w.Ok) (C : c.Ok w t) : P.f_beginners [.v w.p, .v (ruP t), .v c.p] = .ok (.l ((c.begs w t).map natP)) [.v w.p, .v (ruP t), .v c.p] := by
  have h0 := C.n0; have h1 := C.n1; have h5 := C.pl; have g1 := W.g1
  by_cases hs : w.seen c.lv c.past < w.on
  · refine defF_rt (ρ' := [some (.v w.p), some (.v (ruP t)), some (.v c.p), some (.v (.int c.lv)), some (.v (.tup (c.past.map .int))), some (.v (.tup (c.ages.map .int))), some (.v (.int (c.mark : Nat))), none, none, none]) rfl rfl ?_ rfl
    unfold P.b_beginners
    unfold Cw.begs
    simp_arith [c_tg, seen_of_ok W h5, w_2, decide_eq_true hs, hs]
  · have hlc2 := lc_tg (n := 10) (tg := .nm 9) (vs := [9]) (ci := walkV (keepP (varO 7))) (ct := P.b_beginners_t1) (c := P.b_beginners_e2)
      (ρ0 := [some (.v w.p), some (.v (ruP t)), some (.v c.p), some (.v (.int c.lv)), some (.v (.tup (c.past.map .int))), some (.v (.tup (c.ages.map .int))), some (.v (.int (c.mark : Nat))), some (.l ((c.order t).map natP)), none, none])
      (ρ := [some (.v w.p), some (.v (ruP t)), some (.v c.p), some (.v (.int c.lv)), some (.v (.tup (c.past.map .int))), some (.v (.tup (c.ages.map .int))), some (.v (.int (c.mark : Nat))), some (.v (.lst ((c.order t).map natP))), none, none])
      (inj := natP) (fun k => [some (.v w.p), some (.v (ruP t)), some (.v c.p), some (.v (.int c.lv)), some (.v (.tup (c.past.map .int))), some (.v (.tup (c.ages.map .int))), some (.v (.int (c.mark : Nat))), some (.v (.lst ((c.order t).map natP))), none, some (.v (natP k))])
      natP (fun k => decide (c.ages.getD k 0 = -w.rest)) (c.order t) rfl rfl rfl rfl (fun k hk => ⟨rfl, rfl, by
        unfold P.b_beginners_t1
        have := C.order_lt k hk
        simp_arith [ixNat, w_5]
        rw [show (0 : Int) - w.rest = -w.rest by omega], fun _ => rfl⟩) (by rw [Cw.order_len]; omega)
    refine defF_rt (ρ' := [some (.v w.p), some (.v (ruP t)), some (.v c.p), some (.v (.int c.lv)), some (.v (.tup (c.past.map .int))), some (.v (.tup (c.ages.map .int))), some (.v (.int (c.mark : Nat))), some (.v (.lst ((c.order t).map natP))), none, none]) rfl rfl ?_ rfl
    unfold P.b_beginners
    have hb : c.begs w t = ((c.order t).filter fun k => decide (c.ages.getD k 0 = -w.rest)).take w.starts.toNat := by unfold Cw.begs; rw [if_neg hs]
    cases t with
    | true =>
      have hlc := lc_all (n := 10) (k := 8) (ci := walkR1 (seqO [callB sLen (seqO [varO 5])])) (c := P.b_beginners_e1) (ρ := [some (.v w.p), some (.v (ruP true)), some (.v c.p), some (.v (.int c.lv)), some (.v (.tup (c.past.map .int))), some (.v (.tup (c.ages.map .int))), some (.v (.int (c.mark : Nat))), none, none, none]) (inj := natP) (fun k => natP ((c.mark + k) % c.ages.length)) (List.range c.ages.length) rfl rfl (by
        simp_arith [range_map]) (fun k _ => by
        unfold P.b_beginners_e1
        simp_arith [mod_nat]) (by rw [List.length_range]; omega)
      have ho : c.order true = (List.range c.ages.length).map fun k => (c.mark + k) % c.ages.length := rfl
      have hm : (List.range c.ages.length).map (fun k => natP ((c.mark + k) % c.ages.length)) = (c.order true).map natP := by rw [ho, List.map_map]; rfl
      rw [hm] at hlc
      simp_arith [c_tg, seen_of_ok W h5, w_2, w_6, decide_eq_false hs, ru_eq, hlc, hlc2, hb, List.map_take]
    | false =>
      have ho : c.order false = List.range c.ages.length := rfl
      have hr : sRg1 true (.v (.int (c.ages.length : Nat))) = some (.l ((c.order false).map natP)) := by
        unfold sRg1
        have : rgOk 0 ((c.ages.length : Nat) : Int) = true := by unfold rgOk; rw [decide_eq_true_eq]; omega
        dsimp only
        rw [this, if_pos rfl, range_map, ho]
        rfl
      simp_arith [c_tg, seen_of_ok W h5, w_2, w_6, decide_eq_false hs, ru_eq, hr, hlc2, hb, List.map_take]
/-- the age behind a beat -/
def Cw.aged (w : Well) (t : Bool) (c : Cw) (x : Int × Nat) : Int :=
  if x.2 ∈ c.begs w t then 1 else if 0 < x.1 then (if w.seen c.lv c.past ≤ w.off ∧ x.1 = w.run then -1 else min (x.1 + 1) w.run) else max (x.1 - 1) (-w.rest)
def Cw.agesA (w : Well) (t : Bool) (c : Cw) : List Int := c.ages.zipIdx.map (c.aged w t)
theorem Cw.agesA_len : (c.agesA w t).length = c.ages.length := by unfold Cw.agesA; simp
theorem ages_after_ok (W : w.Ok) (C : c.Ok w t) : P.f_ages_after [.v w.p, .v (ruP t), .v c.p] = .ok (.v (.tup ((c.agesA w t).map .int))) [.v w.p, .v (ruP t), .v c.p] := by
  have h0 := C.n0; have h1 := C.n1; have h5 := C.pl
  have hbl := Cw.begs_len (w := w) (t := t) (c := c)
  have hlt := C.begs_lt
  obtain ⟨ρ', hl, acc, o1, o2, e1, e2, _⟩ := forL_all (tg := .tp [.nm 10, .nm 11]) (b := P.b_ages_after_l1) (inj := fun p : Int × Nat => PV.tmp [.int (p.2 : Nat), .int p.1])
    (fun rest ρ => ∃ (acc : List Int) (o1 o2 : Option SV), ρ = [some (.v w.p), some (.v (ruP t)), some (.v c.p), some (.v (.int c.lv)), some (.v (.tup (c.past.map .int))), some (.v (.tup (c.ages.map .int))), some (.v (.int (c.mark : Nat))), some (.l ((c.begs w t).map natP)), some (.l (acc.map .int)), some (.v (.bl (decide (w.seen c.lv c.past ≤ w.off)))), o1, o2] ∧ acc ++ rest.map (c.aged w t) = c.agesA w t ∧ ∀ x ∈ rest, x.2 < 1000)
    (fun x xs ρ ⟨acc, o1, o2, e1, e2, e3⟩ => by
      subst e1
      have hal : acc.length + xs.length + 1 = c.ages.length := by
        have := congrArg List.length e2
        rw [Cw.agesA_len, List.length_append, List.map_cons, List.length_cons, List.length_map] at this
        omega
      have hx2 : x.2 < 1000 := e3 x List.mem_cons_self
      refine ⟨_, [some (.v w.p), some (.v (ruP t)), some (.v c.p), some (.v (.int c.lv)), some (.v (.tup (c.past.map .int))), some (.v (.tup (c.ages.map .int))), some (.v (.int (c.mark : Nat))), some (.l ((c.begs w t).map natP)), some (.l ((acc ++ [c.aged w t x]).map .int)), some (.v (.bl (decide (w.seen c.lv c.past ≤ w.off)))), some (.v (.int (x.2 : Nat))), some (.v (.int x.1))], rfl, .inl ?_, acc ++ [c.aged w t x], _, _, rfl, by rw [List.append_assoc]; exact e2, fun y hy => e3 y (List.mem_cons_of_mem _ hy)⟩
      have hin : sIn (.v (.int (x.2 : Nat))) (.l ((c.begs w t).map natP)) = some (.v (.bl (decide (x.2 ∈ c.begs w t)))) := by
        rw [natP_map, k_inL (by omega) (fun i hi => by
          obtain ⟨k, hk, rfl⟩ := List.mem_map.mp hi
          have := hlt k hk; omega) (by rw [List.length_map]; omega)]
        congr 3
        by_cases z : x.2 ∈ c.begs w t
        · rw [decide_eq_true z, decide_eq_true (List.mem_map.mpr ⟨_, z, rfl⟩)]
        · rw [decide_eq_false z, decide_eq_false fun h => by
            obtain ⟨k, hk, e⟩ := List.mem_map.mp h
            exact z (by rw [show x.2 = k by omega]; exact hk)]
      unfold P.b_ages_after_l1
      have hac : (acc.map PV.int).length < 1000000 := by rw [List.length_map]; omega
      by_cases z1 : x.2 ∈ c.begs w t
      · have ev : c.aged w t x = 1 := by unfold Cw.aged; rw [if_pos z1]
        simp_arith [hin, decide_eq_true z1, ev, hac, List.map_append]
      · by_cases z2 : 0 < x.1
        · by_cases z3 : w.seen c.lv c.past ≤ w.off
          · by_cases z4 : x.1 = w.run
            · have ev : c.aged w t x = -1 := by unfold Cw.aged; rw [if_neg z1, if_pos z2, if_pos ⟨z3, z4⟩]
              simp_arith [hin, decide_eq_false z1, decide_eq_true z2, decide_eq_true z3, decide_eq_true z4, w_4, ev, hac, List.map_append]
            · have ev : c.aged w t x = min (x.1 + 1) w.run := by unfold Cw.aged; rw [if_neg z1, if_pos z2, if_neg fun z => z4 z.2]
              simp_arith [hin, decide_eq_false z1, decide_eq_true z2, decide_eq_true z3, decide_eq_false z4, w_4, ev, hac, List.map_append]
          · have ev : c.aged w t x = min (x.1 + 1) w.run := by unfold Cw.aged; rw [if_neg z1, if_pos z2, if_neg fun z => z3 z.1]
            simp_arith [hin, decide_eq_false z1, decide_eq_true z2, decide_eq_false z3, w_4, ev, hac, List.map_append]
        · have ev : c.aged w t x = max (x.1 - 1) (0 - w.rest) := by unfold Cw.aged; rw [if_neg z1, if_neg z2, show (0 : Int) - w.rest = -w.rest by omega]
          simp_arith [hin, decide_eq_false z1, decide_eq_false z2, w_5, ev, hac, List.map_append])
    c.ages.zipIdx _ ⟨[], none, none, rfl, rfl, fun x hx => by have := (List.mem_zipIdx hx).2.1; omega⟩
  rw [List.map_nil, List.append_nil] at e2
  subst e1 e2
  refine defF_rt (ρ' := [some (.v w.p), some (.v (ruP t)), some (.v c.p), some (.v (.int c.lv)), some (.v (.tup (c.past.map .int))), some (.v (.tup (c.ages.map .int))), some (.v (.int (c.mark : Nat))), some (.l ((c.begs w t).map natP)), some (.l ((c.agesA w t).map .int)), some (.v (.bl (decide (w.seen c.lv c.past ≤ w.off)))), o1, o2]) rfl rfl ?_ rfl
  unfold P.b_ages_after
  rw [List.map_nil] at hl
  have hw : walkE (keepP (varO 5)) [some (.v w.p), some (.v (ruP t)), some (.v c.p), some (.v (.int c.lv)), some (.v (.tup (c.past.map .int))), some (.v (.tup (c.ages.map .int))), some (.v (.int (c.mark : Nat))), some (.l ((c.begs w t).map natP)), some (.l []), some (.v (.bl (decide (w.seen c.lv c.past ≤ w.off)))), none, none] = .ok (c.ages.zipIdx.map fun p => PV.tmp [.int (p.2 : Nat), .int p.1]) [some (.v w.p), some (.v (ruP t)), some (.v c.p), some (.v (.int c.lv)), some (.v (.tup (c.past.map .int))), some (.v (.tup (c.ages.map .int))), some (.v (.int (c.mark : Nat))), some (.l ((c.begs w t).map natP)), some (.l []), some (.v (.bl (decide (w.seen c.lv c.past ≤ w.off)))), none, none] := by
    rw [← enumP_ints]; exact k_wE rfl
  simp_arith [c_tg, seen_of_ok W h5, beginners_ok W C, w_3, hw, hl]
/-! ### a beat of a crew -/
def Cw.runs (w : Well) (t : Bool) (c : Cw) : List Nat := ((c.agesA w t).zipIdx.filter fun p => decide (0 < p.1)).map fun p => p.2
def Cw.many (w : Well) (t : Bool) (c : Cw) : Nat := ((c.agesA w t).filter fun a => decide (0 < a)).length
def Cw.lvA (w : Well) (t : Bool) (c : Cw) (i : Int) : Int := c.lv + i - w.drain * (c.many w t : Nat)
def Cw.markA (w : Well) (t : Bool) (c : Cw) : Nat := if t = true ∧ c.begs w t ≠ [] then ((c.begs w t).getLastD 0 + 1) % c.ages.length else c.mark
def Cw.aft (w : Well) (t : Bool) (c : Cw) (i : Int) : Cw := ⟨c.lvA w t i, pastAft c.past c.lv, c.agesA w t, c.markA w t⟩
def Cw.beat (w : Well) (t : Bool) (c : Cw) (i : Int) : PV := if w.top < c.lvA w t i then .str "over" else if c.lvA w t i < 0 then .str "dry" else (c.aft w t i).p
theorem begs_neL : sNe (.l ((c.begs w t).map natP)) (.l []) = some (.v (.bl (decide (c.begs w t ≠ [])))) := by
  cases h : c.begs w t <;> rfl
theorem begs_last (h : c.begs w t ≠ []) : sIx (.l ((c.begs w t).map natP)) (.v (.int (-1))) = some (.v (natP ((c.begs w t).getLastD 0))) :=
  k_ixL (at_m1 (List.length_pos_iff.mpr h))
theorem crew_in_ok {i : Int} (W : w.Ok) (C : c.Ok w t) : P.f_crew_in [.v w.p, .v (ruP t), .v c.p, .v (.int i)] = .ok (.v (c.beat w t i)) [.v w.p, .v (ruP t), .v c.p, .v (.int i)] := by
  have h0 := C.n0; have h1 := C.n1; have h5 := C.pl; have b1 := W.b1; have b2 := W.b2; have i2 := W.i2
  have hpl : c.past.length ≤ 3 := by omega
  have hlc := lc_if (n := 12) (k := 11) (ci := walkV (keepP (varO 8))) (ct := P.b_crew_in_t1) (c := P.b_crew_in_e1)
    (ρ := [some (.v w.p), some (.v (ruP t)), some (.v c.p), some (.v (.int i)), some (.v (.int c.lv)), some (.v (.tup (c.past.map .int))), some (.v (.tup (c.ages.map .int))), some (.v (.int (c.mark : Nat))), some (.v (.tup ((c.agesA w t).map .int))), some (.l ((c.begs w t).map natP)), none, none])
    (inj := PV.int) (fun _ => .int 1) (fun a => decide (0 < a)) (c.agesA w t) rfl rfl rfl (fun a _ => ⟨rfl, fun _ => rfl⟩) (by rw [Cw.agesA_len]; omega)
  have hlen : (((c.agesA w t).filter fun a => decide (0 < a)).map fun _ => PV.int 1).length = c.many w t := by rw [List.length_map]; rfl
  have hpt : ((c.past.map PV.int) ++ [PV.int c.lv]).tail = (pastAft c.past c.lv).map .int := by
    unfold pastAft
    rw [List.map_tail, List.map_append]; rfl
  by_cases z1 : w.top < c.lvA w t i
  · refine defF_rt (ρ' := [some (.v w.p), some (.v (ruP t)), some (.v c.p), some (.v (.int i)), some (.v (.int c.lv)), some (.v (.tup (c.past.map .int))), some (.v (.tup (c.ages.map .int))), some (.v (.int (c.mark : Nat))), some (.v (.tup ((c.agesA w t).map .int))), some (.l ((c.begs w t).map natP)), some (.v (.int (c.lvA w t i))), none]) rfl rfl ?_ rfl
    unfold P.b_crew_in Cw.beat
    have z1' : w.top < c.lv + i - w.drain * (c.many w t : Nat) := z1
    simp_arith [c_tg, ages_after_ok W C, beginners_ok W C, hlc, hlen, w_0, w_1, decide_eq_true z1', z1]
    rfl
  · by_cases z2 : c.lvA w t i < 0
    · refine defF_rt (ρ' := [some (.v w.p), some (.v (ruP t)), some (.v c.p), some (.v (.int i)), some (.v (.int c.lv)), some (.v (.tup (c.past.map .int))), some (.v (.tup (c.ages.map .int))), some (.v (.int (c.mark : Nat))), some (.v (.tup ((c.agesA w t).map .int))), some (.l ((c.begs w t).map natP)), some (.v (.int (c.lvA w t i))), none]) rfl rfl ?_ rfl
      unfold P.b_crew_in Cw.beat
      have z1' : ¬ w.top < c.lv + i - w.drain * (c.many w t : Nat) := z1
      have z2' : c.lv + i - w.drain * (c.many w t : Nat) < 0 := z2
      simp_arith [c_tg, ages_after_ok W C, beginners_ok W C, hlc, hlen, w_0, w_1, decide_eq_false z1', decide_eq_true z2', z1, z2]
      rfl
    · have z1' : ¬ w.top < c.lv + i - w.drain * (c.many w t : Nat) := z1
      have z2' : ¬ c.lv + i - w.drain * (c.many w t : Nat) < 0 := z2
      refine defF_rt (ρ' := [some (.v w.p), some (.v (ruP t)), some (.v c.p), some (.v (.int i)), some (.v (.int c.lv)), some (.v (.tup (c.past.map .int))), some (.v (.tup (c.ages.map .int))), some (.v (.int (c.markA w t : Nat))), some (.v (.tup ((c.agesA w t).map .int))), some (.l ((c.begs w t).map natP)), some (.v (.int (c.lvA w t i))), none]) rfl rfl ?_ rfl
      unfold P.b_crew_in Cw.beat
      have hfin : PV.tup [.int (c.lv + i - w.drain * (c.many w t : Nat)), .tup ((pastAft c.past c.lv).map .int), .tup ((c.agesA w t).map .int), .int (c.markA w t : Nat)] = (c.aft w t i).p := rfl
      cases t with
      | true =>
        by_cases z3 : c.begs w true = []
        · have hm : c.markA w true = c.mark := by unfold Cw.markA; rw [if_neg fun z => z.2 z3]
          rw [hm] at hfin ⊢
          simp_arith [c_tg, ages_after_ok W C, beginners_ok W C, hlc, hlen, w_0, w_1, decide_eq_false z1', decide_eq_false z2', z1, z2, ru_eq, begs_neL, decide_eq_false (show ¬ c.begs w true ≠ [] from fun z => z z3), hpt, hfin]
          rfl
        · have hm : ((c.markA w true : Nat) : Int) = (((c.begs w true).getLastD 0 : Nat) + 1 : Int) % (c.ages.length : Nat) := by
            unfold Cw.markA; rw [if_pos ⟨rfl, z3⟩, Int.natCast_emod]; rfl
          simp_arith [c_tg, ages_after_ok W C, beginners_ok W C, hlc, hlen, w_0, w_1, decide_eq_false z1', decide_eq_false z2', z1, z2, ru_eq, begs_neL, begs_last z3, decide_eq_true (show c.begs w true ≠ [] from z3), hpt, ← hm, hfin]
          rfl
      | false =>
        have hm : c.markA w false = c.mark := by unfold Cw.markA; rw [if_neg fun z => nomatch z.1]
        rw [hm] at hfin ⊢
        simp_arith [c_tg, ages_after_ok W C, beginners_ok W C, hlc, hlen, w_0, w_1, decide_eq_false z1', decide_eq_false z2', z1, z2, ru_eq, hpt, hfin]
        rfl
end
end Lt
set_option maxHeartbeats 1000000
/-! LtCrewB: crews: calls -/
namespace Lt
open PySem PySem.Spec L2
open PyProof.Rows hiding St
local macro_rules
  | `(tactic| simp_arith [$as,*]) => `(tactic| simp (disch := first | assumption | omega | decide | (simp only [List.length_cons, List.length_nil, List.length_map, List.length_append, List.length_replicate, List.length_take, List.length_drop, List.length_dropLast, List.length_tail, List.length_range, List.length_set]; omega)) only [m_seq, m_if, m_or, m_and, m_not, m_tst, m_un, m_bin, m_konst, m_tm, m_sl, m_var, m_andV, m_orV, m_ifV, m_ret, m_retM, m_keepS, m_keepP, m_skip, m_cmp, m_callB, m_callF, m_seqO, m_seqO0, m_seqP, m_seqP0, m_seqV, m_seqV0, m_par2, m_par3, m_tup, m_lst, m_asg, m_unp, m_tgn, m_tgt, m_tgm, m_met, m_isT, m_tgs, m_tgs0, m_take0, m_take, m_take1t, m_take1s, m_tkv, m_tkl, m_tkr, m_tko, m_tkd, m_put, m_put0, m_put1t, m_put1v, m_put1l, m_put1r, m_expr, m_valT, m_noP, m_aP, m_slO, m_for, m_wR1, m_wR2, m_wV, m_app, m_setO, m_rec, m_fd, m_chn, m_get0, m_get, big_of, k_neg, k_add, k_addT, k_addL, m_sub, k_mul, k_mul', k_mulT, k_mod, k_div, k_int, k_min, k_max, k_eqI, k_neI', k_eqS, k_neS, k_lenT', k_lenL, k_lenK, k_tupL, k_tupT, k_tupK, k_lisL, k_lisT, k_lisK, k_sumT, ix_0, ix_1, ix_2, ix_3, ix_4, ix_5, ix_6, ix_7, ix_8, il_0, il_1, cut_m1, cut_m2, cut_1, cut_toI, cut_fromI, cut_abI, List.drop_one, k_slT, k_slL, k_slK, k_is_ii, k_is_bi, k_is_tt, k_is_st, k_is_si, k_is_ss, k_is_ti, k_is_ts, k_non_i, k_non_n, k_non_s, k_non_t, k_nn_i, k_nn_n, k_nn_s, k_nn_t, k_isnB, k_isB, k_itT, k_itL, List.getElem?_cons_zero, List.getElem?_cons_succ, List.set_cons_zero, List.set_cons_succ, List.length_cons, List.length_nil, List.length_map, List.map_cons, List.map_nil, List.replicate, List.cons_append, List.nil_append, Nat.reduceAdd, Nat.reduceSub, Nat.reduceLT, Nat.reduceLeDiff, Int.reduceNeg, Int.reduceAdd, Int.reduceSub, Int.reduceMul, Int.reduceEq, Int.reduceLE, Int.reduceLT, Int.cast_ofNat_Int, Int.natCast_zero, Int.natCast_one, Int.reduceToNat, Int.toNat_natCast, if_true, if_false, if_pos, if_neg, eq_self, Bool.false_eq_true, Bool.not_true, Bool.not_false, Bool.true_and, Bool.and_true, Bool.false_and, Bool.and_false, Bool.true_or, Bool.or_true, Bool.and_self, Bool.or_self, Bool.false_or, Bool.or_false, decide_true, decide_false, and_self, and_true, true_and, and_false, false_and, not_true_eq_false, not_false_eq_true, $as,*])
section
variable {w : Well} {c : Cw} {t : Bool}
theorem crew_after_ok {i : Int} (W : w.Ok) (C : c.Ok w t) (h : 0 ≤ i) (h2 : i ≤ 300) : P.f_crew_after [.v w.p, .v (ruP t), .v c.p, .v (.int i)] = .ok (.v (c.beat w t i)) [.v w.p, .v (ruP t), .v c.p, .v (.int i)] := by
  refine defF_rt (ρ' := [some (.v w.p), some (.v (ruP t)), some (.v c.p), some (.v (.int i))]) rfl rfl ?_ rfl
  unfold P.b_crew_after
  simp_arith [need_crew_ok W C, need_inflow_ok h h2, crew_in_ok W C]
theorem runners_ok (W : w.Ok) (C : c.Ok w t) : P.f_runners [.v w.p, .v (ruP t), .v c.p] = .ok (.l ((c.runs w t).map natP)) [.v w.p, .v (ruP t), .v c.p] := by
  have h1 := C.n1
  refine defF_rt (ρ' := [some (.v w.p), some (.v (ruP t)), some (.v c.p), none, none]) rfl rfl ?_ rfl
  unfold P.b_runners
  have hw : walkE (keepP (callF P.f_ages_after (seqO [varO 0, varO 1, varO 2]))) [some (.v w.p), some (.v (ruP t)), some (.v c.p), none, none] = .ok ((c.agesA w t).zipIdx.map fun p => PV.tmp [.int (p.2 : Nat), .int p.1]) [some (.v w.p), some (.v (ruP t)), some (.v c.p), none, none] := by
    rw [← enumP_ints]
    refine k_wE ?_
    simp_arith [ages_after_ok W C]
  have hlc := lc_tg (n := 5) (tg := .tp [.nm 3, .nm 4]) (vs := [3, 4]) (ct := P.b_runners_t1) (c := P.b_runners_e1) (ρ := [some (.v w.p), some (.v (ruP t)), some (.v c.p), none, none])
    (fun p : Int × Nat => [some (.v w.p), some (.v (ruP t)), some (.v c.p), some (.v (natP p.2)), some (.v (.int p.1))]) (fun p => natP p.2) (fun p => decide (0 < p.1)) (c.agesA w t).zipIdx rfl rfl rfl hw (fun p _ => ⟨rfl, rfl, rfl, fun _ => rfl⟩) (by rw [List.length_zipIdx, Cw.agesA_len]; omega)
  have e : (((c.agesA w t).zipIdx.filter fun p => decide (0 < p.1)).map fun p => natP p.2) = (c.runs w t).map natP := by unfold Cw.runs; rw [List.map_map]; rfl
  rw [e] at hlc
  simp_arith [hlc]
theorem running_ok {i : Int} (W : w.Ok) (C : c.Ok w t) (h : 0 ≤ i) (h2 : i ≤ 300) : P.f_running [.v w.p, .v (ruP t), .v c.p, .v (.int i)] = .ok (.v (.tup ((c.runs w t).map natP))) [.v w.p, .v (ruP t), .v c.p, .v (.int i)] := by
  refine defF_rt (ρ' := [some (.v w.p), some (.v (ruP t)), some (.v c.p), some (.v (.int i))]) rfl rfl ?_ rfl
  unfold P.b_running
  simp_arith [need_crew_ok W C, need_inflow_ok h h2, runners_ok W C]
theorem sorted_nat {ks : List Nat} : sSorted [.l (ks.map natP)] = some (.l ((sortI (ks.map fun (k : Nat) => (k : Int))).map .int)) := by
  rw [natP_map, k_sorted]
theorem starting_ok {i : Int} (W : w.Ok) (C : c.Ok w t) (h : 0 ≤ i) (h2 : i ≤ 300) : P.f_starting [.v w.p, .v (ruP t), .v c.p, .v (.int i)] = .ok (.v (.tup ((sortI ((c.begs w t).map fun (k : Nat) => (k : Int))).map .int))) [.v w.p, .v (ruP t), .v c.p, .v (.int i)] := by
  refine defF_rt (ρ' := [some (.v w.p), some (.v (ruP t)), some (.v c.p), some (.v (.int i))]) rfl rfl ?_ rfl
  unfold P.b_starting
  simp_arith [need_crew_ok W C, need_inflow_ok h h2, beginners_ok W C, sorted_nat]
/-- a crew, by counting -/
def cntOn (w : Well) (ages : List Int) : List Int := (List.range w.run.toNat).map fun (k : Nat) => ((ages.count ((k : Int) + 1) : Nat) : Int)
def cntOff (w : Well) (ages : List Int) : List Int := (List.range (w.rest - 1).toNat).map fun (k : Nat) => ((ages.count (-((k : Int) + 1)) : Nat) : Int)
def Cw.st (w : Well) (c : Cw) : Sd := ⟨c.lv, c.past, cntOn w c.ages, cntOff w c.ages, some ((c.ages.count (-w.rest) : Nat) : Int)⟩
theorem rangeP_1 {j : Int} : rangeP 1 j = (List.range (j - 1).toNat).map fun (k : Nat) => PV.int ((k : Int) + 1) := by
  unfold rangeP
  refine List.map_congr_left fun k _ => ?_
  rw [Int.add_comm]
theorem state_of_ok (W : w.Ok) (C : c.Ok w t) : P.f_state_of [.v w.p, .v c.p] = .ok (.v (c.st w).p) [.v w.p, .v c.p] := by
  have e1 := W.e1; have e2 := W.e2; have f1 := W.f1; have f2 := W.f2
  have hic := is_crew_of_ok W C.turns
  have hr : ruP true = .str "turns" := rfl
  rw [hr] at hic
  have hlc1 := lc_all (n := 9) (k := 7) (ci := walkR2 (seqO [konst (.int 1), bin2 sAdd (bin2 sIx (varO 0) (konst (.int 4))) (konst (.int 1))])) (c := P.b_state_of_e1) (ρ := [some (.v w.p), some (.v c.p), some (.v (.int c.lv)), some (.v (.tup (c.past.map .int))), some (.v (.tup (c.ages.map .int))), some (.v (.int (c.mark : Nat))), none, none, none])
    (inj := fun k : Nat => PV.int ((k : Int) + 1)) (fun k => .int ((c.ages.count ((k : Int) + 1) : Nat) : Int)) (List.range w.run.toNat) rfl rfl (by
      simp_arith [w_4, rangeP_1]
      rw [show w.run + 1 - 1 = w.run by omega]) (fun k _ => by unfold P.b_state_of_e1; simp_arith [k_cnt]) (by rw [List.length_range]; omega)
  have hlc2 := lc_all (n := 9) (k := 7) (ci := walkR2 (seqO [konst (.int 1), bin2 sIx (varO 0) (konst (.int 5))])) (c := P.b_state_of_e2) (ρ := [some (.v w.p), some (.v c.p), some (.v (.int c.lv)), some (.v (.tup (c.past.map .int))), some (.v (.tup (c.ages.map .int))), some (.v (.int (c.mark : Nat))), some (.v (.tup ((cntOn w c.ages).map .int))), none, none])
    (inj := fun k : Nat => PV.int ((k : Int) + 1)) (fun k => .int ((c.ages.count (-((k : Int) + 1)) : Nat) : Int)) (List.range (w.rest - 1).toNat) rfl rfl (by
      simp_arith [w_5, rangeP_1]) (fun k _ => by
        unfold P.b_state_of_e2
        simp_arith [k_cnt]
        rw [show (0 : Int) - ((k : Int) + 1) = -((k : Int) + 1) by omega]) (by rw [List.length_range]; omega)
  have m1 : (List.range w.run.toNat).map (fun (k : Nat) => PV.int ((c.ages.count ((k : Int) + 1) : Nat) : Int)) = (cntOn w c.ages).map .int := by unfold cntOn; rw [List.map_map]; rfl
  have m2 : (List.range (w.rest - 1).toNat).map (fun (k : Nat) => PV.int ((c.ages.count (-((k : Int) + 1)) : Nat) : Int)) = (cntOff w c.ages).map .int := by unfold cntOff; rw [List.map_map]; rfl
  rw [m1] at hlc1; rw [m2] at hlc2
  refine defF_rt (ρ' := [some (.v w.p), some (.v c.p), some (.v (.int c.lv)), some (.v (.tup (c.past.map .int))), some (.v (.tup (c.ages.map .int))), some (.v (.int (c.mark : Nat))), some (.v (.tup ((cntOn w c.ages).map .int))), none, some (.v (.tup ((cntOff w c.ages).map .int)))]) rfl rfl ?_ rfl
  unfold P.b_state_of
  simp_arith [need_well_ok W, hic, c_tg, hlc1, hlc2, w_5, k_cnt]
  rw [show (0 : Int) - w.rest = -w.rest by omega]
  rfl
end
end Lt
set_option maxHeartbeats 1000000
/-! LtCnt: counts -/
namespace Lt
open PySem PySem.Spec L2
open PyProof.Rows hiding St
local macro_rules
  | `(tactic| simp_arith [$as,*]) => `(tactic| simp (disch := first | assumption | omega | decide | (simp only [List.length_cons, List.length_nil, List.length_map, List.length_append, List.length_replicate, List.length_take, List.length_drop, List.length_dropLast, List.length_tail, List.length_range, List.length_set]; omega)) only [m_seq, m_if, m_or, m_and, m_not, m_tst, m_un, m_bin, m_konst, m_tm, m_sl, m_var, m_andV, m_orV, m_ifV, m_ret, m_retM, m_keepS, m_keepP, m_skip, m_cmp, m_callB, m_callF, m_seqO, m_seqO0, m_seqP, m_seqP0, m_seqV, m_seqV0, m_par2, m_par3, m_tup, m_lst, m_asg, m_unp, m_tgn, m_tgt, m_tgm, m_met, m_isT, m_tgs, m_tgs0, m_take0, m_take, m_take1t, m_take1s, m_tkv, m_tkl, m_tkr, m_tko, m_tkd, m_put, m_put0, m_put1t, m_put1v, m_put1l, m_put1r, m_expr, m_valT, m_noP, m_aP, m_slO, m_for, m_wR1, m_wR2, m_wV, m_app, m_setO, m_rec, m_fd, m_chn, m_get0, m_get, big_of, k_neg, k_add, k_addT, k_addL, m_sub, k_mul, k_mul', k_mulT, k_mod, k_div, k_int, k_min, k_max, k_eqI, k_neI', k_eqS, k_neS, k_lenT', k_lenL, k_lenK, k_tupL, k_tupT, k_tupK, k_lisL, k_lisT, k_lisK, k_sumT, ix_0, ix_1, ix_2, ix_3, ix_4, ix_5, ix_6, ix_7, ix_8, il_0, il_1, cut_m1, cut_m2, cut_1, cut_toI, cut_fromI, cut_abI, List.drop_one, k_slT, k_slL, k_slK, k_is_ii, k_is_bi, k_is_tt, k_is_st, k_is_si, k_is_ss, k_is_ti, k_is_ts, k_non_i, k_non_n, k_non_s, k_non_t, k_nn_i, k_nn_n, k_nn_s, k_nn_t, k_isnB, k_isB, k_itT, k_itL, List.getElem?_cons_zero, List.getElem?_cons_succ, List.set_cons_zero, List.set_cons_succ, List.length_cons, List.length_nil, List.length_map, List.map_cons, List.map_nil, List.replicate, List.cons_append, List.nil_append, Nat.reduceAdd, Nat.reduceSub, Nat.reduceLT, Nat.reduceLeDiff, Int.reduceNeg, Int.reduceAdd, Int.reduceSub, Int.reduceMul, Int.reduceEq, Int.reduceLE, Int.reduceLT, Int.cast_ofNat_Int, Int.natCast_zero, Int.natCast_one, Int.reduceToNat, Int.toNat_natCast, if_true, if_false, if_pos, if_neg, eq_self, Bool.false_eq_true, Bool.not_true, Bool.not_false, Bool.true_and, Bool.and_true, Bool.false_and, Bool.and_false, Bool.true_or, Bool.or_true, Bool.and_self, Bool.or_self, Bool.false_or, Bool.or_false, decide_true, decide_false, and_self, and_true, true_and, and_false, false_and, not_true_eq_false, not_false_eq_true, $as,*])
/-! ### sums of marks -/
def mk1 (P : Prop) [Decidable P] : Int := if P then 1 else 0
def sm {α : Type} (l : List α) (f : α → Int) : Int := (l.map f).sum
theorem sm_lin {α : Type} {f g h k : α → Int} : ∀ {l : List α}, (∀ p ∈ l, f p = g p + h p - k p) → sm l f = sm l g + sm l h - sm l k
  | [], _ => rfl
  | p :: l, e => by
    have e1 := e p List.mem_cons_self
    have e2 := sm_lin (l := l) fun q hq => e q (List.mem_cons_of_mem _ hq)
    unfold sm at *
    rw [List.map_cons, List.map_cons, List.map_cons, List.map_cons, List.sum_cons, List.sum_cons, List.sum_cons, List.sum_cons]
    omega
theorem sm_0 {α : Type} : ∀ {l : List α}, sm l (fun _ => (0 : Int)) = 0
  | [] => rfl
  | _ :: l => by have := sm_0 (l := l); unfold sm at *; rw [List.map_cons, List.sum_cons, this]; rfl
theorem sm_cnt {α : Type} {f : α → Int} {v : Int} : ∀ {l : List α}, sm l (fun p => mk1 (f p = v)) = ((l.map f).count v : Nat)
  | [] => rfl
  | p :: l => by
    have := sm_cnt (f := f) (v := v) (l := l)
    unfold sm at *
    rw [List.map_cons, List.sum_cons, this, List.map_cons, List.count_cons]
    unfold mk1
    by_cases h : f p = v
    · rw [if_pos h, h, beq_self_eq_true, if_pos rfl]; omega
    · rw [if_neg h, if_neg (by simpa using h)]; omega
theorem zipIdx_fst {α : Type} {l : List α} : l.zipIdx.map (·.1) = l := by simp
theorem zipIdx_snd {α : Type} {l : List α} : l.zipIdx.map (·.2) = List.range l.length := by
  apply List.ext_getElem?
  intro i
  rw [List.getElem?_map, List.getElem?_zipIdx]
  by_cases h : i < l.length
  · rw [List.getElem?_eq_getElem h, List.getElem?_range h]; simp
  · rw [List.getElem?_eq_none (by omega), List.getElem?_eq_none (by rw [List.length_range]; omega)]; rfl
theorem sm_ages {l : List Int} {v : Int} : sm l.zipIdx (fun p => mk1 (p.1 = v)) = (l.count v : Nat) := by rw [sm_cnt, zipIdx_fst]
theorem sm_map {α β : Type} {g : α → β} {f : β → Int} {l : List α} : sm (l.map g) f = sm l (fun p => f (g p)) := by unfold sm; rw [List.map_map]; rfl
theorem sm_filter {α : Type} {q : α → Bool} : ∀ {l : List α}, sm l (fun p => mk1 (q p = true)) = ((l.filter q).length : Nat)
  | [] => rfl
  | p :: l => by
    have := sm_filter (q := q) (l := l)
    unfold sm at *
    rw [List.map_cons, List.sum_cons, this]
    unfold mk1
    by_cases h : q p = true
    · rw [if_pos h, List.filter_cons_of_pos h, List.length_cons]; omega
    · rw [if_neg h, List.filter_cons_of_neg h]; omega
/-- how many are among these -/
theorem sm_mem {n : Nat} {bs : List Nat} (nd : bs.Nodup) (hl : ∀ k ∈ bs, k < n) : sm (List.range n) (fun k => mk1 (k ∈ bs)) = (bs.length : Nat) := by
  have e : sm (List.range n) (fun k => mk1 (k ∈ bs)) = sm (List.range n) (fun k => mk1 (decide (k ∈ bs) = true)) := by
    unfold sm
    congr 1
    refine List.map_congr_left fun k _ => ?_
    unfold mk1
    by_cases h : k ∈ bs
    · rw [if_pos h, if_pos (decide_eq_true h)]
    · rw [if_neg h, if_neg (by rw [decide_eq_false h]; exact Bool.false_ne_true)]
  rw [e, sm_filter]
  have p : ((List.range n).filter fun k => decide (k ∈ bs)).Perm bs := by
    refine (List.perm_ext_iff_of_nodup (List.nodup_range.filter _) nd).mpr fun k => ?_
    rw [List.mem_filter, List.mem_range, decide_eq_true_eq]
    exact ⟨fun z => z.2, fun z => ⟨hl k z, z⟩⟩
  rw [p.length_eq]
/-! ### the names in turn -/
theorem order_rot {n m : Nat} (h : m < n) : (List.range n).map (fun k => (m + k) % n) = (List.range n).drop m ++ (List.range n).take m := by
  apply List.ext_getElem?
  intro i
  by_cases hi : i < n
  · rw [List.getElem?_map, List.getElem?_range hi, Option.map_some]
    by_cases c : m + i < n
    · rw [Nat.mod_eq_of_lt c, List.getElem?_append_left (by rw [List.length_drop, List.length_range]; omega), List.getElem?_drop, List.getElem?_range c]
    · rw [Nat.mod_eq_sub_mod (by omega), Nat.mod_eq_of_lt (by omega), List.getElem?_append_right (by rw [List.length_drop, List.length_range]; omega), List.length_drop, List.length_range, List.getElem?_take_of_lt (by omega), List.getElem?_range (by omega)]
      congr 1
      omega
  · rw [List.getElem?_eq_none (by rw [List.length_map, List.length_range]; omega), List.getElem?_eq_none (by rw [List.length_append, List.length_drop, List.length_take, List.length_range]; omega)]
section
variable {w : Well} {c : Cw} {t : Bool}
theorem Cw.Ok.order_perm (C : c.Ok w t) : (c.order t).Perm (List.range c.ages.length) := by
  unfold Cw.order
  split
  · rw [order_rot C.ml]
    refine List.perm_append_comm.trans ?_
    rw [List.take_append_drop]
  · exact List.Perm.refl _
theorem Cw.Ok.begs_nd (C : c.Ok w t) : (c.begs w t).Nodup := by
  unfold Cw.begs
  split
  · exact List.nodup_nil
  · exact List.Nodup.sublist ((List.take_sublist _ _).trans List.filter_sublist) (C.order_perm.nodup_iff.mpr List.nodup_range)
theorem Cw.Ok.begs_age (C : c.Ok w t) : ∀ k ∈ c.begs w t, c.ages.getD k 0 = -w.rest := fun k hk => by
  unfold Cw.begs at hk
  split at hk
  · cases hk
  · exact of_decide_eq_true (List.mem_filter.mp (List.mem_of_mem_take hk)).2
theorem range_getD {l : List Int} {v : Int} : ((List.range l.length).filter fun k => decide (l.getD k 0 = v)).length = l.count v := by
  have e : (List.range l.length).map (fun k => l.getD k 0) = l := by
    apply List.ext_getElem?
    intro i
    rw [List.getElem?_map]
    by_cases h : i < l.length
    · rw [List.getElem?_range h, Option.map_some, List.getD_eq_getElem?_getD, List.getElem?_eq_getElem h]; rfl
    · rw [List.getElem?_eq_none (by rw [List.length_range]; omega), List.getElem?_eq_none (by omega)]; rfl
  have a := sm_cnt (f := fun k => l.getD k 0) (v := v) (l := List.range l.length)
  rw [e] at a
  have b := sm_filter (q := fun k => decide (l.getD k 0 = v)) (l := List.range l.length)
  have c : sm (List.range l.length) (fun k => mk1 (decide (l.getD k 0 = v) = true)) = sm (List.range l.length) (fun k => mk1 (l.getD k 0 = v)) := by
    unfold sm; congr 1
    refine List.map_congr_left fun k _ => ?_
    unfold mk1
    by_cases h : l.getD k 0 = v
    · rw [if_pos h, if_pos (decide_eq_true h)]
    · rw [if_neg h, if_neg (by rw [decide_eq_false h]; exact Bool.false_ne_true)]
  omega
theorem Cw.Ok.begs_n (C : c.Ok w t) : (c.begs w t).length = if w.seen c.lv c.past < w.on then 0 else min w.starts.toNat (c.ages.count (-w.rest)) := by
  unfold Cw.begs
  split
  · rfl
  · rw [List.length_take, ← range_getD, (C.order_perm.filter _).length_eq]
end
end Lt
set_option maxHeartbeats 1000000
/-! LtCntB: counts behind a beat -/
namespace Lt
open PySem PySem.Spec L2
open PyProof.Rows hiding St
local macro_rules
  | `(tactic| simp_arith [$as,*]) => `(tactic| simp (disch := first | assumption | omega | decide | (simp only [List.length_cons, List.length_nil, List.length_map, List.length_append, List.length_replicate, List.length_take, List.length_drop, List.length_dropLast, List.length_tail, List.length_range, List.length_set]; omega)) only [m_seq, m_if, m_or, m_and, m_not, m_tst, m_un, m_bin, m_konst, m_tm, m_sl, m_var, m_andV, m_orV, m_ifV, m_ret, m_retM, m_keepS, m_keepP, m_skip, m_cmp, m_callB, m_callF, m_seqO, m_seqO0, m_seqP, m_seqP0, m_seqV, m_seqV0, m_par2, m_par3, m_tup, m_lst, m_asg, m_unp, m_tgn, m_tgt, m_tgm, m_met, m_isT, m_tgs, m_tgs0, m_take0, m_take, m_take1t, m_take1s, m_tkv, m_tkl, m_tkr, m_tko, m_tkd, m_put, m_put0, m_put1t, m_put1v, m_put1l, m_put1r, m_expr, m_valT, m_noP, m_aP, m_slO, m_for, m_wR1, m_wR2, m_wV, m_app, m_setO, m_rec, m_fd, m_chn, m_get0, m_get, big_of, k_neg, k_add, k_addT, k_addL, m_sub, k_mul, k_mul', k_mulT, k_mod, k_div, k_int, k_min, k_max, k_eqI, k_neI', k_eqS, k_neS, k_lenT', k_lenL, k_lenK, k_tupL, k_tupT, k_tupK, k_lisL, k_lisT, k_lisK, k_sumT, ix_0, ix_1, ix_2, ix_3, ix_4, ix_5, ix_6, ix_7, ix_8, il_0, il_1, cut_m1, cut_m2, cut_1, cut_toI, cut_fromI, cut_abI, List.drop_one, k_slT, k_slL, k_slK, k_is_ii, k_is_bi, k_is_tt, k_is_st, k_is_si, k_is_ss, k_is_ti, k_is_ts, k_non_i, k_non_n, k_non_s, k_non_t, k_nn_i, k_nn_n, k_nn_s, k_nn_t, k_isnB, k_isB, k_itT, k_itL, List.getElem?_cons_zero, List.getElem?_cons_succ, List.set_cons_zero, List.set_cons_succ, List.length_cons, List.length_nil, List.length_map, List.map_cons, List.map_nil, List.replicate, List.cons_append, List.nil_append, Nat.reduceAdd, Nat.reduceSub, Nat.reduceLT, Nat.reduceLeDiff, Int.reduceNeg, Int.reduceAdd, Int.reduceSub, Int.reduceMul, Int.reduceEq, Int.reduceLE, Int.reduceLT, Int.cast_ofNat_Int, Int.natCast_zero, Int.natCast_one, Int.reduceToNat, Int.toNat_natCast, if_true, if_false, if_pos, if_neg, eq_self, Bool.false_eq_true, Bool.not_true, Bool.not_false, Bool.true_and, Bool.and_true, Bool.false_and, Bool.and_false, Bool.true_or, Bool.or_true, Bool.and_self, Bool.or_self, Bool.false_or, Bool.or_false, decide_true, decide_false, and_self, and_true, true_and, and_false, false_and, not_true_eq_false, not_false_eq_true, $as,*])
section
variable {w : Well} {c : Cw} {t : Bool}
/-- the low mark -/
abbrev Cw.low (w : Well) (c : Cw) : Prop := w.seen c.lv c.past ≤ w.off
theorem Cw.Ok.at (C : c.Ok w t) {p : Int × Nat} (hp : p ∈ c.ages.zipIdx) : -w.rest ≤ p.1 ∧ p.1 ≤ w.run ∧ p.1 ≠ 0 ∧ (p.2 ∈ c.begs w t → p.1 = -w.rest) := by
  obtain ⟨_, h2, h3⟩ := List.mem_zipIdx hp
  simp only [Nat.zero_add, Nat.sub_zero] at h2 h3
  have ha := C.aa p.1 (by rw [h3]; exact List.getElem_mem _)
  refine ⟨ha.1, ha.2.1, ha.2.2, fun hb => ?_⟩
  have := C.begs_age p.2 hb
  rw [List.getD_eq_getElem?_getD, List.getElem?_eq_getElem h2] at this
  rw [h3]; exact this
theorem Cw.agesA_cnt {v : Int} : ((c.agesA w t).count v : Nat) = sm c.ages.zipIdx (fun p => mk1 (c.aged w t p = v)) := by
  rw [sm_cnt]; rfl
theorem Cw.Ok.sm_begs (C : c.Ok w t) : sm c.ages.zipIdx (fun p => mk1 (p.2 ∈ c.begs w t)) = ((c.begs w t).length : Nat) := by
  rw [← sm_mem C.begs_nd C.begs_lt, ← zipIdx_snd, sm_map]
theorem Cw.low_sm {v : Int} : sm c.ages.zipIdx (fun p => mk1 (c.low w ∧ p.1 = v)) = if c.low w then ((c.ages.count v : Nat) : Int) else 0 := by
  by_cases h : c.low w
  · rw [if_pos h, ← sm_ages]
    unfold sm; congr 1
    refine List.map_congr_left fun p _ => ?_
    unfold mk1
    by_cases z : p.1 = v
    · rw [if_pos z, if_pos ⟨h, z⟩]
    · rw [if_neg z, if_neg fun y => z y.2]
  · rw [if_neg h, ← sm_0 (l := c.ages.zipIdx)]
    unfold sm; congr 1
    refine List.map_congr_left fun p _ => ?_
    unfold mk1
    rw [if_neg fun y => h y.1]
/-- how many stop -/
def Cw.sp (w : Well) (c : Cw) : Int := if c.low w then ((c.ages.count w.run : Nat) : Int) else 0
/-- the mark of a pump's new age, by its age and whether it starts -/
theorem Cw.Ok.marks (W : w.Ok) (C : c.Ok w t) {p : Int × Nat} (hp : p ∈ c.ages.zipIdx) :
    (2 ≤ w.run → mk1 (c.aged w t p = 1) = mk1 (p.2 ∈ c.begs w t) + 0 - 0) ∧
    (∀ v, 2 ≤ v → v < w.run → mk1 (c.aged w t p = v) = mk1 (p.1 = v - 1) + 0 - 0) ∧
    (2 ≤ w.run → mk1 (c.aged w t p = w.run) = mk1 (p.1 = w.run - 1) + mk1 (p.1 = w.run) - mk1 (c.low w ∧ p.1 = w.run)) ∧
    (w.run = 1 → mk1 (c.aged w t p = 1) = mk1 (p.2 ∈ c.begs w t) + mk1 (p.1 = w.run) - mk1 (c.low w ∧ p.1 = w.run)) ∧
    (2 ≤ w.rest → mk1 (c.aged w t p = -1) = mk1 (c.low w ∧ p.1 = w.run) + 0 - 0) ∧
    (∀ v, 2 ≤ v → v < w.rest → mk1 (c.aged w t p = -v) = mk1 (p.1 = -(v - 1)) + 0 - 0) ∧
    (2 ≤ w.rest → mk1 (c.aged w t p = -w.rest) = mk1 (p.1 = -w.rest) + mk1 (p.1 = -(w.rest - 1)) - mk1 (p.2 ∈ c.begs w t)) ∧
    (w.rest = 1 → mk1 (c.aged w t p = -w.rest) = mk1 (p.1 = -w.rest) + mk1 (c.low w ∧ p.1 = w.run) - mk1 (p.2 ∈ c.begs w t)) := by
  obtain ⟨h1, h2, h3, h4⟩ := C.at hp
  have e1 := W.e1; have f1 := W.f1
  unfold mk1 Cw.aged Cw.low
  generalize w.seen c.lv c.past = sn
  by_cases hb : p.2 ∈ c.begs w t
  · have := h4 hb
    simp only [hb, if_true]
    refine ⟨fun _ => ?_, fun v _ _ => ?_, fun _ => ?_, fun _ => ?_, fun _ => ?_, fun v _ _ => ?_, fun _ => ?_, fun _ => ?_⟩ <;> (repeat' split) <;> omega
  · simp only [hb, if_false]
    by_cases hl : sn ≤ w.off
    · simp only [hl, true_and]
      refine ⟨fun _ => ?_, fun v _ _ => ?_, fun _ => ?_, fun _ => ?_, fun _ => ?_, fun v _ _ => ?_, fun _ => ?_, fun _ => ?_⟩ <;> (repeat' split) <;> omega
    · simp only [hl, false_and, if_false]
      refine ⟨fun _ => ?_, fun v _ _ => ?_, fun _ => ?_, fun _ => ?_, fun _ => ?_, fun v _ _ => ?_, fun _ => ?_, fun _ => ?_⟩ <;> (repeat' split) <;> omega
theorem Cw.Ok.counts (W : w.Ok) (C : c.Ok w t) :
    (2 ≤ w.run → ((c.agesA w t).count 1 : Int) = (c.begs w t).length) ∧
    (∀ v, 2 ≤ v → v < w.run → ((c.agesA w t).count v : Int) = c.ages.count (v - 1)) ∧
    (2 ≤ w.run → ((c.agesA w t).count w.run : Int) = c.ages.count (w.run - 1) + c.ages.count w.run - c.sp w) ∧
    (w.run = 1 → ((c.agesA w t).count 1 : Int) = (c.begs w t).length + c.ages.count w.run - c.sp w) ∧
    (2 ≤ w.rest → ((c.agesA w t).count (-1) : Int) = c.sp w) ∧
    (∀ v, 2 ≤ v → v < w.rest → ((c.agesA w t).count (-v) : Int) = c.ages.count (-(v - 1))) ∧
    (2 ≤ w.rest → ((c.agesA w t).count (-w.rest) : Int) = c.ages.count (-w.rest) + c.ages.count (-(w.rest - 1)) - (c.begs w t).length) ∧
    (w.rest = 1 → ((c.agesA w t).count (-w.rest) : Int) = c.ages.count (-w.rest) + c.sp w - (c.begs w t).length) := by
  have z := sm_0 (l := c.ages.zipIdx)
  have lowE : sm c.ages.zipIdx (fun p => mk1 (c.low w ∧ p.1 = w.run)) = c.sp w := Cw.low_sm
  refine ⟨fun h => ?_, fun v h h' => ?_, fun h => ?_, fun h => ?_, fun h => ?_, fun v h h' => ?_, fun h => ?_, fun h => ?_⟩
  · rw [Cw.agesA_cnt, sm_lin (fun p hp => (C.marks W hp).1 h), C.sm_begs, z]; omega
  · rw [Cw.agesA_cnt, sm_lin (fun p hp => (C.marks W hp).2.1 v h h'), sm_ages, z]; omega
  · rw [Cw.agesA_cnt, sm_lin (fun p hp => (C.marks W hp).2.2.1 h), sm_ages, sm_ages, lowE]
  · rw [Cw.agesA_cnt, sm_lin (fun p hp => (C.marks W hp).2.2.2.1 h), C.sm_begs, sm_ages, lowE]
  · rw [Cw.agesA_cnt, sm_lin (fun p hp => (C.marks W hp).2.2.2.2.1 h), lowE, z]; omega
  · rw [Cw.agesA_cnt, sm_lin (fun p hp => (C.marks W hp).2.2.2.2.2.1 v h h'), sm_ages, z]; omega
  · rw [Cw.agesA_cnt, sm_lin (fun p hp => (C.marks W hp).2.2.2.2.2.2.1 h), sm_ages, sm_ages, C.sm_begs]
  · rw [Cw.agesA_cnt, sm_lin (fun p hp => (C.marks W hp).2.2.2.2.2.2.2 h), sm_ages, C.sm_begs, lowE]
end
end Lt
set_option maxHeartbeats 1000000
/-! LtCntC: a crew goes on as its state -/
namespace Lt
open PySem PySem.Spec L2
open PyProof.Rows hiding St
local macro_rules
  | `(tactic| simp_arith [$as,*]) => `(tactic| simp (disch := first | assumption | omega | decide | (simp only [List.length_cons, List.length_nil, List.length_map, List.length_append, List.length_replicate, List.length_take, List.length_drop, List.length_dropLast, List.length_tail, List.length_range, List.length_set]; omega)) only [m_seq, m_if, m_or, m_and, m_not, m_tst, m_un, m_bin, m_konst, m_tm, m_sl, m_var, m_andV, m_orV, m_ifV, m_ret, m_retM, m_keepS, m_keepP, m_skip, m_cmp, m_callB, m_callF, m_seqO, m_seqO0, m_seqP, m_seqP0, m_seqV, m_seqV0, m_par2, m_par3, m_tup, m_lst, m_asg, m_unp, m_tgn, m_tgt, m_tgm, m_met, m_isT, m_tgs, m_tgs0, m_take0, m_take, m_take1t, m_take1s, m_tkv, m_tkl, m_tkr, m_tko, m_tkd, m_put, m_put0, m_put1t, m_put1v, m_put1l, m_put1r, m_expr, m_valT, m_noP, m_aP, m_slO, m_for, m_wR1, m_wR2, m_wV, m_app, m_setO, m_rec, m_fd, m_chn, m_get0, m_get, big_of, k_neg, k_add, k_addT, k_addL, m_sub, k_mul, k_mul', k_mulT, k_mod, k_div, k_int, k_min, k_max, k_eqI, k_neI', k_eqS, k_neS, k_lenT', k_lenL, k_lenK, k_tupL, k_tupT, k_tupK, k_lisL, k_lisT, k_lisK, k_sumT, ix_0, ix_1, ix_2, ix_3, ix_4, ix_5, ix_6, ix_7, ix_8, il_0, il_1, cut_m1, cut_m2, cut_1, cut_toI, cut_fromI, cut_abI, List.drop_one, k_slT, k_slL, k_slK, k_is_ii, k_is_bi, k_is_tt, k_is_st, k_is_si, k_is_ss, k_is_ti, k_is_ts, k_non_i, k_non_n, k_non_s, k_non_t, k_nn_i, k_nn_n, k_nn_s, k_nn_t, k_isnB, k_isB, k_itT, k_itL, List.getElem?_cons_zero, List.getElem?_cons_succ, List.set_cons_zero, List.set_cons_succ, List.length_cons, List.length_nil, List.length_map, List.map_cons, List.map_nil, List.replicate, List.cons_append, List.nil_append, Nat.reduceAdd, Nat.reduceSub, Nat.reduceLT, Nat.reduceLeDiff, Int.reduceNeg, Int.reduceAdd, Int.reduceSub, Int.reduceMul, Int.reduceEq, Int.reduceLE, Int.reduceLT, Int.cast_ofNat_Int, Int.natCast_zero, Int.natCast_one, Int.reduceToNat, Int.toNat_natCast, if_true, if_false, if_pos, if_neg, eq_self, Bool.false_eq_true, Bool.not_true, Bool.not_false, Bool.true_and, Bool.and_true, Bool.false_and, Bool.and_false, Bool.true_or, Bool.or_true, Bool.and_self, Bool.or_self, Bool.false_or, Bool.or_false, decide_true, decide_false, and_self, and_true, true_and, and_false, false_and, not_true_eq_false, not_false_eq_true, $as,*])
section
variable {w : Well} {c : Cw} {t : Bool}
theorem five {n : Int} (h1 : 1 ≤ n) (h2 : n ≤ 5) : n = 1 ∨ n = 2 ∨ n = 3 ∨ n = 4 ∨ n = 5 := by omega
theorem cntOn_last (W : w.Ok) {l : List Int} : (cntOn w l).getLastD 0 = (l.count w.run : Nat) := by
  unfold cntOn
  rcases five W.e1 W.e2 with e | e | e | e | e <;> rw [e] <;> rfl
theorem Cw.Ok.started (W : w.Ok) (C : c.Ok w t) : (c.st w).started w = ((c.begs w t).length : Nat) := by
  have g1 := W.g1
  show (if w.on ≤ w.seen c.lv c.past then min w.starts ((c.ages.count (-w.rest) : Nat) : Int) else 0) = _
  rw [C.begs_n]
  by_cases h : w.seen c.lv c.past < w.on
  · rw [if_neg (by omega), if_pos h]; rfl
  · rw [if_pos (by omega), if_neg h]; omega
theorem Cw.stopped (W : w.Ok) : (c.st w).stopped w = c.sp w := by
  have d2 := W.d2
  show (if w.on ≤ w.seen c.lv c.past then 0 else if w.seen c.lv c.past ≤ w.off then (cntOn w c.ages).getLastD 0 else 0) = _
  rw [cntOn_last W]
  unfold Cw.sp Cw.low
  by_cases h : w.on ≤ w.seen c.lv c.past
  · rw [if_pos h, if_neg (by omega)]
  · rw [if_neg h]
theorem Cw.Ok.onA (W : w.Ok) (C : c.Ok w t) : onAft (cntOn w c.ages) ((c.begs w t).length : Nat) (c.sp w) = cntOn w (c.agesA w t) := by
  obtain ⟨q1, q2, q3, q4, _⟩ := C.counts W
  unfold cntOn
  rcases five W.e1 W.e2 with e | e | e | e | e <;> rw [e] at q1 q2 q3 q4 ⊢
  · show [((c.begs w t).length : Int) + (c.ages.count 1 : Nat) - c.sp w] = [(((c.agesA w t).count 1 : Nat) : Int)]
    rw [q4 rfl]
  · show [((c.begs w t).length : Int), (c.ages.count 1 : Nat) + (c.ages.count 2 : Nat) - c.sp w] = [(((c.agesA w t).count 1 : Nat) : Int), (((c.agesA w t).count 2 : Nat) : Int)]
    have r1 := q1 (by omega); have r9 := q3 (by omega)
    simp only [Int.reduceSub] at r9
    rw [r1, r9]
  · have r2 := q2 2 (by omega) (by omega)
    show [((c.begs w t).length : Int), (c.ages.count 1 : Nat), (c.ages.count 2 : Nat) + (c.ages.count 3 : Nat) - c.sp w] = [(((c.agesA w t).count 1 : Nat) : Int), (((c.agesA w t).count 2 : Nat) : Int), (((c.agesA w t).count 3 : Nat) : Int)]
    have r1 := q1 (by omega); have r9 := q3 (by omega)
    simp only [Int.reduceSub] at r9 r2
    rw [r1, r9, r2]
  · have r2 := q2 2 (by omega) (by omega); have r3 := q2 3 (by omega) (by omega)
    show [((c.begs w t).length : Int), (c.ages.count 1 : Nat), (c.ages.count 2 : Nat), (c.ages.count 3 : Nat) + (c.ages.count 4 : Nat) - c.sp w] = [(((c.agesA w t).count 1 : Nat) : Int), (((c.agesA w t).count 2 : Nat) : Int), (((c.agesA w t).count 3 : Nat) : Int), (((c.agesA w t).count 4 : Nat) : Int)]
    have r1 := q1 (by omega); have r9 := q3 (by omega)
    simp only [Int.reduceSub] at r9 r2 r3
    rw [r1, r9, r2, r3]
  · have r2 := q2 2 (by omega) (by omega); have r3 := q2 3 (by omega) (by omega); have r4 := q2 4 (by omega) (by omega)
    show [((c.begs w t).length : Int), (c.ages.count 1 : Nat), (c.ages.count 2 : Nat), (c.ages.count 3 : Nat), (c.ages.count 4 : Nat) + (c.ages.count 5 : Nat) - c.sp w] = [(((c.agesA w t).count 1 : Nat) : Int), (((c.agesA w t).count 2 : Nat) : Int), (((c.agesA w t).count 3 : Nat) : Int), (((c.agesA w t).count 4 : Nat) : Int), (((c.agesA w t).count 5 : Nat) : Int)]
    have r1 := q1 (by omega); have r9 := q3 (by omega)
    simp only [Int.reduceSub] at r9 r2 r3 r4
    rw [r1, r9, r2, r3, r4]
theorem Cw.Ok.offA (W : w.Ok) (C : c.Ok w t) : offAft (cntOff w c.ages) (c.sp w) = cntOff w (c.agesA w t) ∧ rdAft (cntOff w c.ages) ((c.begs w t).length : Nat) (c.sp w) (some ((c.ages.count (-w.rest) : Nat) : Int)) = some (((c.agesA w t).count (-w.rest) : Nat) : Int) := by
  obtain ⟨_, _, _, _, q5, q6, q7, q8⟩ := C.counts W
  unfold cntOff
  rcases five W.f1 W.f2 with e | e | e | e | e <;> rw [e] at q5 q6 q7 q8 ⊢
  · refine ⟨rfl, ?_⟩
    show some (((c.ages.count (-1) : Nat) : Int) - (c.begs w t).length + c.sp w) = _
    rw [q8 rfl]; congr 1; omega
  · refine ⟨?_, ?_⟩
    · show [c.sp w] = [(((c.agesA w t).count (-1) : Nat) : Int)]
      rw [q5 (by omega)]
    · show some (((c.ages.count (-2) : Nat) : Int) - (c.begs w t).length + (c.ages.count (-1) : Nat)) = _
      have r7 := q7 (by omega)
      simp only [Int.reduceSub] at r7
      rw [r7]; congr 1; omega
  · have r2 := q6 2 (by omega) (by omega)
    refine ⟨?_, ?_⟩
    · show [c.sp w, (c.ages.count (-1) : Nat)] = [(((c.agesA w t).count (-1) : Nat) : Int), (((c.agesA w t).count (-2) : Nat) : Int)]
      simp only [Int.reduceSub] at r2
      rw [q5 (by omega), r2]
    · show some (((c.ages.count (-3) : Nat) : Int) - (c.begs w t).length + (c.ages.count (-2) : Nat)) = _
      have r7 := q7 (by omega)
      simp only [Int.reduceSub] at r7
      rw [r7]; congr 1; omega
  · have r2 := q6 2 (by omega) (by omega); have r3 := q6 3 (by omega) (by omega)
    refine ⟨?_, ?_⟩
    · show [c.sp w, (c.ages.count (-1) : Nat), (c.ages.count (-2) : Nat)] = [(((c.agesA w t).count (-1) : Nat) : Int), (((c.agesA w t).count (-2) : Nat) : Int), (((c.agesA w t).count (-3) : Nat) : Int)]
      simp only [Int.reduceSub] at r2 r3
      rw [q5 (by omega), r2, r3]
    · show some (((c.ages.count (-4) : Nat) : Int) - (c.begs w t).length + (c.ages.count (-3) : Nat)) = _
      have r7 := q7 (by omega)
      simp only [Int.reduceSub] at r7
      rw [r7]; congr 1; omega
  · have r2 := q6 2 (by omega) (by omega); have r3 := q6 3 (by omega) (by omega); have r4 := q6 4 (by omega) (by omega)
    refine ⟨?_, ?_⟩
    · show [c.sp w, (c.ages.count (-1) : Nat), (c.ages.count (-2) : Nat), (c.ages.count (-3) : Nat)] = [(((c.agesA w t).count (-1) : Nat) : Int), (((c.agesA w t).count (-2) : Nat) : Int), (((c.agesA w t).count (-3) : Nat) : Int), (((c.agesA w t).count (-4) : Nat) : Int)]
      simp only [Int.reduceSub] at r2 r3 r4
      rw [q5 (by omega), r2, r3, r4]
    · show some (((c.ages.count (-5) : Nat) : Int) - (c.begs w t).length + (c.ages.count (-4) : Nat)) = _
      have r7 := q7 (by omega)
      simp only [Int.reduceSub] at r7
      rw [r7]; congr 1; omega
/-- those that are on -/
theorem rng_mk {a : Int} : ∀ n : Nat, sm (List.range n) (fun k => mk1 (a = (k : Int) + 1)) = mk1 (1 ≤ a ∧ a ≤ n)
  | 0 => by
    unfold mk1; rw [if_neg (by omega)]; rfl
  | n + 1 => by
    have := rng_mk (a := a) n
    unfold sm at *
    rw [List.range_succ, List.map_append, List.sum_append, this]
    unfold mk1
    simp only [List.map_cons, List.map_nil, List.sum_cons, List.sum_nil]
    (repeat' split) <;> omega
theorem sm_add {α : Type} {f g : α → Int} : ∀ {l : List α}, sm l (fun p => f p + g p) = sm l f + sm l g
  | [] => rfl
  | p :: l => by
    have := sm_add (f := f) (g := g) (l := l)
    unfold sm at *
    rw [List.map_cons, List.map_cons, List.map_cons, List.sum_cons, List.sum_cons, List.sum_cons]
    omega
theorem sum_counts {n : Nat} : ∀ {l : List Int}, (∀ a ∈ l, a ≤ n) → sm (List.range n) (fun k => ((l.count ((k : Int) + 1) : Nat) : Int)) = ((l.filter fun a => decide (0 < a)).length : Nat)
  | [], _ => by
    rw [show (fun k : Nat => (((([] : List Int)).count ((k : Int) + 1) : Nat) : Int)) = fun _ => 0 from rfl, sm_0]; rfl
  | a :: l, h => by
    have ih := sum_counts (n := n) (l := l) fun b hb => h b (List.mem_cons_of_mem _ hb)
    have ha := h a List.mem_cons_self
    have e : (fun k : Nat => (((a :: l).count ((k : Int) + 1) : Nat) : Int)) = fun k : Nat => ((l.count ((k : Int) + 1) : Nat) : Int) + mk1 (a = (k : Int) + 1) := by
      funext k
      rw [List.count_cons]
      unfold mk1
      by_cases z : a = (k : Int) + 1
      · rw [if_pos z, z, beq_self_eq_true, if_pos rfl]; omega
      · rw [if_neg z, if_neg (by simpa using z)]; omega
    rw [e, sm_add, ih, rng_mk]
    unfold mk1
    by_cases z : 0 < a
    · rw [List.filter_cons_of_pos (by simpa using z), if_pos (by omega), List.length_cons]; omega
    · rw [List.filter_cons_of_neg (by simpa using z), if_neg (by omega)]; omega
theorem Cw.Ok.agesA_in (W : w.Ok) (C : c.Ok w t) : ∀ a ∈ c.agesA w t, -w.rest ≤ a ∧ a ≤ w.run ∧ a ≠ 0 := fun a ha => by
  unfold Cw.agesA at ha
  obtain ⟨p, hp, rfl⟩ := List.mem_map.mp ha
  obtain ⟨h1, h2, h3, h4⟩ := C.at hp
  have e1 := W.e1; have f1 := W.f1
  unfold Cw.aged
  (repeat' split) <;> omega
theorem Cw.Ok.on_sum (W : w.Ok) (C : c.Ok w t) : (cntOn w (c.agesA w t)).sum = (c.many w t : Nat) := by
  have e1 := W.e1
  have := sum_counts (n := w.run.toNat) (l := c.agesA w t) fun a ha => by have := C.agesA_in W a ha; omega
  exact this
theorem Cw.Ok.st_beat {i : Int} (W : w.Ok) (C : c.Ok w t) : (c.st w).beat w i = if w.top < c.lvA w t i then .str "over" else if c.lvA w t i < 0 then .str "dry" else ((c.aft w t i).st w).p := by
  have h1 := C.started W; have h2 := Cw.stopped (c := c) W; have h3 := C.onA W
  obtain ⟨h4, h5⟩ := C.offA W
  have e1 : (c.st w).lvAft w ((c.begs w t).length : Nat) (c.sp w) i = c.lvA w t i := by
    show c.lv + i - w.drain * (onAft (cntOn w c.ages) ((c.begs w t).length : Nat) (c.sp w)).sum = _
    rw [h3, C.on_sum W]; rfl
  have e2 : (c.st w).aft w ((c.begs w t).length : Nat) (c.sp w) i = (c.aft w t i).st w := by
    show (⟨(c.st w).lvAft w ((c.begs w t).length : Nat) (c.sp w) i, pastAft c.past c.lv, onAft (cntOn w c.ages) ((c.begs w t).length : Nat) (c.sp w), offAft (cntOff w c.ages) (c.sp w), rdAft (cntOff w c.ages) ((c.begs w t).length : Nat) (c.sp w) (some ((c.ages.count (-w.rest) : Nat) : Int))⟩ : Sd) = _
    rw [e1, h3, h4, h5]; rfl
  unfold Sd.beat Sd.led
  rw [h1, h2, e1, e2]
/-- .. a crew again -/
theorem Cw.Ok.next {i : Int} (W : w.Ok) (C : c.Ok w t) (h1 : ¬ w.top < c.lvA w t i) (h2 : ¬ c.lvA w t i < 0) : (c.aft w t i).Ok w t := by
  have n0 := C.n0
  refine ⟨by show 0 ≤ c.lvA w t i; omega, by show c.lvA w t i ≤ w.top; omega, ?_, fun x hx => ?_, ?_, ?_, C.agesA_in W, ?_, fun z => ?_⟩
  · show ((pastAft c.past c.lv).length : Int) = w.lag
    rw [pastAft_length]; exact C.pl
  · have : x ∈ c.past ++ [c.lv] := List.mem_of_mem_tail hx
    rcases List.mem_append.mp this with h | h
    · exact C.pa x h
    · rw [List.mem_singleton.mp h]; exact ⟨C.lv0, C.lv1⟩
  · show 1 ≤ (c.agesA w t).length; rw [Cw.agesA_len]; exact n0
  · show (c.agesA w t).length ≤ 6; rw [Cw.agesA_len]; exact C.n1
  · show c.markA w t < (c.agesA w t).length
    rw [Cw.agesA_len]
    unfold Cw.markA
    split
    · exact Nat.mod_lt _ n0
    · exact C.ml
  · show c.markA w t = 0
    unfold Cw.markA
    rw [if_neg fun y => by rw [z] at y; exact nomatch y.1]
    exact C.mf z
end
end Lt
set_option maxHeartbeats 400000
/-! LtNA: how the laws draw (the first family). -/
namespace Lt
open PySem PySem.Spec L2
open PyProof.Rows hiding St
/-- the draws' record -/
def mA (cs gs : List PV) (k : Int) : SV := .r [("cells", .l cs), ("left", .l gs), ("at", .v (.int k))]
def naC : Loc → Rs Bool := andT (tstV (bin2 sNe (recO 0 "left") (lstO (seqP [])))) (tstV (bin2 sEq (bin2 sIx (recO 0 "left") (konst (.int 0))) (konst (.int 0))))
def naD : Loc → Rs Fl := recS 0 "left" (keepS (slO (recO 0 "left") (aPart (konst (.int 1))) noPart))
def naBig : Loc → Rs Fl := seqS (asgS 2 (keepS (callB sInt (seqO [bin2 sIx (recO 0 "left") (konst (.int 0))]))))
  (seqS (recIx 0 "left" (keepP (bin2 sFdiv (varO 2) (varO 1))) (konst (.int 0))) (retS (keepS (bin2 sMod (varO 2) (varO 1)))))
def naMix1 : Loc → Rs Fl := asgS 5 (keepS (bin2 sMul (callB sInt (seqO [bin2 sAdd (bin2 sAdd (bin2 sMod (callB sInt (seqO [varO 4])) (konst (.int 2147483629))) (bin2 sMul (konst (.int 7919)) (varO 3))) (bin2 sMul (bin2 sMul (konst (.int 19)) (varO 3)) (varO 3))])) (konst (.int 48271))))
def naMix2 : Loc → Rs Fl := asgS 5 (keepS (bin2 sMul (callB sInt (seqO [bin2 sAdd (bin2 sMod (callB sInt (seqO [varO 5])) (konst (.int 2147483647))) (bin2 sMul (konst (.int 104729)) (varO 3))])) (konst (.int 69621))))
def naEnd : Loc → Rs Fl := retS (keepS (bin2 sMod (callB sInt (seqO [bin2 sFdiv (bin2 sMod (callB sInt (seqO [varO 5])) (konst (.int 2147483587))) (konst (.int 11))])) (varO 1)))
def naCell : Loc → Rs Fl := asgS 4 (keepS (ifV (tstV (bin2 sNe (recO 0 "cells") (lstO (seqP [])))) (bin2 sIx (recO 0 "cells") (bin2 sMod (callB sInt (seqO [varO 3])) (callB sLen (seqO [recO 0 "cells"])))) (konst (.int 3))))
def naB : Loc → Rs Fl := seqS (whl naC naD fuelW) (seqS (ifS (tstV (bin2 sNe (recO 0 "left") (lstO (seqP [])))) naBig skip)
  (seqS (asgS 3 (keepS (bin2 sAdd (recO 0 "at") (konst (.int 1))))) (seqS (recS 0 "at" (keepS (varO 3))) (seqS naCell (seqS naMix1 (seqS naMix2 naEnd))))))
def nextA : F := defF 2 6 [0, 1] naB
theorem na_ne {cs gs : List PV} {k : Int} {ρ : Loc} : tstV (bin2 sNe (recO 0 "left") (lstO (seqP []))) (some (mA cs gs k) :: ρ) = .ok (!gs.isEmpty) (some (mA cs gs k) :: ρ) := by cases gs <;> rfl
theorem na_0 {cs r : List PV} {g : PV} {k : Int} {ρ : Loc} : bin2 sIx (recO 0 "left") (konst (.int 0)) (some (mA cs (g :: r) k) :: ρ) = .ok (.tm (.v g)) (some (mA cs (g :: r) k) :: ρ) := bin2_at rfl rfl rfl rfl ix0
theorem na_C {cs r : List PV} {g k : Int} {ρ : Loc} : naC (some (mA cs (.int g :: r) k) :: ρ) = .ok (g == 0) (some (mA cs (.int g :: r) k) :: ρ) := by
  unfold naC
  rw [and_at na_ne]
  refine (if_pos rfl).trans ?_
  exact tst_at (bin2_at na_0 rfl rfl rfl eqI) rfl
theorem na_D {cs r : List PV} {g : PV} {k : Int} {ρ : Loc} : naD (some (mA cs (g :: r) k) :: ρ) = .ok .nx (some (mA cs r k) :: ρ) := by
  have h : slO (recO 0 "left") (aPart (konst (.int 1))) noPart (some (mA cs (g :: r) k) :: ρ) = .ok (.tm (.l (cutP (g :: r) (some 1) none))) (some (mA cs (g :: r) k) :: ρ) := rfl
  rw [cut_tail] at h
  have := keepS_tm h
  unfold naD recS bindR
  rw [this]
  rfl
theorem na_loop {cs : List PV} {k : Int} {ρ : Loc} : ∀ (gs : List Int) (n : Nat), gs.length < n → ∃ gs' : List Int, whl naC naD n (some (mA cs (gs.map .int) k) :: ρ) = .ok .nx (some (mA cs (gs'.map .int) k) :: ρ) ∧ (∀ x ∈ gs', x ∈ gs) ∧ gs'.length ≤ gs.length
  | [], n + 1, _ => ⟨[], by
    unfold whl
    have : naC (some (mA cs ([].map .int) k) :: ρ) = .ok false (some (mA cs ([].map .int) k) :: ρ) := rfl
    rw [this], fun _ h => h, Nat.le_refl _⟩
  | g :: r, n + 1, h => by
    unfold whl
    rw [List.map_cons, na_C]
    by_cases hg : g = 0
    · obtain ⟨gs', h1, h2, h3⟩ := na_loop (cs := cs) (k := k) (ρ := ρ) r n (by simpa using h)
      refine ⟨gs', ?_, fun x hx => List.mem_cons_of_mem _ (h2 x hx), by rw [List.length_cons]; omega⟩
      rw [show (g == 0) = true by simpa using hg]
      dsimp only
      rw [na_D]
      exact h1
    · refine ⟨g :: r, ?_, fun _ h => h, Nat.le_refl _⟩
      rw [show (g == 0) = false by simpa using hg]
      rfl
theorem na_cell {cs : List Int} {gs : List PV} {k k1 : Int} {t x5 : Option SV} {x2 : Option SV} : ∃ c : Int, naCell [some (mA (cs.map .int) gs k), t, x2, some (.v (.int k1)), none, x5] = .ok .nx [some (mA (cs.map .int) gs k), t, x2, some (.v (.int k1)), some (.v (.int c)), x5] := by
  cases cs with
  | nil => exact ⟨3, rfl⟩
  | cons c0 cs =>
    obtain ⟨c, hc⟩ := atI_mod (xs := c0 :: cs) (i := k1) (List.cons_ne_nil _ _)
    refine ⟨c, ?_⟩
    unfold naCell
    have hl : callB sLen (seqO [recO 0 "cells"]) [some (mA ((c0 :: cs).map .int) gs k), t, x2, some (.v (.int k1)), none, x5] = .ok (.tm (.v (.int ((c0 :: cs).map PV.int).length))) [some (mA ((c0 :: cs).map .int) gs k), t, x2, some (.v (.int k1)), none, x5] := rfl
    rw [List.length_map] at hl
    have hm : bin2 sMod (callB sInt (seqO [varO 3])) (callB sLen (seqO [recO 0 "cells"])) [some (mA ((c0 :: cs).map .int) gs k), t, x2, some (.v (.int k1)), none, x5] = .ok (.tm (.v (.int (k1 % ((c0 :: cs).length : Int))))) [some (mA ((c0 :: cs).map .int) gs k), t, x2, some (.v (.int k1)), none, x5] :=
      bin2_at (call1_at rfl rfl rfl) hl rfl rfl (modI (by rw [List.length_cons]; omega))
    refine (asg_at (ρ1 := [some (mA ((c0 :: cs).map .int) gs k), t, x2, some (.v (.int k1)), none, x5]) (keepS_tm (s := .v (.int c)) ?_) (by show 4 < 6; decide)).trans rfl
    refine (ifV_at (b := true) (ρ1 := [some (mA ((c0 :: cs).map .int) gs k), t, x2, some (.v (.int k1)), none, x5]) (by rfl)).trans ((if_pos rfl).trans ?_)
    exact bin2_at rfl hm rfl rfl (ixL hc)
/-- a draw: below the total, the record kept in form -/
theorem nextA_ok {cs gs : List Int} {k T : Int} (hT : 0 < T) (hT2 : T < 1073741824) (hk : 0 ≤ k) (hk2 : k < 2 ^ 60) (hg : ∀ x ∈ gs, 0 ≤ x) (hl : gs.length < 2 ^ 60) :
    ∃ (r : Int) (gs' : List Int) (k' : Int), nextA [mA (cs.map .int) (gs.map .int) k, .v (.int T)] = .ok (.v (.int r)) [mA (cs.map .int) (gs'.map .int) k', .v (.int T)] ∧ 0 ≤ r ∧ r < T ∧ k ≤ k' ∧ k' ≤ k + 1 ∧ (∀ x ∈ gs', 0 ≤ x) ∧ gs'.length ≤ gs.length := by
  obtain ⟨g1, e1, m1, l1⟩ := na_loop (cs := cs.map .int) (k := k) (ρ := [some (.v (.int T)), none, none, none, none]) gs fuelW (Nat.lt_trans hl (by decide))
  have fin : ∀ {r k' : Int} {gs' : List Int} {a b c d : Option SV}, naB [some (mA (cs.map .int) (gs.map .int) k), some (.v (.int T)), none, none, none, none] = .ok (.rt (.v (.int r))) [some (mA (cs.map .int) (gs'.map .int) k'), some (.v (.int T)), a, b, c, d] →
      nextA [mA (cs.map .int) (gs.map .int) k, .v (.int T)] = .ok (.v (.int r)) [mA (cs.map .int) (gs'.map .int) k', .v (.int T)] := by
    intro r k' gs' a b c d h
    show semF 6 [0, 1] naB [mA (cs.map .int) (gs.map .int) k, .v (.int T)] = _
    unfold semF
    rw [show (List.map some [mA (cs.map .int) (gs.map .int) k, SV.v (.int T)] ++ List.replicate (6 - [mA (cs.map .int) (gs.map .int) k, SV.v (.int T)].length) none) = [some (mA (cs.map .int) (gs.map .int) k), some (.v (.int T)), none, none, none, none] from rfl, h]
    rfl
  cases g1 with
  | cons g r =>
    have hg0 : 0 ≤ g := hg g (m1 g List.mem_cons_self)
    refine ⟨g % T, (g / T) :: r, k, fin (a := some (.v (.int g))) (b := none) (c := none) (d := none) ?_, Int.emod_nonneg _ (by omega), Int.emod_lt_of_pos _ hT, Int.le_refl _, by omega, ?_, by simpa using l1⟩
    · unfold naB
      rw [seq_at e1, List.map_cons]
      refine seq_rt ?_
      rw [if_at na_ne]
      refine (if_pos rfl).trans ?_
      unfold naBig
      refine (seq_at (asg_at (keepS_tm (call1_at na_0 rfl rfl)) (by show 2 < 6; decide))).trans ?_
      have hd : keepP (bin2 sFdiv (varO 2) (varO 1)) [some (mA (cs.map .int) (.int g :: r.map .int) k), some (.v (.int T)), some (.v (.int g)), none, none, none] = .ok (.int (g / T)) [some (mA (cs.map .int) (.int g :: r.map .int) k), some (.v (.int T)), some (.v (.int g)), none, none, none] :=
        keepP_tm (bin2_at rfl rfl rfl rfl (divI ⟨hT, hT2⟩))
      have hx : recIx 0 "left" (keepP (bin2 sFdiv (varO 2) (varO 1))) (konst (.int 0)) [some (mA (cs.map .int) (.int g :: r.map .int) k), some (.v (.int T)), some (.v (.int g)), none, none, none] = .ok .nx [some (mA (cs.map .int) (.int (g / T) :: r.map .int) k), some (.v (.int T)), some (.v (.int g)), none, none, none] := by
        have hi : ixN (PV.int g :: r.map .int).length 0 = some 0 := by
          unfold ixN
          rw [if_pos (by decide), if_pos (by rw [List.length_cons]; omega)]; rfl
        unfold recIx bindR
        rw [hd]
        show (match ixN (PV.int g :: r.map .int).length 0 with | some n => _ | none => _) = _
        rw [hi]
        rfl
      refine (seq_at hx).trans (ret_at (keepS_tm (bin2_at rfl rfl rfl rfl (modI hT))))
    · intro x hx
      rcases List.mem_cons.mp hx with rfl | hx
      · exact Int.ediv_nonneg hg0 (by omega)
      · exact hg x (m1 x (List.mem_cons_of_mem _ hx))
  | nil =>
    obtain ⟨c, hc⟩ := na_cell (cs := cs) (gs := []) (k := k + 1) (k1 := k + 1) (t := some (.v (.int T))) (x5 := none) (x2 := none)
    have w1 : inW (k + 1) = true := decide_eq_true ⟨by omega, by omega⟩
    refine ⟨(((c % 2147483629 + 7919 * (k + 1) + 19 * (k + 1) * (k + 1)) * 48271 % 2147483647 + 104729 * (k + 1)) * 69621 % 2147483587 / 11) % T, [], k + 1, fin (a := none) (b := some (.v (.int (k + 1)))) (c := some (.v (.int c))) (d := some (.v (.int (((c % 2147483629 + 7919 * (k + 1) + 19 * (k + 1) * (k + 1)) * 48271 % 2147483647 + 104729 * (k + 1)) * 69621)))) ?_, Int.emod_nonneg _ (by omega), Int.emod_lt_of_pos _ hT, by omega, Int.le_refl _, (fun _ h => nomatch h), Nat.zero_le _⟩
    unfold naB
    rw [seq_at e1]
    refine (seq_at (ρ1 := [some (mA (cs.map .int) [] k), some (.v (.int T)), none, none, none, none]) (by rfl)).trans ?_
    refine (seq_at (ρ1 := [some (mA (cs.map .int) [] k), some (.v (.int T)), none, some (.v (.int (k + 1))), none, none]) (by rfl)).trans ?_
    refine (seq_at (ρ1 := [some (mA (cs.map .int) [] (k + 1)), some (.v (.int T)), none, some (.v (.int (k + 1))), none, none]) (by rfl)).trans ?_
    refine (seq_at hc).trans ?_
    have x1 : naMix1 [some (mA (cs.map .int) [] (k + 1)), some (.v (.int T)), none, some (.v (.int (k + 1))), some (.v (.int c)), none] = .ok .nx [some (mA (cs.map .int) [] (k + 1)), some (.v (.int T)), none, some (.v (.int (k + 1))), some (.v (.int c)), some (.v (.int ((c % 2147483629 + 7919 * (k + 1) + 19 * (k + 1) * (k + 1)) * 48271)))] :=
      (ev_mulR (ev_int (ev_add (ev_add (ev_mod (ev_int (ev_v rfl)) ev_k (by decide)) (ev_mulL ev_k (ev_v rfl) (by decide))) (ev_mulR (ev_mulL ev_k (ev_v rfl) (by decide)) (ev_v rfl) w1))) ev_k (by decide)).asg (by show 5 < 6; decide)
    have x2 : ∀ z : Int, naMix2 [some (mA (cs.map .int) [] (k + 1)), some (.v (.int T)), none, some (.v (.int (k + 1))), some (.v (.int c)), some (.v (.int z))] = .ok .nx [some (mA (cs.map .int) [] (k + 1)), some (.v (.int T)), none, some (.v (.int (k + 1))), some (.v (.int c)), some (.v (.int ((z % 2147483647 + 104729 * (k + 1)) * 69621)))] := fun z =>
      (ev_mulR (ev_int (ev_add (ev_mod (ev_int (ev_v rfl)) ev_k (by decide)) (ev_mulL ev_k (ev_v rfl) (by decide)))) ev_k (by decide)).asg (by show 5 < 6; decide)
    refine (seq_at x1).trans ((seq_at (x2 _)).trans ?_)
    exact (ev_mod (ev_int (ev_div (ev_mod (ev_int (ev_v rfl)) ev_k (by decide)) ev_k (by decide))) (ev_v rfl) hT).ret
/-! ### the beginning -/
def baE : Loc → Rs PV := keepP (varO 1)
def baT : Loc → Rs Bool := tstV (bin2 (sCmpI fun i j => decide (j ≤ i)) (varO 1) (bin2 sPow (konst (.int 10)) (konst (.int 18))))
def baB : Loc → Rs Fl := retS (keepS (recD ["cells", "left", "at"] (seqV [keepS (callB sList (seqO [varO 0])), keepS (lcO 2 (.nm 1) [1] (walkV (keepP (varO 0))) baT baE), keepS (konst (.int 0))])))
def begunA : F := defF 1 2 [0] baB
theorem begunA_ok {ns : List Int} (h : ns.length ≤ 63) : begunA [.v (.lst (ns.map .int))] = .ok (mA (ns.map .int) ((ns.filter fun n => decide (10 ^ 18 ≤ n)).map .int) 0) [.v (.lst (ns.map .int))] := by
  refine defF_rt (ρ := [some (.v (.lst (ns.map .int))), none]) rfl rfl (ρ' := [some (.v (.lst (ns.map .int))), none]) ?_ rfl
  have hl := lc_if (n := 2) (k := 1) (ci := walkV (keepP (varO 0))) (ct := baT) (c := baE) (ρ := [some (.v (.lst (ns.map .int))), none]) (inj := PV.int) PV.int (fun n => decide ((10 : Int) ^ 18 ≤ n)) ns rfl rfl rfl (fun x _ => ⟨(ev_2 (q := .v (.int (10 ^ 18))) (ev_v rfl) (ev_2 ev_k ev_k (by kernel_rfl)) rfl).tst, fun _ => rfl⟩) (by omega)
  unfold baB
  refine ret_at (keepS_tm (s := mA (ns.map .int) ((ns.filter fun n => decide (10 ^ 18 ≤ n)).map .int) 0) ?_)
  have h2 : seqV [keepS (callB sList (seqO [varO 0])), keepS (lcO 2 (.nm 1) [1] (walkV (keepP (varO 0))) baT baE), keepS (konst (.int 0))] [some (.v (.lst (ns.map .int))), none] = .ok [.l (ns.map .int), .l ((ns.filter fun n => decide ((10 : Int) ^ 18 ≤ n)).map .int), .v (.int 0)] [some (.v (.lst (ns.map .int))), none] := by
    rw [m_seqV, show keepS (callB sList (seqO [varO 0])) [some (.v (.lst (ns.map .int))), none] = .ok (.l (ns.map .int)) [some (.v (.lst (ns.map .int))), none] from rfl]
    dsimp only
    rw [m_seqV, keepS_tm hl]
    rfl
  unfold recD bindR
  rw [h2]
  rfl
/-- the draws' state; c: how many there were at most -/
structure DrA where
  cs : List Int
  gs : List Int
  k : Int
  c : Nat
  hk : 0 ≤ k
  hc : k ≤ c
  hg : ∀ x ∈ gs, 0 ≤ x
  hl : gs.length < 2 ^ 60
def DrA.sv (d : DrA) : SV := mA (d.cs.map .int) (d.gs.map .int) d.k
theorem DrA.ex (d : DrA) (T : Int) : ∃ x : Int × DrA, x.2.c = d.c + 1 ∧ 0 ≤ x.1 ∧ (0 < T → x.1 < T) ∧ (0 < T → T < 1073741824 → d.c < 2 ^ 59 → nextA [d.sv, .v (.int T)] = .ok (.v (.int x.1)) [x.2.sv, .v (.int T)]) := by
  by_cases h : 0 < T ∧ T < 1073741824 ∧ d.c < 2 ^ 59
  · obtain ⟨r, gs', k', h1, h2, h3, h4, h5, h6, h7⟩ := nextA_ok (cs := d.cs) (gs := d.gs) (k := d.k) h.1 h.2.1 d.hk (by have := d.hc; omega) d.hg d.hl
    have hc := d.hc; have hk := d.hk; have hl := d.hl
    exact ⟨(r, ⟨d.cs, gs', k', d.c + 1, by omega, by omega, h6, by omega⟩), rfl, h2, fun _ => h3, fun _ _ _ => h1⟩
  · have hc := d.hc
    exact ⟨(0, ⟨d.cs, d.gs, d.k, d.c + 1, d.hk, by omega, d.hg, d.hl⟩), rfl, Int.le_refl 0, fun z => z, fun a b c => absurd ⟨a, b, c⟩ h⟩
noncomputable def DrA.num (d : DrA) (T : Int) : Int := (Classical.choose (d.ex T)).1
noncomputable def DrA.nxt (d : DrA) (T : Int) : DrA := (Classical.choose (d.ex T)).2
theorem DrA.nxt_c {d : DrA} {T : Int} : (d.nxt T).c = d.c + 1 := (Classical.choose_spec (d.ex T)).1
theorem DrA.nn (d : DrA) (T : Int) : 0 ≤ d.num T := (Classical.choose_spec (d.ex T)).2.1
theorem DrA.lt (d : DrA) {T : Int} (h : 0 < T) : d.num T < T := (Classical.choose_spec (d.ex T)).2.2.1 h
theorem DrA.next {d : DrA} {T : Int} (h : 0 < T) (h2 : T < 1073741824) (h3 : d.c < 2 ^ 59) : nextA [d.sv, .v (.int T)] = .ok (.v (.int (d.num T))) [(d.nxt T).sv, .v (.int T)] := (Classical.choose_spec (d.ex T)).2.2.2 h h2 h3
/-- the first state -/
def drawnA (ns : List Int) (h : ns.length ≤ 63) : DrA := ⟨ns, ns.filter fun n => decide (10 ^ 18 ≤ n), 0, 0, Int.le_refl 0, Int.le_refl 0, great_nn, by have := List.length_filter_le (fun n => decide ((10 : Int) ^ 18 ≤ n)) ns; omega⟩
theorem begun_drA {ns : List Int} (h : ns.length ≤ 63) : begunA [.v (.lst (ns.map .int))] = .ok (drawnA ns h).sv [.v (.lst (ns.map .int))] := begunA_ok h
theorem m_tkA {ρ : Loc} {i : Nat} {d : DrA} : takeS (some (some d.sv)) ρ i = some (d.sv, ρ.set i none) := rfl
theorem m_put1A {ρ : Loc} {i : Nat} {d : DrA} {o : SV} : put1 ρ (.sl i) d.sv o = ρ.set i (some o) := rfl
end Lt
set_option maxHeartbeats 1000000
/-! LtSens: what a sensor tells. -/
namespace Lt
open PySem PySem.Spec L2
open PyProof.Rows hiding St
local macro_rules
  | `(tactic| simp_arith [$as,*]) => `(tactic| simp (disch := first | assumption | omega | decide | (simp only [List.length_cons, List.length_nil, List.length_map, List.length_append, List.length_replicate, List.length_take, List.length_drop, List.length_dropLast, List.length_tail, List.length_range, List.length_set]; omega)) only [m_seq, m_if, m_or, m_and, m_not, m_tst, m_un, m_bin, m_konst, m_tm, m_sl, m_var, m_andV, m_orV, m_ifV, m_ret, m_retM, m_keepS, m_keepP, m_skip, m_cmp, m_callB, m_callF, m_seqO, m_seqO0, m_seqP, m_seqP0, m_seqV, m_seqV0, m_par2, m_par3, m_tup, m_lst, m_asg, m_unp, m_tgn, m_tgt, m_tgm, m_met, m_isT, m_tgs, m_tgs0, m_take0, m_take, m_take1t, m_take1s, m_tkv, m_tkl, m_tkr, m_tko, m_tkd, m_put, m_put0, m_put1t, m_put1v, m_put1l, m_put1r, m_expr, m_valT, m_noP, m_aP, m_slO, m_for, m_wR1, m_wR2, m_wV, m_app, m_setO, m_rec, m_fd, m_chn, m_get0, m_get, big_of, k_neg, k_add, k_addT, k_addL, m_sub, k_mul, k_mul', k_mulT, k_mod, k_div, k_int, k_min, k_max, k_eqI, k_neI', k_eqS, k_neS, k_lenT', k_lenL, k_lenK, k_tupL, k_tupT, k_tupK, k_lisL, k_lisT, k_lisK, k_sumT, ix_0, ix_1, ix_2, ix_3, ix_4, ix_5, ix_6, ix_7, ix_8, il_0, il_1, cut_m1, cut_m2, cut_1, cut_toI, cut_fromI, cut_abI, List.drop_one, k_slT, k_slL, k_slK, k_is_ii, k_is_bi, k_is_tt, k_is_st, k_is_si, k_is_ss, k_is_ti, k_is_ts, k_non_i, k_non_n, k_non_s, k_non_t, k_nn_i, k_nn_n, k_nn_s, k_nn_t, k_isnB, k_isB, k_itT, k_itL, List.getElem?_cons_zero, List.getElem?_cons_succ, List.set_cons_zero, List.set_cons_succ, List.length_cons, List.length_nil, List.length_map, List.map_cons, List.map_nil, List.replicate, List.cons_append, List.nil_append, Nat.reduceAdd, Nat.reduceSub, Nat.reduceLT, Nat.reduceLeDiff, Int.reduceNeg, Int.reduceAdd, Int.reduceSub, Int.reduceMul, Int.reduceEq, Int.reduceLE, Int.reduceLT, Int.cast_ofNat_Int, Int.natCast_zero, Int.natCast_one, Int.reduceToNat, Int.toNat_natCast, if_true, if_false, if_pos, if_neg, eq_self, Bool.false_eq_true, Bool.not_true, Bool.not_false, Bool.true_and, Bool.and_true, Bool.false_and, Bool.and_false, Bool.true_or, Bool.or_true, Bool.and_self, Bool.or_self, Bool.false_or, Bool.or_false, decide_true, decide_false, and_self, and_true, true_and, and_false, false_and, not_true_eq_false, not_false_eq_true, $as,*])
def P.b_is_seen : Loc → Rs Fl := retS (keepS (orV (tstV (bin2 sIs (varO 1) (konst .non))) (andV (tstV (callF P.f_is_whole (seqO [varO 1, konst (.int 0), bin2 sIx (varO 0) (konst (.int 0))]))) (bin2 sEq (bin2 sMod (callB sInt (seqO [varO 1])) (bin2 sIx (varO 0) (konst (.int 7)))) (konst (.int 0))))))
def P.f_is_seen : F := defF 2 2 [0, 1] P.b_is_seen
def P.b_is_log_l1 : Loc → Rs Fl := seqS (ifS (orT (notT (tstV (un1 (sIsi "tuple") (varO 2)))) (orT (tstV (bin2 sNe (callB sLen (seqO [varO 2])) (konst (.int 2)))) (notT (tstV (callF P.f_is_whole (seqO [bin2 sIx (varO 2) (konst (.int 1)), konst (.int 0), konst (.int 50)])))))) (retS (keepS (konst (.bl false)))) (skip))
 (ifS (notT (tstV (callF P.f_is_seen (seqO [varO 0, bin2 sIx (varO 2) (konst (.int 0))])))) (retS (keepS (konst (.bl false)))) (skip))
def P.b_is_log : Loc → Rs Fl := seqS (ifS (orT (notT (tstV (un1 (sIsi "tuple") (varO 1)))) (notT (tstV (chn (sCmpI fun i j => decide (i ≤ j)) (sCmpI fun i j => decide (i ≤ j)) (konst (.int 1)) (callB sLen (seqO [varO 1])) (konst (.int 100)))))) (retS (keepS (konst (.bl false)))) (skip))
 (seqS (forS (.nm 2) (walkV (keepP (varO 1))) P.b_is_log_l1)
 (retS (keepS (konst (.bl true)))))
def P.f_is_log : F := defF 2 3 [0, 1] P.b_is_log
def P.b_need_log : Loc → Rs Fl := seqS (ifS (notT (tstV (callF P.f_is_log (seqO [callF P.f_need_well (seqO [varO 0]), varO 1])))) (raiS "OutOfPlace" none (keepP (konst (.str "no log")))) (skip))
 (ifS (orT (notT (tstV (callF P.f_is_whole (seqO [varO 2, konst (.int 0), konst (.int 300)])))) (notT (tstV (callF P.f_is_whole (seqO [varO 3, varO 2, konst (.int 300)]))))) (raiS "OutOfPlace" none (keepP (konst (.str "no bounds of inflows")))) (skip))
def P.f_need_log : F := defF 4 4 [0, 1, 2, 3] P.b_need_log
def P.b_allowed_at : Loc → Rs Fl := seqS (asgS 3 (keepS (bin2 sAdd (varO 2) (bin2 sIx (varO 0) (konst (.int 8))))))
 (seqS (ifS (orT (tstV (bin2 (sCmpI fun i j => decide (j ≤ i)) (varO 3) (callB sLen (seqO [varO 1])))) (tstV (bin2 sIs (bin2 sIx (bin2 sIx (varO 1) (varO 3)) (konst (.int 0))) (konst .non)))) (retS (keepS (tupO (seqP [keepP (konst (.int 0)), keepP (bin2 sIx (varO 0) (konst (.int 0)))])))) (skip))
 (retS (keepS (tupO (seqP [keepP (bin2 sIx (bin2 sIx (varO 1) (varO 3)) (konst (.int 0))), keepP (callB sMin (seqO [bin2 sSub (bin2 sAdd (bin2 sIx (bin2 sIx (varO 1) (varO 3)) (konst (.int 0))) (bin2 sIx (varO 0) (konst (.int 7)))) (konst (.int 1)), bin2 sIx (varO 0) (konst (.int 0))]))])))))
def P.f_allowed_at : F := defF 3 4 [0, 1, 2] P.b_allowed_at
def P.b_met : Loc → Rs Fl := seqS (parS [2, 3] (seqV [keepS (callB sMax (seqO [bin2 sIx (varO 0) (konst (.int 0)), bin2 sIx (varO 1) (konst (.int 0))])), keepS (callB sMin (seqO [bin2 sIx (varO 0) (konst (.int 1)), bin2 sIx (varO 1) (konst (.int 1))]))]))
 (retS (keepS (ifV (tstV (bin2 (sCmpI fun i j => decide (i ≤ j)) (varO 2) (varO 3))) (tupO (seqP [keepP (varO 2), keepP (varO 3)])) (konst .non))))
def P.f_met : F := defF 2 4 [0, 1] P.b_met
def P.b_forwards_l1 : Loc → Rs Fl := seqS (unpS (.tp [.nm 8, .nm 9]) (bin2 sIx (varO 4) (un1 sNeg (konst (.int 1)))))
 (seqS (asgS 10 (keepS (tupO (seqP [keepP (bin2 sSub (bin2 sAdd (varO 8) (varO 2)) (bin2 sMul (bin2 sIx (varO 0) (konst (.int 1))) (varO 7))), keepP (bin2 sSub (bin2 sAdd (varO 9) (varO 3)) (bin2 sMul (bin2 sIx (varO 0) (konst (.int 1))) (varO 7)))]))))
 (seqS (asgS 11 (keepS (callF P.f_met (seqO [varO 10, callF P.f_allowed_at (seqO [varO 0, varO 1, bin2 sAdd (varO 5) (konst (.int 1))])]))))
 (seqS (ifS (tstV (bin2 sIs (varO 11) (konst .non))) (retM 4) (skip))
 (exprS (appO 4 (keepP (varO 11)))))))
def P.b_forwards : Loc → Rs Fl := seqS (asgS 4 (keepS (lstO (seqP [keepP (callF P.f_allowed_at (seqO [varO 0, varO 1, konst (.int 0)]))]))))
 (seqS (forS (.tp [.nm 5, .tp [.nm 6, .nm 7]]) (walkE (keepP (varO 1))) P.b_forwards_l1)
 (retM 4))
def P.f_forwards : F := defF 4 12 [0, 1, 2, 3] P.b_forwards
def P.b_ranges_in_l1 : Loc → Rs Fl := seqS (unpS (.tp [.nm 6, .nm 7]) (bin2 sIx (varO 4) (bin2 sAdd (varO 5) (konst (.int 1)))))
 (seqS (asgS 8 (keepS (bin2 sMul (bin2 sIx (varO 0) (konst (.int 1))) (bin2 sIx (bin2 sIx (varO 1) (varO 5)) (konst (.int 1))))))
 (setO 4 (keepP (callF P.f_met (seqO [bin2 sIx (varO 4) (varO 5), tupO (seqP [keepP (bin2 sAdd (bin2 sSub (varO 6) (varO 3)) (varO 8)), keepP (bin2 sAdd (bin2 sSub (varO 7) (varO 2)) (varO 8))])]))) (varO 5)))
def P.b_ranges_in : Loc → Rs Fl := seqS (asgS 4 (keepS (callF P.f_forwards (seqO [varO 0, varO 1, varO 2, varO 3]))))
 (seqS (ifS (tstV (bin2 (sCmpI fun i j => decide (i ≤ j)) (callB sLen (seqO [varO 4])) (callB sLen (seqO [varO 1])))) (retS (keepS (konst .non))) (skip))
 (seqS (forS (.nm 5) (walkR3 (seqO [bin2 sSub (callB sLen (seqO [varO 1])) (konst (.int 1)), un1 sNeg (konst (.int 1)), un1 sNeg (konst (.int 1))])) P.b_ranges_in_l1)
 (retM 4)))
def P.f_ranges_in : F := defF 4 9 [0, 1, 2, 3] P.b_ranges_in
def P.b_ranges : Loc → Rs Fl := seqS (exprS (callF P.f_need_log (seqO [varO 0, varO 1, varO 2, varO 3])))
 (seqS (asgS 4 (keepS (callF P.f_ranges_in (seqO [varO 0, varO 1, varO 2, varO 3]))))
 (retS (keepS (ifV (tstV (bin2 sIs (varO 4) (konst .non))) (konst .non) (callB sTuple (seqO [varO 4]))))))
def P.f_ranges : F := defF 4 5 [0, 1, 2, 3] P.b_ranges
def P.b_fault_l1 : Loc → Rs Fl := ifS (tstV (bin2 sIs (callF P.f_ranges_in (seqO [varO 0, slO (varO 1) noPart (aPart (varO 4)), varO 2, varO 3])) (konst .non))) (retM 4) (skip)
def P.b_fault : Loc → Rs Fl := seqS (exprS (callF P.f_need_log (seqO [varO 0, varO 1, varO 2, varO 3])))
 (seqS (forS (.nm 4) (walkR2 (seqO [konst (.int 1), bin2 sAdd (callB sLen (seqO [varO 1])) (konst (.int 1))])) P.b_fault_l1)
 (retS (keepS (konst .non))))
def P.f_fault : F := defF 4 5 [0, 1, 2, 3] P.b_fault
def P.b_clear_e1 : Loc → Rs PV := keepP (varO 7)
def P.b_clear_t1 : Loc → Rs Bool := tstV (bin2 (sCmpI fun i j => decide (j < i)) (bin2 sSub (varO 9) (varO 8)) (varO 4))
def P.b_clear : Loc → Rs Fl := seqS (exprS (callF P.f_need_log (seqO [varO 0, varO 1, varO 2, varO 3])))
 (seqS (ifS (notT (tstV (callF P.f_is_whole (seqO [varO 4, konst (.int 0), konst (.int 200)])))) (raiS "OutOfPlace" none (keepP (konst (.str "no width")))) (skip))
 (seqS (asgS 5 (keepS (callF P.f_ranges_in (seqO [varO 0, varO 1, varO 2, varO 3]))))
 (seqS (ifS (orT (tstV (bin2 sIs (varO 5) (konst .non))) (tstV (bin2 (sCmpI fun i j => decide (j < i)) (bin2 sSub (bin2 sIx (bin2 sIx (varO 5) (un1 sNeg (konst (.int 1)))) (konst (.int 1))) (bin2 sIx (bin2 sIx (varO 5) (un1 sNeg (konst (.int 1)))) (konst (.int 0)))) (varO 4)))) (retS (keepS (konst .non))) (skip))
 (seqS (asgS 6 (keepS (lcO 10 (.tp [.nm 7, .tp [.nm 8, .nm 9]]) [7, 8, 9] (walkE (keepP (varO 5))) P.b_clear_t1 P.b_clear_e1)))
 (retS (keepS (ifV (tstV (bin2 sNe (varO 6) (lstO (seqP [])))) (bin2 sAdd (bin2 sIx (varO 6) (un1 sNeg (konst (.int 1)))) (konst (.int 1))) (konst (.int 0)))))))))
def P.f_clear : F := defF 5 10 [0, 1, 2, 3, 4] P.b_clear
def P.b__law_well : Loc → Rs Fl := seqS (asgS 2 (keepS (bin2 sAdd (konst (.int 2)) (callF nextA (seqO [varO 0, bin2 sSub (varO 1) (konst (.int 1))])))))
 (seqS (asgS 3 (keepS (bin2 sAdd (konst (.int 1)) (callF nextA (seqO [varO 0, varO 2])))))
 (seqS (asgS 4 (keepS (callF nextA (seqO [varO 0, varO 3]))))
 (seqS (asgS 5 (keepS (tupO (seqP [keepP (bin2 sAdd (konst (.int 1)) (callF nextA (seqO [varO 0, konst (.int 3)]))), keepP (bin2 sAdd (konst (.int 1)) (callF nextA (seqO [varO 0, konst (.int 3)]))), keepP (bin2 sAdd (konst (.int 1)) (callF nextA (seqO [varO 0, konst (.int 2)]))), keepP (bin2 sAdd (konst (.int 1)) (callF nextA (seqO [varO 0, konst (.int 2)]))), keepP (callF nextA (seqO [varO 0, konst (.int 3)]))]))))
 (retS (keepS (bin2 sAdd (tupO (seqP [keepP (varO 2), keepP (bin2 sAdd (konst (.int 1)) (callF nextA (seqO [varO 0, konst (.int 3)]))), keepP (varO 3), keepP (varO 4)])) (varO 5)))))))
def P.f__law_well : F := defF 2 6 [0, 1] P.b__law_well

/-! ### drawn wells of the first family -/
structure PitA where
  w : Well
  d : DrA
noncomputable def DrA.well (d : DrA) (top : Int) : PitA :=
  let size := 2 + d.num (top - 1)
  let d1 := d.nxt (top - 1)
  let high := 1 + d1.num size
  let d2 := d1.nxt size
  let low := d2.num high
  let d3 := d2.nxt high
  let d4 := d3.nxt 3
  let d5 := d4.nxt 3
  let d6 := d5.nxt 2
  let d7 := d6.nxt 2
  let d8 := d7.nxt 3
  ⟨⟨size, 1 + d8.num 3, high, low, 1 + d3.num 3, 1 + d4.num 3, 1 + d5.num 2, 1 + d6.num 2, d7.num 3⟩, d8.nxt 3⟩
theorem wellA_c {d : DrA} {top : Int} : (d.well top).d.c = d.c + 9 := by
  simp only [DrA.well, DrA.nxt_c]
theorem wellA_w {d : DrA} {top : Int} (h1 : 1 < top) (h2 : top ≤ 199) : (d.well top).w.Ok ∧ (d.well top).w.top ≤ top ∧ (d.well top).w.drain ≤ 3 ∧ (d.well top).w.step ≤ 2 ∧ (d.well top).w.lag ≤ 2 ∧ (d.well top).w.run ≤ 3 ∧ (d.well top).w.rest ≤ 3 ∧ (d.well top).w.starts ≤ 2 := by
  have a1 := d.nn (top - 1); have a2 := d.lt (T := top - 1) (by omega)
  unfold DrA.well
  dsimp only
  generalize d.num (top - 1) = x1 at *
  generalize d.nxt (top - 1) = d1
  have b1 := d1.nn (2 + x1); have b2 := d1.lt (T := 2 + x1) (by omega)
  generalize d1.num (2 + x1) = x2 at *
  generalize d1.nxt (2 + x1) = d2
  have c1 := d2.nn (1 + x2); have c2 := d2.lt (T := 1 + x2) (by omega)
  generalize d2.num (1 + x2) = x3 at *
  generalize d2.nxt (1 + x2) = d3
  have e1 := d3.nn 3; have e2 := d3.lt (T := 3) (by decide)
  generalize d3.num 3 = x4 at *
  generalize d3.nxt 3 = d4
  have f1 := d4.nn 3; have f2 := d4.lt (T := 3) (by decide)
  generalize d4.num 3 = x5 at *
  generalize d4.nxt 3 = d5
  have g1 := d5.nn 2; have g2 := d5.lt (T := 2) (by decide)
  generalize d5.num 2 = x6 at *
  generalize d5.nxt 2 = d6
  have i1 := d6.nn 2; have i2 := d6.lt (T := 2) (by decide)
  generalize d6.num 2 = x7 at *
  generalize d6.nxt 2 = d7
  have j1 := d7.nn 3; have j2 := d7.lt (T := 3) (by decide)
  generalize d7.num 3 = x8 at *
  generalize d7.nxt 3 = d8
  have k1 := d8.nn 3; have k2 := d8.lt (T := 3) (by decide)
  generalize d8.num 3 = x9 at *
  refine ⟨?_, by omega, by omega, by omega, by omega, by omega, by omega, by omega⟩
  constructor <;> dsimp only <;> omega
theorem wellA_ok {d : DrA} {top : Int} (h1 : 1 < top) (h2 : top ≤ 1000) (hc : d.c + 100 < 2 ^ 59) :
    P.f__law_well [d.sv, .v (.int top)] = .ok (.v (d.well top).w.p) [(d.well top).d.sv, .v (.int top)] := by
  have a1 := d.nn (top - 1); have a2 := d.lt (T := top - 1) (by omega)
  generalize ex1 : d.num (top - 1) = x1 at *
  generalize ed1 : d.nxt (top - 1) = d1 at *
  have c1 : d1.c = d.c + 1 := by rw [← ed1]; exact DrA.nxt_c
  have b1 := d1.nn (2 + x1); have b2 := d1.lt (T := 2 + x1) (by omega)
  generalize ex2 : d1.num (2 + x1) = x2 at *
  generalize ed2 : d1.nxt (2 + x1) = d2 at *
  have c2 : d2.c = d.c + 2 := by rw [← ed2, DrA.nxt_c]; omega
  generalize ex3 : d2.num (1 + x2) = x3 at *
  generalize ed3 : d2.nxt (1 + x2) = d3 at *
  have c3 : d3.c = d.c + 3 := by rw [← ed3, DrA.nxt_c]; omega
  generalize ex4 : d3.num 3 = x4 at *
  generalize ed4 : d3.nxt 3 = d4 at *
  have c4 : d4.c = d.c + 4 := by rw [← ed4, DrA.nxt_c]; omega
  generalize ex5 : d4.num 3 = x5 at *
  generalize ed5 : d4.nxt 3 = d5 at *
  have c5 : d5.c = d.c + 5 := by rw [← ed5, DrA.nxt_c]; omega
  generalize ex6 : d5.num 2 = x6 at *
  generalize ed6 : d5.nxt 2 = d6 at *
  have c6 : d6.c = d.c + 6 := by rw [← ed6, DrA.nxt_c]; omega
  generalize ex7 : d6.num 2 = x7 at *
  generalize ed7 : d6.nxt 2 = d7 at *
  have c7 : d7.c = d.c + 7 := by rw [← ed7, DrA.nxt_c]; omega
  generalize ex8 : d7.num 3 = x8 at *
  generalize ed8 : d7.nxt 3 = d8 at *
  have c8 : d8.c = d.c + 8 := by rw [← ed8, DrA.nxt_c]; omega
  generalize ex9 : d8.num 3 = x9 at *
  generalize ed9 : d8.nxt 3 = d9 at *
  have ew : d.well top = ⟨⟨2 + x1, 1 + x9, 1 + x2, x3, 1 + x4, 1 + x5, 1 + x6, 1 + x7, x8⟩, d9⟩ := by
    simp only [DrA.well, ex1, ed1, ex2, ed2, ex3, ed3, ex4, ed4, ex5, ed5, ex6, ed6, ex7, ed7, ex8, ed8, ex9, ed9]
  rw [ew]
  refine defF_rt (ρ := [some d.sv, some (.v (.int top)), none, none, none, none])
    (ρ' := [some d9.sv, some (.v (.int top)), some (.v (.int (2 + x1))), some (.v (.int (1 + x2))), some (.v (.int x3)), some (.v (.tup [.int (1 + x4), .int (1 + x5), .int (1 + x6), .int (1 + x7), .int x8]))]) rfl rfl ?_ rfl
  unfold P.b__law_well
  simp_arith [m_tkA, m_put1A, DrA.next, ex1, ed1, ex2, ed2, ex3, ed3, ex4, ed4, ex5, ed5, ex6, ed6, ex7, ed7, ex8, ed8, ex9, ed9, Well.p]
/-! ### logs -/
abbrev Pr := Option Int × Int
def prP (e : Pr) : PV := .tup [opI e.1, .int e.2]
def LogP (log : List Pr) : PV := .tup (log.map prP)
structure EntOk (w : Well) (e : Pr) : Prop where
  m0 : 0 ≤ e.2
  m1 : e.2 ≤ 50
  s : ∀ s, e.1 = some s → 0 ≤ s ∧ s ≤ w.top ∧ s % w.step = 0
def LogOk (w : Well) (log : List Pr) : Prop := ∀ e ∈ log, EntOk w e
theorem is_seen_ok {w : Well} {e : Pr} (W : w.Ok) (h : EntOk w e) : P.f_is_seen [.v w.p, .v (opI e.1)] = .ok (.v (.bl true)) [.v w.p, .v (opI e.1)] := by
  refine defF_rt (ρ' := [some (.v w.p), some (.v (opI e.1))]) rfl rfl ?_ rfl
  have h1 := W.h1
  unfold P.b_is_seen
  cases he : e.1 with
  | none => simp_arith [opI]
  | some s =>
    obtain ⟨s0, s1, s2⟩ := h.s s he
    simp_arith [opI, is_whole_int, w_0, w_7, s0, s1, s2]
theorem is_log_ok {w : Well} {log : List Pr} (W : w.Ok) (h : LogOk w log) (h1 : 0 < log.length) (h2 : log.length ≤ 100) : P.f_is_log [.v w.p, .v (LogP log)] = .ok (.v (.bl true)) [.v w.p, .v (LogP log)] := by
  obtain ⟨ρ1, hl, x2, e⟩ := forL_all (tg := .nm 2) (b := P.b_is_log_l1) (inj := prP) (fun xs ρ => (∀ e ∈ xs, EntOk w e) ∧ ∃ x2 : Option SV, ρ = [some (.v w.p), some (.v (LogP log)), x2])
    (fun e xs ρ ⟨he, x2, hρ⟩ => by
      subst hρ
      have E := he e List.mem_cons_self
      obtain ⟨m0, m1, _⟩ := id E
      refine ⟨[some (.v w.p), some (.v (LogP log)), some (.v (prP e))], [some (.v w.p), some (.v (LogP log)), some (.v (prP e))], rfl, .inl ?_, fun q hq => he q (List.mem_cons_of_mem _ hq), _, rfl⟩
      have S := is_seen_ok W E
      unfold P.b_is_log_l1
      simp_arith [prP, is_whole_int, m0, m1, S]) log [some (.v w.p), some (.v (LogP log)), none] ⟨h, none, rfl⟩
  obtain ⟨x2, e⟩ := e
  subst e
  refine defF_rt (ρ := [some (.v w.p), some (.v (LogP log)), none]) (ρ' := [some (.v w.p), some (.v (LogP log)), x2]) rfl rfl ?_ rfl
  unfold P.b_is_log
  have g1 : (1 : Int) ≤ (log.length : Int) := by omega
  have g2 : (log.length : Int) ≤ 100 := by omega
  rw [seq_at (ρ1 := [some (.v w.p), some (.v (LogP log)), none]) (by simp_arith [LogP, g1, g2])]
  rw [seq_at (ρ1 := [some (.v w.p), some (.v (LogP log)), x2]) (by simp_arith [LogP]; exact hl)]
  simp_arith []
theorem need_log_ok {w : Well} {log : List Pr} {lo hi : Int} (W : w.Ok) (h : LogOk w log) (h1 : 0 < log.length) (h2 : log.length ≤ 100) (b1 : 0 ≤ lo) (b2 : lo ≤ hi) (b3 : hi ≤ 300) :
    P.f_need_log [.v w.p, .v (LogP log), .v (.int lo), .v (.int hi)] = .ok (.v .non) [.v w.p, .v (LogP log), .v (.int lo), .v (.int hi)] := by
  refine defF_nx (ρ' := [some (.v w.p), some (.v (LogP log)), some (.v (.int lo)), some (.v (.int hi))]) rfl rfl ?_ rfl
  have b4 : lo ≤ 300 := by omega
  unfold P.b_need_log
  simp_arith [need_well_ok W, is_log_ok W h h1 h2, is_whole_int, b1, b2, b3, b4]
/-- what is allowed at a moment -/
def alw (w : Well) (log : List Pr) (k : Nat) : Int × Int := match log[k + w.lag.toNat]? with
  | some (some s, _) => (s, min (s + w.step - 1) w.top)
  | _ => (0, w.top)
def pp (b : Int × Int) : PV := .tup [.int b.1, .int b.2]
theorem at_log {log : List Pr} {i : Nat} {e : Pr} (h : log[i]? = some e) : sIx (.v (LogP log)) (.v (.int (i : Int))) = some (.v (prP e)) := k_ix (at_k (by rw [List.getElem?_map, h]; rfl))
theorem allowed_ok {w : Well} {log : List Pr} {k : Nat} (W : w.Ok) : P.f_allowed_at [.v w.p, .v (LogP log), .v (.int (k : Int))] = .ok (.v (pp (alw w log k))) [.v w.p, .v (LogP log), .v (.int (k : Int))] := by
  have i1 := W.i1
  obtain ⟨l, hl⟩ := Int.eq_ofNat_of_zero_le i1
  have hln : w.lag.toNat = l := by omega
  have e0 : (k : Int) + w.lag = ((k + l : Nat) : Int) := by omega
  refine defF_rt (ρ := [some (.v w.p), some (.v (LogP log)), some (.v (.int (k : Int))), none]) (ρ' := [some (.v w.p), some (.v (LogP log)), some (.v (.int (k : Int))), some (.v (.int ((k + l : Nat) : Int)))]) rfl rfl ?_ rfl
  unfold P.b_allowed_at alw
  rw [hln]
  have hlen : sLen [.v (LogP log)] = some (.v (.int (log.length : Int))) := by
    show some (SV.v (.int ((log.map prP).length : Int))) = _
    rw [List.length_map]
  cases he : log[k + l]? with
  | none =>
    have h1 : (log.length : Int) ≤ ((k + l : Nat) : Int) := by have := List.getElem?_eq_none_iff.mp he; omega
    simp_arith [w_8, w_0, e0, hlen, h1, pp]
  | some e =>
    have h1 : ¬ (log.length : Int) ≤ ((k + l : Nat) : Int) := by have := (List.getElem?_eq_some_iff.mp he).1; omega
    obtain ⟨s, m⟩ := e
    have ha := at_log he
    cases s with
    | none => simp_arith [w_8, w_0, e0, hlen, h1, pp, ha, prP, opI]
    | some s => simp_arith [w_8, w_0, w_7, e0, hlen, h1, pp, ha, prP, opI]
def met (x y : Int × Int) : Option (Int × Int) := if max x.1 y.1 ≤ min x.2 y.2 then some (max x.1 y.1, min x.2 y.2) else none
def opP : Option (Int × Int) → PV
  | none => .non
  | some b => pp b
theorem met_ok {x y : Int × Int} : P.f_met [.v (pp x), .v (pp y)] = .ok (.v (opP (met x y))) [.v (pp x), .v (pp y)] := by
  refine defF_rt (ρ := [some (.v (pp x)), some (.v (pp y)), none, none]) (ρ' := [some (.v (pp x)), some (.v (pp y)), some (.v (.int (max x.1 y.1))), some (.v (.int (min x.2 y.2)))]) rfl rfl ?_ rfl
  unfold P.b_met met
  by_cases h : max x.1 y.1 ≤ min x.2 y.2
  · simp_arith [pp, h, opP]
  · simp_arith [pp, h, opP]
/-- the bounds behind one, up to where there are none -/
def fw (w : Well) (log : List Pr) (lo hi : Int) : Nat → Int × Int → List Pr → List (Int × Int)
  | _, _, [] => []
  | t, b, e :: r => match met (b.1 + lo - w.drain * e.2, b.2 + hi - w.drain * e.2) (alw w log (t + 1)) with
    | none => []
    | some c => c :: fw w log lo hi (t + 1) c r
def fwd (w : Well) (log : List Pr) (lo hi : Int) : List (Int × Int) := alw w log 0 :: fw w log lo hi 0 (alw w log 0) log
theorem fw_len {w : Well} {log : List Pr} {lo hi : Int} : ∀ {r : List Pr} {t : Nat} {b : Int × Int}, (fw w log lo hi t b r).length ≤ r.length
  | [], _, _ => Nat.le_refl _
  | e :: r, t, b => by
    unfold fw
    split
    · exact Nat.zero_le _
    · rw [List.length_cons, List.length_cons]; exact Nat.succ_le_succ fw_len
def enumR (r : List Pr) (t : Nat) : List PV := (r.zipIdx t).map fun p => .tmp [.int (p.2 : Nat), prP p.1]
theorem enumR_eq {log : List Pr} : enumP (log.map prP) = enumR log 0 := by
  unfold enumP enumR
  rw [List.zipIdx_map, List.map_map]
  rfl
theorem fw_loop {w : Well} {log : List Pr} {lo hi : Int} (W : w.Ok) : ∀ (r : List Pr) (t : Nat) (acc : List (Int × Int)) (b : Int × Int) (x5 x6 x7 x8 x9 x10 x11 : Option SV), (∀ e ∈ r, EntOk w e) → acc.length + r.length ≤ 200 →
    ∃ ρ', seqS (fun ρ => forL (.tp [.nm 5, .tp [.nm 6, .nm 7]]) P.b_forwards_l1 (enumR r t) ρ) (retM 4) [some (.v w.p), some (.v (LogP log)), some (.v (.int lo)), some (.v (.int hi)), some (.l ((acc ++ [b]).map pp)), x5, x6, x7, x8, x9, x10, x11] =
      .ok (.rt (.l ((acc ++ b :: fw w log lo hi t b r).map pp))) (some (.v w.p) :: some (.v (LogP log)) :: some (.v (.int lo)) :: some (.v (.int hi)) :: ρ')
  | [], t, acc, b, x5, x6, x7, x8, x9, x10, x11, _, _ => ⟨[none, x5, x6, x7, x8, x9, x10, x11], rfl⟩
  | e :: r, t, acc, b, x5, x6, x7, x8, x9, x10, x11, he, hl => by
    rw [List.length_cons] at hl
    obtain ⟨s, m⟩ := e
    have E := he _ List.mem_cons_self
    have m0 := E.m0; have m1 := E.m1
    have b1 := W.b1; have b2 := W.b2
    dsimp only at m0 m1
    have hlast : sIx (.l ((acc ++ [b]).map pp)) (.v (.int (-1))) = some (.v (pp b)) := k_ixL (by rw [List.map_append]; exact at_last)
    have A := allowed_ok (log := log) (k := t + 1) W
    have e1 : (t : Int) + 1 = ((t + 1 : Nat) : Int) := by omega
    have hzl : ((acc ++ [b]).map pp).length < 1000000 := by simp; omega
    have M := met_ok (x := (b.1 + lo - w.drain * m, b.2 + hi - w.drain * m)) (y := alw w log (t + 1))
    have step : ∀ c, met (b.1 + lo - w.drain * m, b.2 + hi - w.drain * m) (alw w log (t + 1)) = c → P.b_forwards_l1 [some (.v w.p), some (.v (LogP log)), some (.v (.int lo)), some (.v (.int hi)), some (.l ((acc ++ [b]).map pp)), some (.v (.int (t : Int))), some (.v (opI s)), some (.v (.int m)), x8, x9, x10, x11] =
        match c with
        | none => .ok (.rt (.l ((acc ++ [b]).map pp))) [some (.v w.p), some (.v (LogP log)), some (.v (.int lo)), some (.v (.int hi)), none, some (.v (.int (t : Int))), some (.v (opI s)), some (.v (.int m)), some (.v (.int b.1)), some (.v (.int b.2)), some (.v (pp (b.1 + lo - w.drain * m, b.2 + hi - w.drain * m))), some (.v .non)]
        | some c => .ok .nx [some (.v w.p), some (.v (LogP log)), some (.v (.int lo)), some (.v (.int hi)), some (.l ((acc ++ [b] ++ [c]).map pp)), some (.v (.int (t : Int))), some (.v (opI s)), some (.v (.int m)), some (.v (.int b.1)), some (.v (.int b.2)), some (.v (pp (b.1 + lo - w.drain * m, b.2 + hi - w.drain * m))), some (.v (pp c))] := by
      intro c hc
      rw [hc] at M
      unfold P.b_forwards_l1
      generalize hxs : (acc ++ [b]).map pp = xs at *
      have hpb : pp b = .tup [.int b.1, .int b.2] := rfl
      have hnn : ∀ c, sIs (.v (pp c)) (.v .non) = some (.v (.bl false)) := fun _ => rfl
      rw [hpb] at hlast
      rw [seq_at (ρ1 := [some (.v w.p), some (.v (LogP log)), some (.v (.int lo)), some (.v (.int hi)), some (.l xs), some (.v (.int (t : Int))), some (.v (opI s)), some (.v (.int m)), some (.v (.int b.1)), some (.v (.int b.2)), x10, x11]) (by simp_arith [hlast])]
      cases c with
      | none => simp_arith [w_1, e1, A, M, opP, show ∀ i j : Int, PV.tup [.int i, .int j] = pp (i, j) from fun _ _ => rfl]
      | some c => simp_arith [w_1, e1, A, M, opP, hnn, show ∀ i j : Int, PV.tup [.int i, .int j] = pp (i, j) from fun _ _ => rfl, List.map_append, hxs]
    unfold fw
    dsimp only
    cases hc : met (b.1 + lo - w.drain * m, b.2 + hi - w.drain * m) (alw w log (t + 1)) with
    | none =>
      have S := step none hc
      refine ⟨[none, some (.v (.int (t : Int))), some (.v (opI s)), some (.v (.int m)), some (.v (.int b.1)), some (.v (.int b.2)), some (.v (pp (b.1 + lo - w.drain * m, b.2 + hi - w.drain * m))), some (.v .non)], ?_⟩
      dsimp only at S
      have hf : forL (.tp [.nm 5, .tp [.nm 6, .nm 7]]) P.b_forwards_l1 (enumR ((s, m) :: r) t) [some (.v w.p), some (.v (LogP log)), some (.v (.int lo)), some (.v (.int hi)), some (.l ((acc ++ [b]).map pp)), x5, x6, x7, x8, x9, x10, x11] = .ok (.rt (.l ((acc ++ [b]).map pp))) [some (.v w.p), some (.v (LogP log)), some (.v (.int lo)), some (.v (.int hi)), none, some (.v (.int (t : Int))), some (.v (opI s)), some (.v (.int m)), some (.v (.int b.1)), some (.v (.int b.2)), some (.v (pp (b.1 + lo - w.drain * m, b.2 + hi - w.drain * m))), some (.v .non)] := by
        show forL _ _ (.tmp [.int (t : Nat), prP (s, m)] :: enumR r (t + 1)) _ = _
        rw [forL_cons (ρ1 := [some (.v w.p), some (.v (LogP log)), some (.v (.int lo)), some (.v (.int hi)), some (.l ((acc ++ [b]).map pp)), some (.v (.int (t : Int))), some (.v (opI s)), some (.v (.int m)), x8, x9, x10, x11]) rfl, S]
      unfold seqS
      dsimp only
      rw [hf]
    | some c =>
      have S := step (some c) hc
      dsimp only at S
      obtain ⟨ρ', IH⟩ := fw_loop (log := log) (lo := lo) (hi := hi) W r (t + 1) (acc ++ [b]) c (some (.v (.int (t : Int)))) (some (.v (opI s))) (some (.v (.int m))) (some (.v (.int b.1))) (some (.v (.int b.2))) (some (.v (pp (b.1 + lo - w.drain * m, b.2 + hi - w.drain * m)))) (some (.v (pp c))) (fun q hq => he q (List.mem_cons_of_mem _ hq)) (by simp; omega)
      refine ⟨ρ', ?_⟩
      have e2 : acc ++ [b] ++ c :: fw w log lo hi (t + 1) c r = acc ++ b :: c :: fw w log lo hi (t + 1) c r := by rw [List.append_assoc, List.singleton_append]
      rw [e2] at IH
      show seqS _ _ _ = .ok (.rt (.l ((acc ++ b :: c :: fw w log lo hi (t + 1) c r).map pp))) _
      rw [← IH]
      have hf : forL (.tp [.nm 5, .tp [.nm 6, .nm 7]]) P.b_forwards_l1 (enumR ((s, m) :: r) t) [some (.v w.p), some (.v (LogP log)), some (.v (.int lo)), some (.v (.int hi)), some (.l ((acc ++ [b]).map pp)), x5, x6, x7, x8, x9, x10, x11] = forL (.tp [.nm 5, .tp [.nm 6, .nm 7]]) P.b_forwards_l1 (enumR r (t + 1)) [some (.v w.p), some (.v (LogP log)), some (.v (.int lo)), some (.v (.int hi)), some (.l ((acc ++ [b] ++ [c]).map pp)), some (.v (.int (t : Int))), some (.v (opI s)), some (.v (.int m)), some (.v (.int b.1)), some (.v (.int b.2)), some (.v (pp (b.1 + lo - w.drain * m, b.2 + hi - w.drain * m))), some (.v (pp c))] := by
        show forL _ _ (.tmp [.int (t : Nat), prP (s, m)] :: enumR r (t + 1)) _ = _
        rw [forL_cons (ρ1 := [some (.v w.p), some (.v (LogP log)), some (.v (.int lo)), some (.v (.int hi)), some (.l ((acc ++ [b]).map pp)), some (.v (.int (t : Int))), some (.v (opI s)), some (.v (.int m)), x8, x9, x10, x11]) rfl, S]
      unfold seqS
      dsimp only
      rw [hf]
end Lt
set_option maxHeartbeats 1000000
/-! LtCwA: the law's own pumps (first family) -/
namespace Lt
open PySem PySem.Spec L2
open PyProof.Rows hiding St
local macro_rules
  | `(tactic| simp_arith [$as,*]) => `(tactic| simp (disch := first | assumption | omega | decide | (simp only [List.length_cons, List.length_nil, List.length_map, List.length_append, List.length_replicate, List.length_take, List.length_drop, List.length_dropLast, List.length_tail, List.length_range, List.length_set]; omega)) only [m_seq, m_if, m_or, m_and, m_not, m_tst, m_un, m_bin, m_konst, m_tm, m_sl, m_var, m_andV, m_orV, m_ifV, m_ret, m_retM, m_keepS, m_keepP, m_skip, m_cmp, m_callB, m_callF, m_seqO, m_seqO0, m_seqP, m_seqP0, m_seqV, m_seqV0, m_par2, m_par3, m_tup, m_lst, m_asg, m_unp, m_tgn, m_tgt, m_tgm, m_met, m_isT, m_tgs, m_tgs0, m_take0, m_take, m_take1t, m_take1s, m_tkv, m_tkl, m_tkr, m_tko, m_tkd, m_put, m_put0, m_put1t, m_put1v, m_put1l, m_put1r, m_expr, m_valT, m_noP, m_aP, m_slO, m_for, m_wR1, m_wR2, m_wV, m_app, m_setO, m_rec, m_fd, m_chn, m_get0, m_get, big_of, k_neg, k_add, k_addT, k_addL, m_sub, k_mul, k_mul', k_mulT, k_mod, k_div, k_int, k_min, k_max, k_eqI, k_neI', k_eqS, k_neS, k_lenT', k_lenL, k_lenK, k_tupL, k_tupT, k_tupK, k_lisL, k_lisT, k_lisK, k_sumT, ix_0, ix_1, ix_2, ix_3, ix_4, ix_5, ix_6, ix_7, ix_8, il_0, il_1, cut_m1, cut_m2, cut_1, cut_toI, cut_fromI, cut_abI, List.drop_one, k_slT, k_slL, k_slK, k_is_ii, k_is_bi, k_is_tt, k_is_st, k_is_si, k_is_ss, k_is_ti, k_is_ts, k_non_i, k_non_n, k_non_s, k_non_t, k_nn_i, k_nn_n, k_nn_s, k_nn_t, k_isnB, k_isB, k_itT, k_itL, List.getElem?_cons_zero, List.getElem?_cons_succ, List.set_cons_zero, List.set_cons_succ, List.length_cons, List.length_nil, List.length_map, List.map_cons, List.map_nil, List.replicate, List.cons_append, List.nil_append, Nat.reduceAdd, Nat.reduceSub, Nat.reduceLT, Nat.reduceLeDiff, Int.reduceNeg, Int.reduceAdd, Int.reduceSub, Int.reduceMul, Int.reduceEq, Int.reduceLE, Int.reduceLT, Int.cast_ofNat_Int, Int.natCast_zero, Int.natCast_one, Int.reduceToNat, Int.toNat_natCast, if_true, if_false, if_pos, if_neg, eq_self, Bool.false_eq_true, Bool.not_true, Bool.not_false, Bool.true_and, Bool.and_true, Bool.false_and, Bool.and_false, Bool.true_or, Bool.or_true, Bool.and_self, Bool.or_self, Bool.false_or, Bool.or_false, decide_true, decide_false, and_self, and_true, true_and, and_false, false_and, not_true_eq_false, not_false_eq_true, $as,*])
def A.b_law_turned_e1 : Loc → Rs PV := keepP (varO 10)
def A.b_law_turned_t1 : Loc → Rs Bool := tstV (bin2 sEq (bin2 sIx (varO 5) (varO 10)) (bin2 sSub (konst (.int 0)) (bin2 sIx (varO 0) (konst (.int 5)))))
def A.b_law_turned_e2 : Loc → Rs PV := keepP (varO 10)
def A.b_law_turned_t2 : Loc → Rs Bool := tstV (bin2 sEq (bin2 sIx (varO 5) (varO 10)) (bin2 sIx (varO 0) (konst (.int 4))))
def A.b_law_turned : Loc → Rs Fl := seqS (unpS (.tp [.nm 3, .nm 4, .nm 5, .nm 6]) (varO 2))
 (seqS (asgS 7 (keepS (ifV (tstV (bin2 (sCmpI fun i j => decide (j < i)) (bin2 sIx (varO 0) (konst (.int 8))) (konst (.int 0)))) (bin2 sIx (varO 4) (konst (.int 0))) (varO 3))))
 (seqS (asgS 7 (keepS (bin2 sSub (varO 7) (bin2 sMod (callB sInt (seqO [varO 7])) (bin2 sIx (varO 0) (konst (.int 7)))))))
 (seqS (asgS 8 (keepS (un1 (sRg1 true) (callB sLen (seqO [varO 5])))))
 (seqS (ifS (tstV (bin2 (sCmpI fun i j => decide (j ≤ i)) (varO 7) (bin2 sIx (varO 0) (konst (.int 2))))) (seqS (asgS 9 (keepS (ifV (tstV (bin2 sEq (varO 1) (konst (.str "turns")))) (bin2 sAdd (slO (varO 8) (aPart (varO 6)) noPart) (slO (varO 8) noPart (aPart (varO 6)))) (varO 8))))
 (retS (keepS (tupO (seqP [keepP (slO (lcO 11 (.nm 10) [10] (walkV (keepP (varO 9))) A.b_law_turned_t1 A.b_law_turned_e1) noPart (aPart (bin2 sIx (varO 0) (konst (.int 6))))), keepP (lstO (seqP []))]))))) (skip))
 (retS (keepS (tupO (seqP [keepP (lstO (seqP [])), keepP (ifV (tstV (bin2 (sCmpI fun i j => decide (i ≤ j)) (varO 7) (bin2 sIx (varO 0) (konst (.int 3))))) (lcO 11 (.nm 10) [10] (walkV (keepP (varO 8))) A.b_law_turned_t2 A.b_law_turned_e2) (lstO (seqP [])))]))))))))
def A.f_law_turned : F := defF 3 11 [0, 1, 2] A.b_law_turned
def A.b_law_beat_l1 : Loc → Rs Fl := ifS (tstV (bin2 sIn (varO 11) (varO 8))) (exprS (appO 10 (keepP (konst (.int 1))))) (ifS (tstV (bin2 sIn (varO 11) (varO 9))) (exprS (appO 10 (keepP (un1 sNeg (konst (.int 1)))))) (exprS (appO 10 (keepP (ifV (tstV (bin2 (sCmpI fun i j => decide (j < i)) (varO 12) (konst (.int 0)))) (callB sMin (seqO [bin2 sIx (varO 0) (konst (.int 4)), bin2 sAdd (varO 12) (konst (.int 1))])) (callB sMax (seqO [bin2 sSub (konst (.int 0)) (bin2 sIx (varO 0) (konst (.int 5))), bin2 sSub (varO 12) (konst (.int 1))])))))))
def A.b_law_beat_e1 : Loc → Rs PV := keepP (varO 11)
def A.b_law_beat_t1 : Loc → Rs Bool := tstV (bin2 (sCmpI fun i j => decide (j < i)) (bin2 sIx (varO 10) (varO 11)) (konst (.int 0)))
def A.b_law_beat : Loc → Rs Fl := seqS (unpS (.tp [.nm 4, .nm 5, .nm 6, .nm 7]) (varO 2))
 (seqS (unpS (.tp [.nm 8, .nm 9]) (callF A.f_law_turned (seqO [varO 0, varO 1, varO 2])))
 (seqS (asgS 10 (keepS (lstO (seqP []))))
 (seqS (forS (.tp [.nm 11, .nm 12]) (walkE (keepP (varO 6))) A.b_law_beat_l1)
 (seqS (asgS 13 (keepS (lcO 16 (.nm 11) [11] (walkR1 (seqO [callB sLen (seqO [varO 6])])) A.b_law_beat_t1 A.b_law_beat_e1)))
 (seqS (asgS 14 (keepS (bin2 sSub (bin2 sAdd (varO 4) (varO 3)) (bin2 sMul (bin2 sIx (varO 0) (konst (.int 1))) (callB sLen (seqO [varO 13]))))))
 (seqS (ifS (andT (tstV (bin2 sEq (varO 1) (konst (.str "turns")))) (tstV (bin2 sNe (varO 8) (lstO (seqP []))))) (asgS 7 (keepS (bin2 sMod (callB sInt (seqO [bin2 sAdd (bin2 sIx (varO 8) (un1 sNeg (konst (.int 1)))) (konst (.int 1))])) (callB sLen (seqO [varO 6]))))) (skip))
 (seqS (asgS 15 (keepS (tupO (seqP [keepP (varO 14), keepP (ifV (tstV (bin2 (sCmpI fun i j => decide (j < i)) (bin2 sIx (varO 0) (konst (.int 8))) (konst (.int 0)))) (bin2 sAdd (slO (varO 5) (aPart (konst (.int 1))) noPart) (tupO (seqP [keepP (varO 4)]))) (tupO (seqP []))), keepP (callB sTuple (seqO [varO 10])), keepP (varO 7)]))))
 (seqS (ifS (tstV (bin2 (sCmpI fun i j => decide (j < i)) (varO 14) (bin2 sIx (varO 0) (konst (.int 0))))) (asgS 15 (keepS (konst (.str "over")))) (ifS (tstV (bin2 (sCmpI fun i j => decide (i < j)) (varO 14) (konst (.int 0)))) (asgS 15 (keepS (konst (.str "dry")))) (skip)))
 (retS (keepS (tupO (seqP [keepP (varO 15), keepP (callB sTuple (seqO [varO 13])), keepP (callB sTuple (seqO [callB sSorted (seqO [varO 8])]))]))))))))))))
def A.f_law_beat : F := defF 4 16 [0, 1, 2, 3] A.b_law_beat
def A.b_law_first : Loc → Rs Fl := retS (keepS (tupO (seqP [keepP (varO 2), keepP (bin2 sMul (tupO (seqP [keepP (varO 2)])) (bin2 sIx (varO 0) (konst (.int 8)))), keepP (bin2 sMul (tupO (seqP [keepP (bin2 sSub (konst (.int 0)) (bin2 sIx (varO 0) (konst (.int 5))))])) (varO 1)), keepP (konst (.int 0))])))
def A.f_law_first : F := defF 3 3 [0, 1, 2] A.b_law_first
def A.b_law_crew_l1 : Loc → Rs Fl := seqS (asgS 6 (keepS (callF nextA (seqO [varO 0, bin2 sAdd (bin2 sIx (varO 1) (konst (.int 4))) (bin2 sIx (varO 1) (konst (.int 5)))]))))
 (exprS (appO 4 (keepP (ifV (tstV (bin2 (sCmpI fun i j => decide (i < j)) (varO 6) (bin2 sIx (varO 1) (konst (.int 4))))) (bin2 sAdd (varO 6) (konst (.int 1))) (bin2 sSub (bin2 sSub (bin2 sIx (varO 1) (konst (.int 4))) (varO 6)) (konst (.int 1)))))))
def A.b_law_crew_e1 : Loc → Rs PV := keepP (callF nextA (seqO [varO 0, bin2 sAdd (bin2 sIx (varO 1) (konst (.int 0))) (konst (.int 1))]))
def A.b_law_crew : Loc → Rs Fl := seqS (asgS 4 (keepS (lstO (seqP []))))
 (seqS (forS (.nm 5) (walkR1 (seqO [bin2 sAdd (konst (.int 1)) (callF nextA (seqO [varO 0, varO 3]))])) A.b_law_crew_l1)
 (seqS (asgS 7 (keepS (callB sTuple (seqO [lcO 9 (.nm 5) [5] (walkR1 (seqO [bin2 sIx (varO 1) (konst (.int 8))])) yesT A.b_law_crew_e1]))))
 (seqS (asgS 8 (keepS (ifV (tstV (bin2 sEq (varO 2) (konst (.str "turns")))) (callF nextA (seqO [varO 0, callB sLen (seqO [varO 4])])) (konst (.int 0)))))
 (retS (keepS (tupO (seqP [keepP (callF nextA (seqO [varO 0, bin2 sAdd (bin2 sIx (varO 1) (konst (.int 0))) (konst (.int 1))])), keepP (varO 7), keepP (callB sTuple (seqO [varO 4])), keepP (varO 8)])))))))
def A.f_law_crew : F := defF 4 9 [0, 1, 2, 3] A.b_law_crew
section
variable {w : Well} {c : Cw} {t : Bool}
theorem first_law_ok {n : Nat} {lv : Int} (W : w.Ok) (h2 : n ≤ 6) : A.f_law_first [.v w.p, .v (.int (n : Nat)), .v (.int lv)] = .ok (.v (Cw.first w n lv).p) [.v w.p, .v (.int (n : Nat)), .v (.int lv)] := by
  refine defF_rt (ρ' := [some (.v w.p), some (.v (.int (n : Nat))), some (.v (.int lv))]) rfl rfl ?_ rfl
  unfold A.b_law_first
  have a1 := W.i1; have a2 := W.i2
  simp_arith [w_5, w_8]
  rw [show (0 : Int) - w.rest = -w.rest by omega]
  unfold Cw.first Cw.p
  rw [List.map_replicate, List.map_replicate]
  rfl
/-- those that stop -/
def Cw.ends (w : Well) (c : Cw) : List Nat := if c.low w then (List.range c.ages.length).filter fun k => decide (c.ages.getD k 0 = w.run) else []
theorem seen_low (W : w.Ok) (h : w.on ≤ w.seen c.lv c.past) : ¬ c.low w := by have := W.d2; unfold Cw.low; omega
theorem rg_nat {n : Nat} (h : n ≤ 1000) : sRg1 true (.v (.int (n : Nat))) = some (.l ((List.range n).map natP)) := by
  unfold sRg1
  have : rgOk 0 ((n : Nat) : Int) = true := by unfold rgOk; rw [decide_eq_true_eq]; omega
  dsimp only
  rw [this, if_pos rfl, range_map]
  rfl
theorem turned_ok (W : w.Ok) (C : c.Ok w t) : A.f_law_turned [.v w.p, .v (ruP t), .v c.p] = .ok (.v (.tup [.lst ((c.begs w t).map natP), .lst ((c.ends w).map natP)])) [.v w.p, .v (ruP t), .v c.p] := by
  have h0 := C.n0; have h1 := C.n1; have h5 := C.pl; have g1 := W.g1; have j1 := W.h1; have i1 := W.i1; have ml := C.ml
  have hseen : w.seen c.lv c.past = (if 0 < w.lag then c.past.headD 0 else c.lv) - (if 0 < w.lag then c.past.headD 0 else c.lv) % w.step := rfl
  have pre : ∀ rest : Loc → Rs Fl, seqS (unpS (.tp [.nm 3, .nm 4, .nm 5, .nm 6]) (varO 2))
      (seqS (asgS 7 (keepS (ifV (tstV (bin2 (sCmpI fun i j => decide (j < i)) (bin2 sIx (varO 0) (konst (.int 8))) (konst (.int 0)))) (bin2 sIx (varO 4) (konst (.int 0))) (varO 3))))
      (seqS (asgS 7 (keepS (bin2 sSub (varO 7) (bin2 sMod (callB sInt (seqO [varO 7])) (bin2 sIx (varO 0) (konst (.int 7))))))) rest)) [some (.v w.p), some (.v (ruP t)), some (.v c.p), none, none, none, none, none, none, none, none] = rest [some (.v w.p), some (.v (ruP t)), some (.v c.p), some (.v (.int c.lv)), some (.v (.tup (c.past.map .int))), some (.v (.tup (c.ages.map .int))), some (.v (.int (c.mark : Nat))), some (.v (.int (w.seen c.lv c.past))), none, none, none] := by
    intro rest
    by_cases hl : 0 < w.lag
    · have e : c.past.headD 0 - c.past.headD 0 % w.step = w.seen c.lv c.past := by rw [hseen, if_pos hl]
      have hx : sIx (.v (.tup (c.past.map .int))) (.v (.int 0)) = some (.v (.int (c.past.headD 0))) := by
        cases hp : c.past with
        | nil => rw [hp] at h5; simp at h5; omega
        | cons a r => rw [List.map_cons]; exact ix_0
      simp_arith [c_tg, w_8, decide_eq_true hl, hx, w_7, e]
    · have e : c.lv - c.lv % w.step = w.seen c.lv c.past := by rw [hseen, if_neg hl]
      simp_arith [c_tg, w_8, decide_eq_false hl, w_7, e]
  by_cases hs : w.seen c.lv c.past < w.on
  · by_cases hlo : c.low w
    · have hlo' : w.seen c.lv c.past ≤ w.off := hlo
      have hlc := lc_tg (n := 11) (tg := .nm 10) (vs := [10]) (ci := walkV (keepP (varO 8))) (ct := A.b_law_turned_t2) (c := A.b_law_turned_e2)
        (ρ0 := [some (.v w.p), some (.v (ruP t)), some (.v c.p), some (.v (.int c.lv)), some (.v (.tup (c.past.map .int))), some (.v (.tup (c.ages.map .int))), some (.v (.int (c.mark : Nat))), some (.v (.int (w.seen c.lv c.past))), some (.l ((List.range c.ages.length).map natP)), none, none]) (ρ := [some (.v w.p), some (.v (ruP t)), some (.v c.p), some (.v (.int c.lv)), some (.v (.tup (c.past.map .int))), some (.v (.tup (c.ages.map .int))), some (.v (.int (c.mark : Nat))), some (.v (.int (w.seen c.lv c.past))), some (.v (.lst ((List.range c.ages.length).map natP))), none, none])
        (inj := natP) (fun k => [some (.v w.p), some (.v (ruP t)), some (.v c.p), some (.v (.int c.lv)), some (.v (.tup (c.past.map .int))), some (.v (.tup (c.ages.map .int))), some (.v (.int (c.mark : Nat))), some (.v (.int (w.seen c.lv c.past))), some (.v (.lst ((List.range c.ages.length).map natP))), none, some (.v (natP k))]) natP (fun k => decide (c.ages.getD k 0 = w.run)) (List.range c.ages.length) rfl rfl rfl rfl (fun k hk => ⟨rfl, rfl, by
          unfold A.b_law_turned_t2
          have := List.mem_range.mp hk
          simp_arith [ixNat, w_4], fun _ => rfl⟩) (by rw [List.length_range]; omega)
      refine defF_rt (ρ' := [some (.v w.p), some (.v (ruP t)), some (.v c.p), some (.v (.int c.lv)), some (.v (.tup (c.past.map .int))), some (.v (.tup (c.ages.map .int))), some (.v (.int (c.mark : Nat))), some (.v (.int (w.seen c.lv c.past))), some (.v (.lst ((List.range c.ages.length).map natP))), none, none]) rfl rfl ?_ rfl
      unfold A.b_law_turned
      have he : c.ends w = (List.range c.ages.length).filter fun k => decide (c.ages.getD k 0 = w.run) := by unfold Cw.ends; rw [if_pos hlo]
      have hb : c.begs w t = [] := by unfold Cw.begs; rw [if_pos hs]
      refine (pre _).trans ?_
      simp_arith [rg_nat, w_2, w_3, decide_eq_false (show ¬ w.on ≤ w.seen c.lv c.past by omega), decide_eq_true hlo', hlc, he, hb]
    · have hlo' : ¬ w.seen c.lv c.past ≤ w.off := hlo
      refine defF_rt (ρ' := [some (.v w.p), some (.v (ruP t)), some (.v c.p), some (.v (.int c.lv)), some (.v (.tup (c.past.map .int))), some (.v (.tup (c.ages.map .int))), some (.v (.int (c.mark : Nat))), some (.v (.int (w.seen c.lv c.past))), some (.l ((List.range c.ages.length).map natP)), none, none]) rfl rfl ?_ rfl
      unfold A.b_law_turned
      have he : c.ends w = [] := by unfold Cw.ends; rw [if_neg hlo]
      have hb : c.begs w t = [] := by unfold Cw.begs; rw [if_pos hs]
      refine (pre _).trans ?_
      simp_arith [rg_nat, w_2, w_3, decide_eq_false (show ¬ w.on ≤ w.seen c.lv c.past by omega), decide_eq_false hlo', he, hb]
  · have hon : w.on ≤ w.seen c.lv c.past := by omega
    have he : c.ends w = [] := by unfold Cw.ends; rw [if_neg (seen_low W hon)]
    have hb : c.begs w t = ((c.order t).filter fun k => decide (c.ages.getD k 0 = -w.rest)).take w.starts.toNat := by unfold Cw.begs; rw [if_neg hs]
    have step : ∀ (ρ0 : Loc) (o8 : Option SV), ρ0.length = 11 → walkV (keepP (varO 9)) ρ0 = .ok ((c.order t).map natP) [some (.v w.p), some (.v (ruP t)), some (.v c.p), some (.v (.int c.lv)), some (.v (.tup (c.past.map .int))), some (.v (.tup (c.ages.map .int))), some (.v (.int (c.mark : Nat))), some (.v (.int (w.seen c.lv c.past))), o8, some (.v (.lst ((c.order t).map natP))), none] →
        lcO 11 (.nm 10) [10] (walkV (keepP (varO 9))) A.b_law_turned_t1 A.b_law_turned_e1 ρ0 = .ok (.tm (.l (((c.order t).filter fun k => decide (c.ages.getD k 0 = -w.rest)).map natP))) [some (.v w.p), some (.v (ruP t)), some (.v c.p), some (.v (.int c.lv)), some (.v (.tup (c.past.map .int))), some (.v (.tup (c.ages.map .int))), some (.v (.int (c.mark : Nat))), some (.v (.int (w.seen c.lv c.past))), o8, some (.v (.lst ((c.order t).map natP))), none] := fun ρ0 o8 hl hw =>
      lc_tg (n := 11) (tg := .nm 10) (vs := [10]) (inj := natP) (fun k => [some (.v w.p), some (.v (ruP t)), some (.v c.p), some (.v (.int c.lv)), some (.v (.tup (c.past.map .int))), some (.v (.tup (c.ages.map .int))), some (.v (.int (c.mark : Nat))), some (.v (.int (w.seen c.lv c.past))), o8, some (.v (.lst ((c.order t).map natP))), some (.v (natP k))]) natP (fun k => decide (c.ages.getD k 0 = -w.rest)) (c.order t) hl rfl rfl hw (fun k hk => ⟨rfl, rfl, by
          unfold A.b_law_turned_t1
          have := C.order_lt k hk
          simp_arith [ixNat, w_5]
          rw [show (0 : Int) - w.rest = -w.rest by omega], fun _ => rfl⟩) (by rw [Cw.order_len]; omega)
    cases t with
    | true =>
      have ho : ((List.range c.ages.length).map natP).drop c.mark ++ ((List.range c.ages.length).map natP).take c.mark = (c.order true).map natP := by
        rw [show c.order true = _ from order_rot ml, List.map_append, List.map_drop, List.map_take]
      have hlc := step [some (.v w.p), some (.v (ruP true)), some (.v c.p), some (.v (.int c.lv)), some (.v (.tup (c.past.map .int))), some (.v (.tup (c.ages.map .int))), some (.v (.int (c.mark : Nat))), some (.v (.int (w.seen c.lv c.past))), some (.l ((List.range c.ages.length).map natP)), some (.l ((c.order true).map natP)), none] (some (.l ((List.range c.ages.length).map natP))) rfl rfl
      refine defF_rt (ρ' := [some (.v w.p), some (.v (ruP true)), some (.v c.p), some (.v (.int c.lv)), some (.v (.tup (c.past.map .int))), some (.v (.tup (c.ages.map .int))), some (.v (.int (c.mark : Nat))), some (.v (.int (w.seen c.lv c.past))), some (.l ((List.range c.ages.length).map natP)), some (.v (.lst ((c.order true).map natP))), none]) rfl rfl ?_ rfl
      unfold A.b_law_turned
      refine (pre _).trans ?_
      simp_arith [rg_nat, w_2, w_6, decide_eq_true hon, ru_eq, ho, hlc, he, hb, List.map_take]
    | false =>
      have ho : (List.range c.ages.length).map natP = (c.order false).map natP := rfl
      have hlc := step [some (.v w.p), some (.v (ruP false)), some (.v c.p), some (.v (.int c.lv)), some (.v (.tup (c.past.map .int))), some (.v (.tup (c.ages.map .int))), some (.v (.int (c.mark : Nat))), some (.v (.int (w.seen c.lv c.past))), some (.v (.lst ((c.order false).map natP))), some (.v (.lst ((c.order false).map natP))), none] (some (.v (.lst ((c.order false).map natP)))) rfl rfl
      refine defF_rt (ρ' := [some (.v w.p), some (.v (ruP false)), some (.v c.p), some (.v (.int c.lv)), some (.v (.tup (c.past.map .int))), some (.v (.tup (c.ages.map .int))), some (.v (.int (c.mark : Nat))), some (.v (.int (w.seen c.lv c.past))), some (.v (.lst ((c.order false).map natP))), some (.v (.lst ((c.order false).map natP))), none]) rfl rfl ?_ rfl
      unfold A.b_law_turned
      refine (pre _).trans ?_
      simp_arith [rg_nat, ho, w_2, w_6, decide_eq_true hon, ru_eq, hlc, he, hb, List.map_take]
/-! ### the law's own beat -/
theorem zipIdx_getD {l : List Int} : l.zipIdx = (List.range l.length).map fun k => (l.getD k 0, k) := by
  apply List.ext_getElem?
  intro i
  rw [List.getElem?_map, List.getElem?_zipIdx]
  by_cases h : i < l.length
  · rw [List.getElem?_range h, List.getElem?_eq_getElem h, Option.map_some, Option.map_some, List.getD_eq_getElem?_getD, List.getElem?_eq_getElem h, Nat.zero_add]; rfl
  · rw [List.getElem?_eq_none (by omega), List.getElem?_eq_none (by rw [List.length_range]; omega)]; rfl
theorem Cw.runs_eq : c.runs w t = (List.range c.ages.length).filter fun k => decide (0 < (c.agesA w t).getD k 0) := by
  unfold Cw.runs
  rw [zipIdx_getD, List.filter_map, List.map_map, Cw.agesA_len]
  show List.map (fun k => k) _ = _
  rw [List.map_id'']
  · rfl
  · exact fun _ => rfl
theorem Cw.runs_len : (c.runs w t).length = c.many w t := by
  unfold Cw.runs Cw.many
  rw [List.length_map]
  have a := sm_filter (q := fun p : Int × Nat => decide (0 < p.1)) (l := (c.agesA w t).zipIdx)
  have b := sm_filter (q := fun a : Int => decide (0 < a)) (l := c.agesA w t)
  have e : sm (c.agesA w t).zipIdx (fun p => mk1 (decide (0 < p.1) = true)) = sm (c.agesA w t) (fun a => mk1 (decide (0 < a) = true)) := by
    conv => rhs; rw [← zipIdx_fst (l := c.agesA w t), sm_map]
  omega
theorem Cw.Ok.past_eq (C : c.Ok w t) (h : 0 < w.lag) : c.past.tail ++ [c.lv] = pastAft c.past c.lv := by
  have := C.pl
  unfold pastAft
  cases hp : c.past with
  | nil => rw [hp] at this; simp at this; omega
  | cons a r => rfl
theorem Cw.Ok.past_nil (C : c.Ok w t) (W : w.Ok) (h : ¬ 0 < w.lag) : pastAft c.past c.lv = [] := by
  have := C.pl; have := W.i1
  have e : c.past = [] := List.eq_nil_of_length_eq_zero (by omega)
  unfold pastAft; rw [e]; rfl
theorem in_nat {k : Nat} {ks : List Nat} (hk : k < 1000) (h : ∀ j ∈ ks, j < 1000) (hl : ks.length ≤ 1000) : sIn (.v (.int (k : Nat))) (.v (.lst (ks.map natP))) = some (.v (.bl (decide (k ∈ ks)))) := by
  rw [natP_map, k_inK (by omega) (fun i hi => by
    obtain ⟨j, hj, rfl⟩ := List.mem_map.mp hi
    have := h j hj; omega) (by rw [List.length_map]; omega)]
  congr 3
  by_cases z : k ∈ ks
  · rw [decide_eq_true z, decide_eq_true (List.mem_map.mpr ⟨_, z, rfl⟩)]
  · rw [decide_eq_false z, decide_eq_false fun h => by
      obtain ⟨j, hj, e⟩ := List.mem_map.mp h
      exact z (by rw [show k = j by omega]; exact hj)]
theorem Cw.ends_iff {k : Nat} (hk : k < c.ages.length) : k ∈ c.ends w ↔ c.low w ∧ c.ages.getD k 0 = w.run := by
  unfold Cw.ends
  by_cases h : c.low w
  · rw [if_pos h, List.mem_filter, List.mem_range, decide_eq_true_eq]; exact ⟨fun z => ⟨h, z.2⟩, fun z => ⟨hk, z.2⟩⟩
  · rw [if_neg h]; exact ⟨(fun z => nomatch z), fun z => (h z.1).elim⟩
theorem ixL_nat {is : List Int} {k : Nat} (h : k < is.length) : sIx (.l (is.map .int)) (.v (.int (k : Nat))) = some (.v (.int (is.getD k 0))) := by
  refine k_ixL ?_
  rw [at_k (x := PV.int (is.getD k 0))]
  rw [List.getElem?_map, List.getD_eq_getElem?_getD, List.getElem?_eq_getElem h]; rfl
theorem begs_neK : sNe (.v (.lst ((c.begs w t).map natP))) (.l []) = some (.v (.bl (decide (c.begs w t ≠ [])))) := by
  cases h : c.begs w t <;> rfl
theorem begs_lastK (h : c.begs w t ≠ []) : sIx (.v (.lst ((c.begs w t).map natP))) (.v (.int (-1))) = some (.v (natP ((c.begs w t).getLastD 0))) :=
  k_ixK (at_m1 (List.length_pos_iff.mpr h))
theorem sorted_natK {ks : List Nat} : sSorted [.v (.lst (ks.map natP))] = some (.l ((sortI (ks.map fun (k : Nat) => (k : Int))).map .int)) := sorted_nat
theorem law_beat_ok {i : Int} (W : w.Ok) (C : c.Ok w t) : A.f_law_beat [.v w.p, .v (ruP t), .v c.p, .v (.int i)] = .ok (.v (.tup [c.beat w t i, .tup ((c.runs w t).map natP), .tup ((sortI ((c.begs w t).map fun (k : Nat) => (k : Int))).map .int)])) [.v w.p, .v (ruP t), .v c.p, .v (.int i)] := by
  have h0 := C.n0; have h1 := C.n1; have b1 := W.b1; have b2 := W.b2; have i2 := W.i2; have pl := C.pl
  have hbl := Cw.begs_len (w := w) (t := t) (c := c)
  have hlt := C.begs_lt
  have hel : ∀ j ∈ c.ends w, j < c.ages.length := fun j hj => by
    unfold Cw.ends at hj
    split at hj
    · exact List.mem_range.mp (List.mem_filter.mp hj).1
    · cases hj
  have hell : (c.ends w).length ≤ c.ages.length := by
    unfold Cw.ends
    split
    · exact Nat.le_trans (List.length_filter_le _ _) (by rw [List.length_range]; exact Nat.le_refl _)
    · exact Nat.zero_le _
  obtain ⟨ρ', hl, acc, o1, o2, e1, e2, _, f1⟩ := forL_all (tg := .tp [.nm 11, .nm 12]) (b := A.b_law_beat_l1) (inj := fun p : Int × Nat => PV.tmp [.int (p.2 : Nat), .int p.1])
    (fun rest ρ => ∃ (acc : List Int) (o1 o2 : Option SV), ρ = [some (.v w.p), some (.v (ruP t)), some (.v c.p), some (.v (.int i)), some (.v (.int c.lv)), some (.v (.tup (c.past.map .int))), some (.v (.tup (c.ages.map .int))), some (.v (.int (c.mark : Nat))), some (.v (.lst ((c.begs w t).map natP))), some (.v (.lst ((c.ends w).map natP))), some (.l (acc.map .int)), o1, o2, none, none, none] ∧ acc ++ rest.map (c.aged w t) = c.agesA w t ∧ (∀ x ∈ rest, x.2 < c.ages.length ∧ c.ages.getD x.2 0 = x.1) ∧ freeV (some o1) = true)
    (fun x xs ρ ⟨acc, o1, o2, e1, e2, e3, f1⟩ => by
      subst e1
      have hal : acc.length + xs.length + 1 = c.ages.length := by
        have := congrArg List.length e2
        rw [Cw.agesA_len, List.length_append, List.map_cons, List.length_cons, List.length_map] at this
        omega
      obtain ⟨hx2, hx3⟩ := e3 x List.mem_cons_self
      refine ⟨_, [some (.v w.p), some (.v (ruP t)), some (.v c.p), some (.v (.int i)), some (.v (.int c.lv)), some (.v (.tup (c.past.map .int))), some (.v (.tup (c.ages.map .int))), some (.v (.int (c.mark : Nat))), some (.v (.lst ((c.begs w t).map natP))), some (.v (.lst ((c.ends w).map natP))), some (.l ((acc ++ [c.aged w t x]).map .int)), some (.v (.int (x.2 : Nat))), some (.v (.int x.1)), none, none, none], rfl, .inl ?_, acc ++ [c.aged w t x], _, _, rfl, by rw [List.append_assoc]; exact e2, fun y hy => e3 y (List.mem_cons_of_mem _ hy), rfl⟩
      have hin : sIn (.v (.int (x.2 : Nat))) (.v (.lst ((c.begs w t).map natP))) = some (.v (.bl (decide (x.2 ∈ c.begs w t)))) := in_nat (by omega) (fun j hj => by have := hlt j hj; omega) (by omega)
      have hie : sIn (.v (.int (x.2 : Nat))) (.v (.lst ((c.ends w).map natP))) = some (.v (.bl (decide (x.2 ∈ c.ends w)))) := in_nat (by omega) (fun j hj => by have := hel j hj; omega) (by omega)
      have hei := Cw.ends_iff (w := w) (c := c) hx2
      rw [hx3] at hei
      unfold A.b_law_beat_l1
      have hac : (acc.map PV.int).length < 1000000 := by rw [List.length_map]; omega
      have e1' := W.e1
      by_cases z1 : x.2 ∈ c.begs w t
      · have ev : c.aged w t x = 1 := by unfold Cw.aged; rw [if_pos z1]
        simp_arith [hin, decide_eq_true z1, ev, hac, List.map_append]
      · by_cases z2 : x.2 ∈ c.ends w
        · obtain ⟨y1, y2⟩ := hei.mp z2
          have ev : c.aged w t x = -1 := by unfold Cw.aged; rw [if_neg z1, if_pos (by omega), if_pos ⟨y1, y2⟩]
          simp_arith [hin, hie, decide_eq_false z1, decide_eq_true z2, ev, hac, List.map_append]
        · by_cases z3 : 0 < x.1
          · have ev : c.aged w t x = min w.run (x.1 + 1) := by unfold Cw.aged; rw [if_neg z1, if_pos z3, if_neg fun z => z2 (hei.mpr z), Int.min_comm]
            simp_arith [hin, hie, decide_eq_false z1, decide_eq_false z2, decide_eq_true z3, w_4, ev, hac, List.map_append]
          · have ev : c.aged w t x = max (0 - w.rest) (x.1 - 1) := by unfold Cw.aged; rw [if_neg z1, if_neg z3, Int.max_comm, show (0 : Int) - w.rest = -w.rest by omega]
            simp_arith [hin, hie, decide_eq_false z1, decide_eq_false z2, decide_eq_false z3, w_5, ev, hac, List.map_append])
    c.ages.zipIdx _ ⟨[], none, none, rfl, rfl, fun x hx => by
      obtain ⟨_, y2, y3⟩ := List.mem_zipIdx hx
      simp only [Nat.zero_add, Nat.sub_zero] at y2 y3
      exact ⟨y2, by rw [List.getD_eq_getElem?_getD, List.getElem?_eq_getElem y2, y3]; rfl⟩, rfl⟩
  rw [List.map_nil, List.append_nil] at e2
  subst e1 e2
  rw [List.map_nil] at hl
  have hw : walkE (keepP (varO 6)) [some (.v w.p), some (.v (ruP t)), some (.v c.p), some (.v (.int i)), some (.v (.int c.lv)), some (.v (.tup (c.past.map .int))), some (.v (.tup (c.ages.map .int))), some (.v (.int (c.mark : Nat))), some (.v (.lst ((c.begs w t).map natP))), some (.v (.lst ((c.ends w).map natP))), some (.l []), none, none, none, none, none] = .ok (c.ages.zipIdx.map fun p => PV.tmp [.int (p.2 : Nat), .int p.1]) [some (.v w.p), some (.v (ruP t)), some (.v c.p), some (.v (.int i)), some (.v (.int c.lv)), some (.v (.tup (c.past.map .int))), some (.v (.tup (c.ages.map .int))), some (.v (.int (c.mark : Nat))), some (.v (.lst ((c.begs w t).map natP))), some (.v (.lst ((c.ends w).map natP))), some (.l []), none, none, none, none, none] := by
    rw [← enumP_ints]; exact k_wE rfl
  have hlc := lc_if (n := 16) (k := 11) (ci := walkR1 (seqO [callB sLen (seqO [varO 6])])) (ct := A.b_law_beat_t1) (c := A.b_law_beat_e1) (ρ := [some (.v w.p), some (.v (ruP t)), some (.v c.p), some (.v (.int i)), some (.v (.int c.lv)), some (.v (.tup (c.past.map .int))), some (.v (.tup (c.ages.map .int))), some (.v (.int (c.mark : Nat))), some (.v (.lst ((c.begs w t).map natP))), some (.v (.lst ((c.ends w).map natP))), some (.l ((c.agesA w t).map .int)), o1, o2, none, none, none])
    (inj := natP) natP (fun k => decide (0 < (c.agesA w t).getD k 0)) (List.range c.ages.length) rfl f1 (by simp_arith [range_map]) (fun k hk => ⟨by
      unfold A.b_law_beat_t1
      have := List.mem_range.mp hk
      have hl2 : k < (c.agesA w t).length := by rw [Cw.agesA_len]; exact this
      simp_arith [ixL_nat hl2], fun _ => rfl⟩) (by rw [List.length_range]; omega)
  rw [← Cw.runs_eq] at hlc
  have hrl : ((c.runs w t).map natP).length = c.many w t := by rw [List.length_map, Cw.runs_len]
  have hlv : c.lv + i - w.drain * (c.many w t : Nat) = c.lvA w t i := rfl
  have pre : ∀ rest : Loc → Rs Fl, seqS (ifS (andT (tstV (bin2 sEq (varO 1) (konst (.str "turns")))) (tstV (bin2 sNe (varO 8) (lstO (seqP []))))) (asgS 7 (keepS (bin2 sMod (callB sInt (seqO [bin2 sAdd (bin2 sIx (varO 8) (un1 sNeg (konst (.int 1)))) (konst (.int 1))])) (callB sLen (seqO [varO 6]))))) (skip)) rest [some (.v w.p), some (.v (ruP t)), some (.v c.p), some (.v (.int i)), some (.v (.int c.lv)), some (.v (.tup (c.past.map .int))), some (.v (.tup (c.ages.map .int))), some (.v (.int (c.mark : Nat))), some (.v (.lst ((c.begs w t).map natP))), some (.v (.lst ((c.ends w).map natP))), some (.l ((c.agesA w t).map .int)), o1, o2, some (.l ((c.runs w t).map natP)), some (.v (.int (c.lvA w t i))), none] = rest [some (.v w.p), some (.v (ruP t)), some (.v c.p), some (.v (.int i)), some (.v (.int c.lv)), some (.v (.tup (c.past.map .int))), some (.v (.tup (c.ages.map .int))), some (.v (.int (c.markA w t : Nat))), some (.v (.lst ((c.begs w t).map natP))), some (.v (.lst ((c.ends w).map natP))), some (.l ((c.agesA w t).map .int)), o1, o2, some (.l ((c.runs w t).map natP)), some (.v (.int (c.lvA w t i))), none] := by
    intro rest
    cases t with
    | true =>
      by_cases z3 : c.begs w true = []
      · have hm : c.markA w true = c.mark := by unfold Cw.markA; rw [if_neg fun z => z.2 z3]
        rw [hm]
        simp_arith [ru_eq, begs_neK, decide_eq_false (show ¬ c.begs w true ≠ [] from fun z => z z3)]
      · have hm : (((c.begs w true).getLastD 0 : Nat) + 1 : Int) % (c.ages.length : Nat) = ((c.markA w true : Nat) : Int) := by
          unfold Cw.markA; rw [if_pos ⟨rfl, z3⟩, Int.natCast_emod]; rfl
        simp_arith [ru_eq, begs_neK, begs_lastK z3, decide_eq_true (show c.begs w true ≠ [] from z3), hm]
    | false =>
      have hm : c.markA w false = c.mark := by unfold Cw.markA; rw [if_neg fun z => nomatch z.1]
      rw [hm]
      simp_arith [ru_eq]
  have mid : ∀ rest : Loc → Rs Fl, seqS (asgS 15 (keepS (tupO (seqP [keepP (varO 14), keepP (ifV (tstV (bin2 (sCmpI fun i j => decide (j < i)) (bin2 sIx (varO 0) (konst (.int 8))) (konst (.int 0)))) (bin2 sAdd (slO (varO 5) (aPart (konst (.int 1))) noPart) (tupO (seqP [keepP (varO 4)]))) (tupO (seqP []))), keepP (callB sTuple (seqO [varO 10])), keepP (varO 7)])))) rest [some (.v w.p), some (.v (ruP t)), some (.v c.p), some (.v (.int i)), some (.v (.int c.lv)), some (.v (.tup (c.past.map .int))), some (.v (.tup (c.ages.map .int))), some (.v (.int (c.markA w t : Nat))), some (.v (.lst ((c.begs w t).map natP))), some (.v (.lst ((c.ends w).map natP))), some (.l ((c.agesA w t).map .int)), o1, o2, some (.l ((c.runs w t).map natP)), some (.v (.int (c.lvA w t i))), none] = rest [some (.v w.p), some (.v (ruP t)), some (.v c.p), some (.v (.int i)), some (.v (.int c.lv)), some (.v (.tup (c.past.map .int))), some (.v (.tup (c.ages.map .int))), some (.v (.int (c.markA w t : Nat))), some (.v (.lst ((c.begs w t).map natP))), some (.v (.lst ((c.ends w).map natP))), some (.l ((c.agesA w t).map .int)), o1, o2, some (.l ((c.runs w t).map natP)), some (.v (.int (c.lvA w t i))), some (.v (c.aft w t i).p)] := by
    intro rest
    by_cases hlag : 0 < w.lag
    · have e : (c.past.map PV.int).tail ++ [PV.int c.lv] = (pastAft c.past c.lv).map .int := by rw [← C.past_eq hlag, List.map_append, List.map_tail]; rfl
      have hfin : PV.tup [.int (c.lvA w t i), .tup ((pastAft c.past c.lv).map .int), .tup ((c.agesA w t).map .int), .int (c.markA w t : Nat)] = (c.aft w t i).p := rfl
      simp_arith [w_8, decide_eq_true hlag, e, hfin]
    · have hfin : PV.tup [.int (c.lvA w t i), .tup [], .tup ((c.agesA w t).map .int), .int (c.markA w t : Nat)] = (c.aft w t i).p := by
        show _ = PV.tup [.int (c.lvA w t i), .tup ((pastAft c.past c.lv).map .int), .tup ((c.agesA w t).map .int), .int (c.markA w t : Nat)]
        rw [C.past_nil W hlag]; rfl
      simp_arith [w_8, decide_eq_false hlag, hfin]
  refine defF_rt (ρ' := [some (.v w.p), some (.v (ruP t)), some (.v c.p), some (.v (.int i)), some (.v (.int c.lv)), some (.v (.tup (c.past.map .int))), some (.v (.tup (c.ages.map .int))), some (.v (.int (c.markA w t : Nat))), some (.v (.lst ((c.begs w t).map natP))), some (.v (.lst ((c.ends w).map natP))), some (.l ((c.agesA w t).map .int)), o1, o2, some (.l ((c.runs w t).map natP)), some (.v (.int (c.lvA w t i))), some (.v (c.beat w t i))]) rfl rfl ?_ rfl
  have p1 : ∀ rest : Loc → Rs Fl, seqS (unpS (.tp [.nm 4, .nm 5, .nm 6, .nm 7]) (varO 2))
      (seqS (unpS (.tp [.nm 8, .nm 9]) (callF A.f_law_turned (seqO [varO 0, varO 1, varO 2])))
      (seqS (asgS 10 (keepS (lstO (seqP []))))
      (seqS (forS (.tp [.nm 11, .nm 12]) (walkE (keepP (varO 6))) A.b_law_beat_l1)
      (seqS (asgS 13 (keepS (lcO 16 (.nm 11) [11] (walkR1 (seqO [callB sLen (seqO [varO 6])])) A.b_law_beat_t1 A.b_law_beat_e1)))
      (seqS (asgS 14 (keepS (bin2 sSub (bin2 sAdd (varO 4) (varO 3)) (bin2 sMul (bin2 sIx (varO 0) (konst (.int 1))) (callB sLen (seqO [varO 13])))))) rest))))) [some (.v w.p), some (.v (ruP t)), some (.v c.p), some (.v (.int i)), none, none, none, none, none, none, none, none, none, none, none, none] = rest [some (.v w.p), some (.v (ruP t)), some (.v c.p), some (.v (.int i)), some (.v (.int c.lv)), some (.v (.tup (c.past.map .int))), some (.v (.tup (c.ages.map .int))), some (.v (.int (c.mark : Nat))), some (.v (.lst ((c.begs w t).map natP))), some (.v (.lst ((c.ends w).map natP))), some (.l ((c.agesA w t).map .int)), o1, o2, some (.l ((c.runs w t).map natP)), some (.v (.int (c.lvA w t i))), none] := by
    intro rest
    simp_arith [c_tg, turned_ok W C, hw, hl, hlc, hrl, w_1, hlv]
  unfold A.b_law_beat
  refine (p1 _).trans ((pre _).trans ((mid _).trans ?_))
  unfold Cw.beat
  by_cases z1 : w.top < c.lvA w t i
  · simp_arith [w_0, decide_eq_true z1, z1, sorted_natK]
  · by_cases z2 : c.lvA w t i < 0
    · simp_arith [w_0, decide_eq_false z1, decide_eq_true z2, z1, z2, sorted_natK]
    · simp_arith [w_0, decide_eq_false z1, decide_eq_false z2, z1, z2, sorted_natK]
end
end Lt
set_option maxHeartbeats 1000000
/-! LtCwD: drawn crews -/
namespace Lt
open PySem PySem.Spec L2
open PyProof.Rows hiding St
local macro_rules
  | `(tactic| simp_arith [$as,*]) => `(tactic| simp (disch := first | assumption | omega | decide | (simp only [List.length_cons, List.length_nil, List.length_map, List.length_append, List.length_replicate, List.length_take, List.length_drop, List.length_dropLast, List.length_tail, List.length_range, List.length_set]; omega)) only [m_seq, m_if, m_or, m_and, m_not, m_tst, m_un, m_bin, m_konst, m_tm, m_sl, m_var, m_andV, m_orV, m_ifV, m_ret, m_retM, m_keepS, m_keepP, m_skip, m_cmp, m_callB, m_callF, m_seqO, m_seqO0, m_seqP, m_seqP0, m_seqV, m_seqV0, m_par2, m_par3, m_tup, m_lst, m_asg, m_unp, m_tgn, m_tgt, m_tgm, m_met, m_isT, m_tgs, m_tgs0, m_take0, m_take, m_take1t, m_take1s, m_tkv, m_tkl, m_tkr, m_tko, m_tkd, m_put, m_put0, m_put1t, m_put1v, m_put1l, m_put1r, m_expr, m_valT, m_noP, m_aP, m_slO, m_for, m_wR1, m_wR2, m_wV, m_app, m_setO, m_rec, m_fd, m_chn, m_get0, m_get, big_of, k_neg, k_add, k_addT, k_addL, m_sub, k_mul, k_mul', k_mulT, k_mod, k_div, k_int, k_min, k_max, k_eqI, k_neI', k_eqS, k_neS, k_lenT', k_lenL, k_lenK, k_tupL, k_tupT, k_tupK, k_lisL, k_lisT, k_lisK, k_sumT, ix_0, ix_1, ix_2, ix_3, ix_4, ix_5, ix_6, ix_7, ix_8, il_0, il_1, cut_m1, cut_m2, cut_1, cut_toI, cut_fromI, cut_abI, List.drop_one, k_slT, k_slL, k_slK, k_is_ii, k_is_bi, k_is_tt, k_is_st, k_is_si, k_is_ss, k_is_ti, k_is_ts, k_non_i, k_non_n, k_non_s, k_non_t, k_nn_i, k_nn_n, k_nn_s, k_nn_t, k_isnB, k_isB, k_itT, k_itL, List.getElem?_cons_zero, List.getElem?_cons_succ, List.set_cons_zero, List.set_cons_succ, List.length_cons, List.length_nil, List.length_map, List.map_cons, List.map_nil, List.replicate, List.cons_append, List.nil_append, Nat.reduceAdd, Nat.reduceSub, Nat.reduceLT, Nat.reduceLeDiff, Int.reduceNeg, Int.reduceAdd, Int.reduceSub, Int.reduceMul, Int.reduceEq, Int.reduceLE, Int.reduceLT, Int.cast_ofNat_Int, Int.natCast_zero, Int.natCast_one, Int.reduceToNat, Int.toNat_natCast, if_true, if_false, if_pos, if_neg, eq_self, Bool.false_eq_true, Bool.not_true, Bool.not_false, Bool.true_and, Bool.and_true, Bool.false_and, Bool.and_false, Bool.true_or, Bool.or_true, Bool.and_self, Bool.or_self, Bool.false_or, Bool.or_false, decide_true, decide_false, and_self, and_true, true_and, and_false, false_and, not_true_eq_false, not_false_eq_true, $as,*])
section
variable {w : Well} {t : Bool}
theorem crew_l1 {d : DrA} {n : Int} {acc : List Int} {x5 x6 x7 x8 : Option SV} {k : Int} (W : w.Ok) (hc : d.c < 2 ^ 59) (hl : acc.length < 1000) :
    A.b_law_crew_l1 [some d.sv, some (.v w.p), some (.v (ruP t)), some (.v (.int n)), some (.l (acc.map .int)), some (.v (.int k)), x6, x7, x8] =
      .ok .nx [some (d.nxt (w.run + w.rest)).sv, some (.v w.p), some (.v (ruP t)), some (.v (.int n)), some (.l ((acc ++ [if d.num (w.run + w.rest) < w.run then d.num (w.run + w.rest) + 1 else w.run - d.num (w.run + w.rest) - 1]).map .int)), some (.v (.int k)), some (.v (.int (d.num (w.run + w.rest)))), x7, x8] := by
  have e1 := W.e1; have e2 := W.e2; have f1 := W.f1; have f2 := W.f2
  have hac : (acc.map PV.int).length < 1000000 := by rw [List.length_map]; omega
  unfold A.b_law_crew_l1
  by_cases h : d.num (w.run + w.rest) < w.run
  · simp_arith [w_4, w_5, m_tkA, m_put1A, DrA.next, decide_eq_true h, h, hac, List.map_append]
  · simp_arith [w_4, w_5, m_tkA, m_put1A, DrA.next, decide_eq_false h, h, hac, List.map_append]
theorem law_crew_ok {d : DrA} {n : Int} (W : w.Ok) (h1 : 1 ≤ n) (h2 : n ≤ 6) (hc : d.c + 100 < 2 ^ 59) :
    ∃ (c : Cw) (d' : DrA), A.f_law_crew [d.sv, .v w.p, .v (ruP t), .v (.int n)] = .ok (.v c.p) [d'.sv, .v w.p, .v (ruP t), .v (.int n)] ∧ c.Ok w t ∧ d'.c ≤ d.c + 20 := by
  obtain ⟨a1, a2, b1, b2, c1, c2, d1, d2', e1, e2, f1, f2, g1, g2, j1, j2, i1, i2⟩ := id W
  have m1 := d.nn n; have m2 := d.lt (T := n) (by omega)
  obtain ⟨ρ1, hl, I1⟩ := forL_all (tg := .nm 5) (b := A.b_law_crew_l1) (inj := fun i : Nat => PV.int (i : Int)) (fun xs ρ => ∃ (d' : DrA) (acc : List Int) (x5 x6 : Option SV), freeV (some x5) = true ∧ ρ = [some d'.sv, some (.v w.p), some (.v (ruP t)), some (.v (.int n)), some (.l (acc.map .int)), x5, x6, none, none] ∧ d'.c + xs.length = d.c + 1 + (1 + d.num n).toNat ∧ acc.length + xs.length = (1 + d.num n).toNat ∧ (∀ x ∈ acc, -w.rest ≤ x ∧ x ≤ w.run ∧ x ≠ 0))
    (fun x xs ρ ⟨d', acc, x5, x6, hx5, e, k1, k2, k3⟩ => by
      subst e
      rw [List.length_cons] at k1 k2
      have n1 := d'.nn (w.run + w.rest); have n2 := d'.lt (T := w.run + w.rest) (by omega)
      refine ⟨_, _, rfl, .inl (crew_l1 (x5 := x5) W (by omega) (by omega)), _, _, _, _, by rfl, rfl, ?_, ?_, ?_⟩
      · rw [DrA.nxt_c]; omega
      · rw [List.length_append, List.length_singleton]; omega
      · intro y hy
        rcases List.mem_append.mp hy with hy | hy
        · exact k3 y hy
        · rw [List.mem_singleton.mp hy]; split <;> omega)
    (List.range (1 + d.num n).toNat) [some (d.nxt n).sv, some (.v w.p), some (.v (ruP t)), some (.v (.int n)), some (.l []), none, none, none, none]
    ⟨d.nxt n, [], none, none, rfl, rfl, by rw [List.length_range, DrA.nxt_c], by rw [List.length_range]; simp, (fun _ h => nomatch h)⟩
  obtain ⟨d', acc, x5, x6, hx5, e, k1, k2, k3⟩ := I1
  rw [List.length_nil, Nat.add_zero] at k1 k2
  obtain ⟨hp, hpc⟩ := lc_acc (n := 9) (k := 5) (ci := walkR1 (seqO [bin2 sIx (varO 1) (konst (.int 8))])) (c := A.b_law_crew_e1) (inj := fun i : Nat => PV.int (i : Int)) (o := x5) (fun q : DrA => [some q.sv, some (.v w.p), some (.v (ruP t)), some (.v (.int n)), some (.l (acc.map .int)), x5, x6, none, none]) d' (List.range w.lag.toNat) (fun q _ => q.nxt (w.top + 1)) (fun q _ => .int (q.num (w.top + 1)))
    (fun q n => q.c + n ≤ d.c + 15) rfl (fun _ => rfl) hx5 (by simp_arith [w_8, range_map]) (by rw [List.length_range]; omega)
    (fun q x n hq => ⟨by unfold A.b_law_crew_e1; simp_arith [w_0, m_tkA, m_put1A, DrA.next], by rw [DrA.nxt_c]; omega⟩) (by rw [List.length_range]; omega)
  generalize hD : (List.range w.lag.toNat).foldl (fun (q : DrA) _ => q.nxt (w.top + 1)) d' = d2 at hp hpc
  have key : ∀ (ys : List Nat) (q : DrA), ∃ ps : List Int, mapAcc (fun (q : DrA) (_ : Nat) => q.nxt (w.top + 1)) (fun q _ => PV.int (q.num (w.top + 1))) q ys = ps.map .int ∧ ps.length = ys.length ∧ ∀ x ∈ ps, 0 ≤ x ∧ x ≤ w.top := by
    intro ys
    induction ys with
    | nil => exact fun _ => ⟨[], rfl, rfl, fun _ h => nomatch h⟩
    | cons y ys ih =>
      intro q
      obtain ⟨ps, q1, q2, q3⟩ := ih (q.nxt (w.top + 1))
      refine ⟨q.num (w.top + 1) :: ps, by unfold mapAcc; rw [q1]; rfl, by rw [List.length_cons, List.length_cons, q2], fun x hx => ?_⟩
      rcases List.mem_cons.mp hx with rfl | hx
      · have := q.nn (w.top + 1); have := q.lt (T := w.top + 1) (by omega); omega
      · exact q3 x hx
  obtain ⟨ps, hps, q2, q3⟩ := key (List.range w.lag.toNat) d'
  rw [List.length_range] at q2
  rw [hps] at hp
  have n1 := d2.nn (w.top + 1); have n2 := d2.lt (T := w.top + 1) (by omega)
  have hlen : acc.length = (1 + d.num n).toNat := k2
  have hal : ((acc.map PV.int).length : Int) = acc.length := by rw [List.length_map]
  cases t with
  | true =>
    have r1 := d2.nn (acc.length : Nat); have r2 := d2.lt (T := (acc.length : Nat)) (by omega)
    have s1 := (d2.nxt (acc.length : Nat)).nn (w.top + 1); have s2 := (d2.nxt (acc.length : Nat)).lt (T := w.top + 1) (by omega)
    have hcc : (d2.nxt (acc.length : Nat)).c = d2.c + 1 := DrA.nxt_c
    refine ⟨⟨(d2.nxt (acc.length : Nat)).num (w.top + 1), ps, acc, (d2.num (acc.length : Nat)).toNat⟩, (d2.nxt (acc.length : Nat)).nxt (w.top + 1), ?_, ⟨s1, by dsimp only; omega, by dsimp only; omega, q3, by dsimp only; omega, by dsimp only; omega, k3, by dsimp only; omega, fun z => nomatch z⟩, by rw [DrA.nxt_c, DrA.nxt_c]; omega⟩
    refine defF_rt (ρ := [some d.sv, some (.v w.p), some (.v (ruP true)), some (.v (.int n)), none, none, none, none, none])
      (ρ' := [some ((d2.nxt (acc.length : Nat)).nxt (w.top + 1)).sv, some (.v w.p), some (.v (ruP true)), some (.v (.int n)), some (.l (acc.map .int)), x5, x6, some (.v (.tup (ps.map .int))), some (.v (.int (d2.num (acc.length : Nat))))]) rfl rfl ?_ rfl
    unfold A.b_law_crew
    rw [seq_at (ρ1 := [some d.sv, some (.v w.p), some (.v (ruP true)), some (.v (.int n)), some (.l []), none, none, none, none]) (by simp_arith [m_lst])]
    rw [seq_at (ρ1 := ρ1) (by simp_arith [m_tkA, m_put1A, DrA.next, range_map]; exact hl)]
    subst e
    rw [seq_at (ρ1 := [some d2.sv, some (.v w.p), some (.v (ruP true)), some (.v (.int n)), some (.l (acc.map .int)), x5, x6, some (.v (.tup (ps.map .int))), none]) (by simp_arith [hp])]
    have hm : ((d2.num (acc.length : Nat)).toNat : Int) = d2.num (acc.length : Nat) := by omega
    simp_arith [ru_eq, w_0, m_tkA, m_put1A, DrA.next, Cw.p, hm]
  | false =>
    refine ⟨⟨d2.num (w.top + 1), ps, acc, 0⟩, d2.nxt (w.top + 1), ?_, ⟨n1, by dsimp only; omega, by dsimp only; omega, q3, by dsimp only; omega, by dsimp only; omega, k3, by dsimp only; omega, fun _ => rfl⟩, by rw [DrA.nxt_c]; omega⟩
    refine defF_rt (ρ := [some d.sv, some (.v w.p), some (.v (ruP false)), some (.v (.int n)), none, none, none, none, none])
      (ρ' := [some (d2.nxt (w.top + 1)).sv, some (.v w.p), some (.v (ruP false)), some (.v (.int n)), some (.l (acc.map .int)), x5, x6, some (.v (.tup (ps.map .int))), some (.v (.int 0))]) rfl rfl ?_ rfl
    unfold A.b_law_crew
    rw [seq_at (ρ1 := [some d.sv, some (.v w.p), some (.v (ruP false)), some (.v (.int n)), some (.l []), none, none, none, none]) (by simp_arith [m_lst])]
    rw [seq_at (ρ1 := ρ1) (by simp_arith [m_tkA, m_put1A, DrA.next, range_map]; exact hl)]
    subst e
    rw [seq_at (ρ1 := [some d2.sv, some (.v w.p), some (.v (ruP false)), some (.v (.int n)), some (.l (acc.map .int)), x5, x6, some (.v (.tup (ps.map .int))), none]) (by simp_arith [hp])]
    simp_arith [ru_eq, w_0, m_tkA, m_put1A, DrA.next, Cw.p]
end
end Lt
set_option maxHeartbeats 1000000
/-! LtCwF: crews: totals, shown -/
namespace Lt
open PySem PySem.Spec L2
open PyProof.Rows hiding St
local macro_rules
  | `(tactic| simp_arith [$as,*]) => `(tactic| simp (disch := first | assumption | omega | decide | (simp only [List.length_cons, List.length_nil, List.length_map, List.length_append, List.length_replicate, List.length_take, List.length_drop, List.length_dropLast, List.length_tail, List.length_range, List.length_set]; omega)) only [m_seq, m_if, m_or, m_and, m_not, m_tst, m_un, m_bin, m_konst, m_tm, m_sl, m_var, m_andV, m_orV, m_ifV, m_ret, m_retM, m_keepS, m_keepP, m_skip, m_cmp, m_callB, m_callF, m_seqO, m_seqO0, m_seqP, m_seqP0, m_seqV, m_seqV0, m_par2, m_par3, m_tup, m_lst, m_asg, m_unp, m_tgn, m_tgt, m_tgm, m_met, m_isT, m_tgs, m_tgs0, m_take0, m_take, m_take1t, m_take1s, m_tkv, m_tkl, m_tkr, m_tko, m_tkd, m_put, m_put0, m_put1t, m_put1v, m_put1l, m_put1r, m_expr, m_valT, m_noP, m_aP, m_slO, m_for, m_wR1, m_wR2, m_wV, m_app, m_setO, m_rec, m_fd, m_chn, m_get0, m_get, big_of, k_neg, k_add, k_addT, k_addL, m_sub, k_mul, k_mul', k_mulT, k_mod, k_div, k_int, k_min, k_max, k_eqI, k_neI', k_eqS, k_neS, k_lenT', k_lenL, k_lenK, k_tupL, k_tupT, k_tupK, k_lisL, k_lisT, k_lisK, k_sumT, ix_0, ix_1, ix_2, ix_3, ix_4, ix_5, ix_6, ix_7, ix_8, il_0, il_1, cut_m1, cut_m2, cut_1, cut_toI, cut_fromI, cut_abI, List.drop_one, k_slT, k_slL, k_slK, k_is_ii, k_is_bi, k_is_tt, k_is_st, k_is_si, k_is_ss, k_is_ti, k_is_ts, k_non_i, k_non_n, k_non_s, k_non_t, k_nn_i, k_nn_n, k_nn_s, k_nn_t, k_isnB, k_isB, k_itT, k_itL, List.getElem?_cons_zero, List.getElem?_cons_succ, List.set_cons_zero, List.set_cons_succ, List.length_cons, List.length_nil, List.length_map, List.map_cons, List.map_nil, List.replicate, List.cons_append, List.nil_append, Nat.reduceAdd, Nat.reduceSub, Nat.reduceLT, Nat.reduceLeDiff, Int.reduceNeg, Int.reduceAdd, Int.reduceSub, Int.reduceMul, Int.reduceEq, Int.reduceLE, Int.reduceLT, Int.cast_ofNat_Int, Int.natCast_zero, Int.natCast_one, Int.reduceToNat, Int.toNat_natCast, if_true, if_false, if_pos, if_neg, eq_self, Bool.false_eq_true, Bool.not_true, Bool.not_false, Bool.true_and, Bool.and_true, Bool.false_and, Bool.and_false, Bool.true_or, Bool.or_true, Bool.and_self, Bool.or_self, Bool.false_or, Bool.or_false, decide_true, decide_false, and_self, and_true, true_and, and_false, false_and, not_true_eq_false, not_false_eq_true, $as,*])
section
variable {w : Well} {c : Cw} {t : Bool}
theorem filt_len {α : Type} {q r : α → Bool} : ∀ {l : List α}, (∀ a ∈ l, q a = !r a) → ((l.filter q).length + (l.filter r).length) = l.length
  | [], _ => rfl
  | a :: l, h => by
    have ih := filt_len (q := q) (r := r) (l := l) fun b hb => h b (List.mem_cons_of_mem _ hb)
    have ha := h a List.mem_cons_self
    cases hr : r a with
    | true => rw [hr] at ha; rw [List.filter_cons_of_neg (by rw [ha]; decide), List.filter_cons_of_pos hr, List.length_cons, List.length_cons]; omega
    | false => rw [hr] at ha; rw [List.filter_cons_of_pos (by rw [ha]; rfl), List.filter_cons_of_neg (by rw [hr]; decide), List.length_cons, List.length_cons]; omega
theorem count_neg {v : Int} : ∀ {l : List Int}, l.count (-v) = (l.map fun a => -a).count v
  | [] => rfl
  | a :: l => by
    rw [List.map_cons, List.count_cons, List.count_cons, count_neg (l := l)]
    by_cases h : a = -v
    · have h2 : -a = v := by omega
      rw [if_pos (by simpa using h), if_pos (by simpa using h2)]
    · have h2 : ¬ -a = v := by omega
      rw [if_neg (by simpa using h), if_neg (by simpa using h2)]
theorem Cw.Ok.total (W : w.Ok) (C : c.Ok w t) : (cntOn w c.ages).sum + (cntOff w c.ages).sum + (c.ages.count (-w.rest) : Nat) = (c.ages.length : Nat) := by
  have e1 := W.e1; have f1 := W.f1
  have a := sum_counts (n := w.run.toNat) (l := c.ages) fun a ha => by have := C.aa a ha; omega
  have b := sum_counts (n := w.rest.toNat) (l := c.ages.map fun a => -a) fun a ha => by
    obtain ⟨b, hb, rfl⟩ := List.mem_map.mp ha
    have := C.aa b hb; omega
  have e : w.rest.toNat = (w.rest - 1).toNat + 1 := by omega
  rw [e, List.range_succ] at b
  unfold sm at a b
  rw [List.map_append, List.sum_append] at b
  have b2 : ((List.range (w.rest - 1).toNat).map fun (k : Nat) => (((c.ages.map fun a => -a).count ((k : Int) + 1) : Nat) : Int)).sum = (cntOff w c.ages).sum := by
    unfold cntOff
    congr 1
    exact List.map_congr_left fun k _ => by rw [count_neg]
  have b3 : (([(w.rest - 1).toNat] : List Nat).map fun (k : Nat) => (((c.ages.map fun a => -a).count ((k : Int) + 1) : Nat) : Int)).sum = (c.ages.count (-w.rest) : Nat) := by
    simp only [List.map_cons, List.map_nil, List.sum_cons, List.sum_nil]
    rw [count_neg, show (((w.rest - 1).toNat : Nat) : Int) + 1 = w.rest by omega, Int.add_zero]
  have b4 : ((c.ages.map fun a => -a).filter fun a => decide (0 < a)).length = (c.ages.filter fun a => decide (a < 0)).length := by
    rw [List.filter_map, List.length_map]
    congr 1
    refine List.filter_congr fun x _ => ?_
    show decide (0 < -x) = decide (x < 0)
    exact decide_eq_decide.mpr (by omega)
  have a2 : ((List.range w.run.toNat).map fun (k : Nat) => ((c.ages.count ((k : Int) + 1) : Nat) : Int)).sum = (cntOn w c.ages).sum := rfl
  have f := filt_len (q := fun a : Int => decide (0 < a)) (r := fun a : Int => decide (a < 0)) (l := c.ages) fun a ha => by
    have := (C.aa a ha).2.2
    by_cases h : 0 < a
    · rw [decide_eq_true h, decide_eq_false (by omega)]; rfl
    · rw [decide_eq_false h, decide_eq_true (by omega)]; rfl
  rw [b2, b3, b4] at b
  rw [a2] at a
  omega
theorem cnt_nn {α : Type} {f : α → Nat} {l : List α} : ∀ x ∈ l.map fun k => ((f k : Nat) : Int), 0 ≤ x := fun x hx => by
  obtain ⟨k, _, rfl⟩ := List.mem_map.mp hx; omega
theorem Cw.Ok.good (W : w.Ok) (C : c.Ok w t) : (c.st w).Good w (some (c.ages.length : Nat)) 6 := by
  have e1 := W.e1; have f1 := W.f1; have tt := C.total W; have n1 := C.n1
  have s1 : 0 ≤ (cntOn w c.ages).sum := sum_nn cnt_nn
  have s2 : 0 ≤ (cntOff w c.ages).sum := sum_nn cnt_nn
  refine ⟨C.lv0, C.lv1, C.pl, C.pa, ?_, cnt_nn, ?_, cnt_nn, ?_, _, rfl, by omega, tt⟩
  · show ((cntOn w c.ages).length : Int) = w.run
    unfold cntOn; rw [List.length_map, List.length_range]; omega
  · show ((cntOff w c.ages).length : Int) = w.rest - 1
    unfold cntOff; rw [List.length_map, List.length_range]; omega
  · show (cntOn w c.ages).sum + (cntOff w c.ages).sum ≤ 6
    omega
theorem Cw.Ok.stOk (W : w.Ok) (C : c.Ok w t) : (c.st w).Ok w := (C.good W).ok (by omega) fun n h => by cases h; have := C.n1; omega
theorem Cw.Ok.stFine (W : w.Ok) (C : c.Ok w t) : Fine 1000 2 (c.st w).p := (C.good W).fine W (by omega) fun n h => by cases h; have := C.n1; omega
theorem Cw.Ok.fine (W : w.Ok) (C : c.Ok w t) : Fine 1000 2 c.p := by
  have a2 := W.a2; have e2 := W.e2; have f2 := W.f2; have i2 := W.i2; have lv0 := C.lv0; have lv1 := C.lv1; have pl := C.pl; have n1 := C.n1; have ml := C.ml
  refine fine_tup (fines_cons (n1 := 40) (n2 := 900) (fine_int (by omega) (by omega)) (fines_cons (n1 := 200) (n2 := 600) (fine_tup (fines_ints (fun i hi => by have := C.pa i hi; omega) (by omega))) (fines_cons (n1 := 300) (n2 := 100) (fine_tup (fines_ints (fun i hi => by have := C.aa i hi; omega) (by omega))) (fines_cons (n1 := 40) (n2 := 0) (fine_int (by omega) (by omega)) fines_nil (by omega)) (by omega)) (by omega)) (by omega))
theorem over_fine {n k : Nat} (h : 40 ≤ n) : Fine n k (.str "over") := (fine_str (n := 4) (k := 0) (by decide +kernel) (by decide)).mono (by omega) (by omega)
theorem dry_fine {n k : Nat} (h : 40 ≤ n) : Fine n k (.str "dry") := (fine_str (n := 3) (k := 0) (by decide +kernel) (by decide)).mono (by omega) (by omega)
theorem Cw.Ok.beatFine {i : Int} (W : w.Ok) (C : c.Ok w t) : Fine 1000 2 (c.beat w t i) := by
  unfold Cw.beat
  by_cases z1 : w.top < c.lvA w t i
  · rw [if_pos z1]; exact over_fine (by omega)
  · rw [if_neg z1]
    by_cases z2 : c.lvA w t i < 0
    · rw [if_pos z2]; exact dry_fine (by omega)
    · rw [if_neg z2]; exact (C.next W z1 z2).fine W
theorem Cw.runs_small (C : c.Ok w t) : ∀ k ∈ c.runs w t, k < 6 := fun k hk => by
  rw [Cw.runs_eq] at hk
  have := List.mem_range.mp (List.mem_filter.mp hk).1; have := C.n1; omega
theorem natFine {ks : List Nat} {n k : Nat} (h : ∀ k ∈ ks, k < 1000) (hn : ks.length * 41 ≤ n) : Fine n (k + 1) (.tup (ks.map natP)) := by
  rw [natP_map]
  exact fine_tup (fines_ints (fun i hi => by obtain ⟨j, hj, rfl⟩ := List.mem_map.mp hi; have := h j hj; omega) (by rw [List.length_map]; exact hn))
end
end Lt
set_option maxHeartbeats 1000000
/-! LtNC: draws of the third family. -/
namespace Lt
open PySem PySem.Spec L2
open PyProof.Rows hiding St
local macro_rules
  | `(tactic| simp_arith [$as,*]) => `(tactic| simp (disch := first | assumption | omega | decide | (simp only [List.length_cons, List.length_nil, List.length_map, List.length_append, List.length_replicate, List.length_take, List.length_drop, List.length_dropLast, List.length_tail, List.length_range, List.length_set]; omega)) only [m_seq, m_if, m_or, m_and, m_not, m_tst, m_un, m_bin, m_konst, m_tm, m_sl, m_var, m_andV, m_orV, m_ifV, m_ret, m_retM, m_keepS, m_keepP, m_skip, m_cmp, m_callB, m_callF, m_seqO, m_seqO0, m_seqP, m_seqP0, m_seqV, m_seqV0, m_par2, m_par3, m_tup, m_lst, m_asg, m_unp, m_tgn, m_tgt, m_tgm, m_met, m_isT, m_tgs, m_tgs0, m_take0, m_take, m_take1t, m_take1s, m_tkv, m_tkl, m_tkr, m_tko, m_tkd, m_put, m_put0, m_put1t, m_put1v, m_put1l, m_put1r, m_expr, m_valT, m_noP, m_aP, m_slO, m_for, m_wR1, m_wR2, m_wV, m_app, m_setO, m_rec, m_fd, m_chn, m_get0, m_get, big_of, k_neg, k_add, k_addT, k_addL, m_sub, k_mul, k_mul', k_mulT, k_mod, k_div, k_int, k_min, k_max, k_eqI, k_neI', k_eqS, k_neS, k_lenT', k_lenL, k_lenK, k_tupL, k_tupT, k_tupK, k_lisL, k_lisT, k_lisK, k_sumT, ix_0, ix_1, ix_2, ix_3, ix_4, ix_5, ix_6, ix_7, ix_8, il_0, il_1, cut_m1, cut_m2, cut_1, cut_toI, cut_fromI, cut_abI, List.drop_one, k_slT, k_slL, k_slK, k_is_ii, k_is_bi, k_is_tt, k_is_st, k_is_si, k_is_ss, k_is_ti, k_is_ts, k_non_i, k_non_n, k_non_s, k_non_t, k_nn_i, k_nn_n, k_nn_s, k_nn_t, k_isnB, k_isB, k_itT, k_itL, List.getElem?_cons_zero, List.getElem?_cons_succ, List.set_cons_zero, List.set_cons_succ, List.length_cons, List.length_nil, List.length_map, List.map_cons, List.map_nil, List.replicate, List.cons_append, List.nil_append, Nat.reduceAdd, Nat.reduceSub, Nat.reduceLT, Nat.reduceLeDiff, Int.reduceNeg, Int.reduceAdd, Int.reduceSub, Int.reduceMul, Int.reduceEq, Int.reduceLE, Int.reduceLT, Int.cast_ofNat_Int, Int.natCast_zero, Int.natCast_one, Int.reduceToNat, Int.toNat_natCast, if_true, if_false, if_pos, if_neg, eq_self, Bool.false_eq_true, Bool.not_true, Bool.not_false, Bool.true_and, Bool.and_true, Bool.false_and, Bool.and_false, Bool.true_or, Bool.or_true, Bool.and_self, Bool.or_self, Bool.false_or, Bool.or_false, decide_true, decide_false, and_self, and_true, true_and, and_false, false_and, not_true_eq_false, not_false_eq_true, $as,*])
def nC (cs gs : List PV) (k : Int) : SV := .r [("cells", .v (.lst cs)), ("left", .l gs), ("spot", .v (.int k))]
def mixB : Loc → Rs Fl := seqS (asgS 2 (keepS (bin2 sMod (callB sInt (seqO [bin2 sAdd (bin2 sAdd (bin2 sMul (varO 0) (konst (.int 40503))) (bin2 sMul (varO 1) (konst (.int 69069)))) (konst (.int 12345))])) (konst (.int 2147483647)))))
 (seqS (asgS 3 (keepS (bin2 sMod (callB sInt (seqO [bin2 sAdd (bin2 sAdd (bin2 sMul (varO 2) (konst (.int 48271))) (varO 0)) (varO 1)])) (konst (.int 2147483647)))))
 (retS (keepS (bin2 sMod (callB sInt (seqO [bin2 sAdd (bin2 sMul (varO 3) (konst (.int 16807))) (bin2 sMul (bin2 sMul (varO 1) (varO 1)) (konst (.int 7919)))])) (konst (.int 2147483647))))))
def mixC : F := defF 2 4 [0, 1] mixB
def drawB : Loc → Rs Fl := seqS (asgS 2 (keepS (recO 0 "spot")))
 (seqS (recS 0 "spot" (keepS (bin2 sAdd (varO 2) (konst (.int 1)))))
 (seqS (asgS 3 (keepS (bin2 sMod (callB sInt (seqO [varO 2])) (callB sLen (seqO [recO 0 "cells"])))))
 (seqS (asgS 4 (keepS (bin2 sIx (recO 0 "left") (varO 3))))
 (seqS (ifS (tstV (bin2 (sCmpI fun i j => decide (j < i)) (varO 4) (konst (.int 0)))) (seqS (recIx 0 "left" (keepP (bin2 sFdiv (varO 4) (varO 1))) (varO 3))
 (retS (keepS (bin2 sMod (callB sInt (seqO [varO 4])) (varO 1))))) (skip))
 (retS (keepS (bin2 sMod (callB sInt (seqO [bin2 sFdiv (callF mixC (seqO [bin2 sIx (recO 0 "cells") (varO 3), varO 2])) (konst (.int 97))])) (varO 1))))))))
def drawC : F := defF 2 5 [0, 1] drawB
def begE : Loc → Rs PV := keepP (ifV (tstV (bin2 (sCmpI fun i j => decide (j ≤ i)) (varO 2) (bin2 sPow (konst (.int 10)) (konst (.int 18))))) (varO 2) (konst (.int 0)))
def begB : Loc → Rs Fl := seqS (asgS 1 (keepS (ifV (tstV (bin2 sNe (varO 0) (lstO (seqP [])))) (callB sList (seqO [varO 0])) (lstO (seqP [keepP (konst (.int 0))])))))
 (retS (keepS (recD ["cells", "left", "spot"] (seqV [keepS (varO 1), keepS (lcO 3 (.nm 2) [2] (walkV (keepP (varO 1))) yesT begE), keepS (konst (.int 0))]))))
def begunC : F := defF 1 3 [0] begB
theorem mixC_ok {c k : Int} (h1 : 0 ≤ k) (h2 : k ≤ 1000000000) : ∃ r, mixC [.v (.int c), .v (.int k)] = .ok (.v (.int r)) [.v (.int c), .v (.int k)] := by
  refine ⟨((((c * 40503 + k * 69069 + 12345) % 2147483647 * 48271 + c + k) % 2147483647) * 16807 + k * k * 7919) % 2147483647, defF_rt (ρ := [some (.v (.int c)), some (.v (.int k)), none, none]) (ρ' := [some (.v (.int c)), some (.v (.int k)), some (.v (.int ((c * 40503 + k * 69069 + 12345) % 2147483647))), some (.v (.int (((c * 40503 + k * 69069 + 12345) % 2147483647 * 48271 + c + k) % 2147483647)))]) rfl rfl ?_ rfl⟩
  unfold mixB
  simp_arith []
theorem drawC_ok {cs gs : List Int} {k T : Int} (hT : 0 < T) (hT2 : T < 1073741824) (hk : 0 ≤ k) (hk2 : k < 1000000000) (hl : gs.length = cs.length) (hl2 : 0 < cs.length) :
    ∃ (r : Int) (gs' : List Int), drawC [nC (cs.map .int) (gs.map .int) k, .v (.int T)] = .ok (.v (.int r)) [nC (cs.map .int) (gs'.map .int) (k + 1), .v (.int T)] ∧ 0 ≤ r ∧ r < T ∧ gs'.length = cs.length := by
  have hp : (0 : Int) < (cs.length : Int) := by omega
  have h1 := Int.emod_nonneg k (show (cs.length : Int) ≠ 0 by omega)
  have h2 := Int.emod_lt_of_pos k hp
  obtain ⟨j, hj⟩ := Int.eq_ofNat_of_zero_le h1
  have hj2 : j < cs.length := by omega
  obtain ⟨c, hc⟩ : ∃ c, cs[j]? = some c := ⟨_, List.getElem?_eq_getElem hj2⟩
  obtain ⟨g, hg⟩ : ∃ g, gs[j]? = some g := ⟨_, List.getElem?_eq_getElem (by omega)⟩
  have ac : sIx (.v (.lst (cs.map .int))) (.v (.int (j : Int))) = some (.v (.int c)) := k_ixK (at_k (by rw [List.getElem?_map, hc]; rfl))
  have ag : sIx (.l (gs.map .int)) (.v (.int (j : Int))) = some (.v (.int g)) := k_ixL (at_k (by rw [List.getElem?_map, hg]; rfl))
  have e1 : ∀ r : Loc → Rs Fl, seqS (asgS 2 (keepS (recO 0 "spot"))) (seqS (recS 0 "spot" (keepS (bin2 sAdd (varO 2) (konst (.int 1))))) r) [some (nC (cs.map .int) (gs.map .int) k), some (.v (.int T)), none, none, none] = r [some (nC (cs.map .int) (gs.map .int) (k + 1)), some (.v (.int T)), some (.v (.int k)), none, none] := fun _ => rfl
  have e2 : asgS 3 (keepS (bin2 sMod (callB sInt (seqO [varO 2])) (callB sLen (seqO [recO 0 "cells"])))) [some (nC (cs.map .int) (gs.map .int) (k + 1)), some (.v (.int T)), some (.v (.int k)), none, none] = .ok .nx [some (nC (cs.map .int) (gs.map .int) (k + 1)), some (.v (.int T)), some (.v (.int k)), some (.v (.int (j : Int))), none] := by
    have hln : sLen [.v (.lst (cs.map .int))] = some (.v (.int (cs.length : Int))) := by
      show some (SV.v (.int ((cs.map PV.int).length : Int))) = _
      rw [List.length_map]
    have hr : callB sLen (seqO [recO 0 "cells"]) [some (nC (cs.map .int) (gs.map .int) (k + 1)), some (.v (.int T)), some (.v (.int k)), none, none] = .ok (.tm (.v (.int (cs.length : Int)))) [some (nC (cs.map .int) (gs.map .int) (k + 1)), some (.v (.int T)), some (.v (.int k)), none, none] := by
      show (match sLen [.v (.lst (cs.map .int))] with | some s => Rs.ok (OV.tm s) _ | none => .no) = _
      rw [hln]
    exact asg_at (keepS_tm (bin2_at (x := .tm (.v (.int k))) rfl hr rfl rfl (by rw [modI hp, hj]))) (by show 3 < 5; decide)
  have e3 : asgS 4 (keepS (bin2 sIx (recO 0 "left") (varO 3))) [some (nC (cs.map .int) (gs.map .int) (k + 1)), some (.v (.int T)), some (.v (.int k)), some (.v (.int (j : Int))), none] = .ok .nx [some (nC (cs.map .int) (gs.map .int) (k + 1)), some (.v (.int T)), some (.v (.int k)), some (.v (.int (j : Int))), some (.v (.int g))] := by
    have hr : bin2 sIx (recO 0 "left") (varO 3) [some (nC (cs.map .int) (gs.map .int) (k + 1)), some (.v (.int T)), some (.v (.int k)), some (.v (.int (j : Int))), none] = .ok (.tm (.v (.int g))) [some (nC (cs.map .int) (gs.map .int) (k + 1)), some (.v (.int T)), some (.v (.int k)), some (.v (.int (j : Int))), none] := by
      exact bin2_at rfl rfl rfl rfl ag
    exact asg_at (keepS_tm hr) (by show 4 < 5; decide)
  by_cases hg0 : 0 < g
  · refine ⟨g % T, gs.set j (g / T), defF_rt (ρ := [some (nC (cs.map .int) (gs.map .int) k), some (.v (.int T)), none, none, none]) (ρ' := [some (nC (cs.map .int) ((gs.set j (g / T)).map .int) (k + 1)), some (.v (.int T)), some (.v (.int k)), some (.v (.int (j : Int))), some (.v (.int g))]) rfl rfl ?_ rfl, Int.emod_nonneg _ (by omega), Int.emod_lt_of_pos _ hT, by rw [List.length_set]; exact hl⟩
    unfold drawB
    rw [e1, seq_at e2, seq_at e3]
    have hx : recIx 0 "left" (keepP (bin2 sFdiv (varO 4) (varO 1))) (varO 3) [some (nC (cs.map .int) (gs.map .int) (k + 1)), some (.v (.int T)), some (.v (.int k)), some (.v (.int (j : Int))), some (.v (.int g))] = .ok .nx [some (nC (cs.map .int) ((gs.set j (g / T)).map .int) (k + 1)), some (.v (.int T)), some (.v (.int k)), some (.v (.int (j : Int))), some (.v (.int g))] := by
      have hd : keepP (bin2 sFdiv (varO 4) (varO 1)) [some (nC (cs.map .int) (gs.map .int) (k + 1)), some (.v (.int T)), some (.v (.int k)), some (.v (.int (j : Int))), some (.v (.int g))] = .ok (.int (g / T)) [some (nC (cs.map .int) (gs.map .int) (k + 1)), some (.v (.int T)), some (.v (.int k)), some (.v (.int (j : Int))), some (.v (.int g))] :=
        keepP_tm (bin2_at rfl rfl rfl rfl (divI ⟨hT, hT2⟩))
      have hi : ixN (gs.map PV.int).length (j : Int) = some j := by
        unfold ixN
        rw [List.length_map, if_pos (by omega), if_pos (by omega), Int.toNat_natCast]
      unfold recIx bindR
      rw [hd]
      show (match ixN (gs.map PV.int).length (j : Int) with | some n => _ | none => _) = _
      rw [hi, List.map_set]
      rfl
    refine seq_rt ?_
    have ht : tstV (bin2 (sCmpI fun i j => decide (j < i)) (varO 4) (konst (.int 0))) [some (nC (cs.map .int) (gs.map .int) (k + 1)), some (.v (.int T)), some (.v (.int k)), some (.v (.int (j : Int))), some (.v (.int g))] = .ok true [some (nC (cs.map .int) (gs.map .int) (k + 1)), some (.v (.int T)), some (.v (.int k)), some (.v (.int (j : Int))), some (.v (.int g))] := by
      generalize nC (cs.map .int) (gs.map .int) (k + 1) = N at *
      simp_arith [hg0]
    rw [m_if, ht]
    dsimp only
    rw [seq_at hx]
    generalize nC (cs.map .int) ((gs.set j (g / T)).map .int) (k + 1) = N at *
    simp_arith []
  · obtain ⟨q, hq⟩ := mixC_ok (c := c) hk (by omega)
    refine ⟨q / 97 % T, gs, defF_rt (ρ := [some (nC (cs.map .int) (gs.map .int) k), some (.v (.int T)), none, none, none]) (ρ' := [some (nC (cs.map .int) (gs.map .int) (k + 1)), some (.v (.int T)), some (.v (.int k)), some (.v (.int (j : Int))), some (.v (.int g))]) rfl rfl ?_ rfl, Int.emod_nonneg _ (by omega), Int.emod_lt_of_pos _ hT, hl⟩
    unfold drawB
    rw [e1, seq_at e2, seq_at e3]
    have hr : bin2 sIx (recO 0 "cells") (varO 3) [some (nC (cs.map .int) (gs.map .int) (k + 1)), some (.v (.int T)), some (.v (.int k)), some (.v (.int (j : Int))), some (.v (.int g))] = .ok (.tm (.v (.int c))) [some (nC (cs.map .int) (gs.map .int) (k + 1)), some (.v (.int T)), some (.v (.int k)), some (.v (.int (j : Int))), some (.v (.int g))] := by
      exact bin2_at rfl rfl rfl rfl ac
    generalize nC (cs.map .int) (gs.map .int) (k + 1) = N at *
    generalize mixC = mf at *
    rw [seq_at (ρ1 := [some N, some (.v (.int T)), some (.v (.int k)), some (.v (.int (j : Int))), some (.v (.int g))]) (by simp_arith [hg0])]
    have hcall : callF mf (seqO [bin2 sIx (recO 0 "cells") (varO 3), varO 2]) [some N, some (.v (.int T)), some (.v (.int k)), some (.v (.int (j : Int))), some (.v (.int g))] = .ok (.tm (.v (.int q))) [some N, some (.v (.int T)), some (.v (.int k)), some (.v (.int (j : Int))), some (.v (.int g))] := by
      rw [m_callF, m_seqO, hr]
      simp_arith [hq]
    have h97 := bin2_at (f := sFdiv) hcall (rfl : konst (.int 97) [some N, some (.v (.int T)), some (.v (.int k)), some (.v (.int (j : Int))), some (.v (.int g))] = .ok (.tm (.v (.int 97))) _) rfl rfl (divI (i := q) (j := 97) ⟨by decide, by decide⟩)
    exact ret_at (keepS_tm (bin2_at (call1_at h97 rfl rfl) rfl rfl rfl (modI hT)))
def cellsC (ns : List Int) : List Int := if ns = [] then [0] else ns
theorem begunC_ok {ns : List Int} (h : ns.length ≤ 63) : begunC [.v (.lst (ns.map .int))] = .ok (nC ((cellsC ns).map .int) (((cellsC ns).map fun c => if 10 ^ 18 ≤ c then c else 0).map .int) 0) [.v (.lst (ns.map .int))] := by
  have hl2 : (cellsC ns).length ≤ 1000 := by
    unfold cellsC
    split
    · decide
    · omega
  have A : asgS 1 (keepS (ifV (tstV (bin2 sNe (varO 0) (lstO (seqP [])))) (callB sList (seqO [varO 0])) (lstO (seqP [keepP (konst (.int 0))])))) [some (.v (.lst (ns.map .int))), none, none] = .ok .nx [some (.v (.lst (ns.map .int))), some (.l ((cellsC ns).map .int)), none] := by
    cases ns with
    | nil => rfl
    | cons x r => rfl
  refine defF_rt (ρ := [some (.v (.lst (ns.map .int))), none, none]) (ρ' := [some (.v (.lst (ns.map .int))), some (.v (.lst ((cellsC ns).map .int))), none]) rfl rfl ?_ rfl
  unfold begB
  rw [seq_at A]
  generalize cellsC ns = cs at *
  generalize ns.map PV.int = S
  have C := lc_all (n := 3) (k := 2) (ci := walkV (keepP (varO 1))) (c := begE) (ρ := [some (.v (.lst S)), some (.v (.lst (cs.map .int))), none]) (inj := PV.int) (fun c => PV.int (if 10 ^ 18 ≤ c then c else 0)) cs rfl rfl rfl (fun c _ => by
    show begE [some (.v (.lst S)), some (.v (.lst (cs.map .int))), some (.v (.int c))] = .ok _ [some (.v (.lst S)), some (.v (.lst (cs.map .int))), some (.v (.int c))]
    have hp : bin2 sPow (konst (.int 10)) (konst (.int 18)) [some (.v (.lst S)), some (.v (.lst (cs.map .int))), some (.v (.int c))] = .ok (.tm (.v (.int (10 ^ 18)))) [some (.v (.lst S)), some (.v (.lst (cs.map .int))), some (.v (.int c))] := bin2_at rfl rfl rfl rfl (by kernel_rfl)
    unfold begE
    generalize (10 : Int) ^ 18 = g at *
    by_cases h0 : g ≤ c
    · rw [if_pos h0]
      have ht : tstV (bin2 (sCmpI fun i j => decide (j ≤ i)) (varO 2) (bin2 sPow (konst (.int 10)) (konst (.int 18)))) [some (.v (.lst S)), some (.v (.lst (cs.map .int))), some (.v (.int c))] = .ok true [some (.v (.lst S)), some (.v (.lst (cs.map .int))), some (.v (.int c))] := by
        rw [m_tst, bin2_at (ca := varO 2) rfl hp rfl rfl (by rw [m_cmp])]
        simp_arith [h0]
      rw [m_keepP, m_ifV, ht]
      rfl
    · rw [if_neg h0]
      have ht : tstV (bin2 (sCmpI fun i j => decide (j ≤ i)) (varO 2) (bin2 sPow (konst (.int 10)) (konst (.int 18)))) [some (.v (.lst S)), some (.v (.lst (cs.map .int))), some (.v (.int c))] = .ok false [some (.v (.lst S)), some (.v (.lst (cs.map .int))), some (.v (.int c))] := by
        rw [m_tst, bin2_at (ca := varO 2) rfl hp rfl rfl (by rw [m_cmp])]
        simp_arith [h0]
      rw [m_keepP, m_ifV, ht]
      rfl) (by omega)
  refine ret_at (keepS_tm (s := nC (cs.map .int) ((cs.map fun c => if 10 ^ 18 ≤ c then c else 0).map .int) 0) ?_)
  have h2 : seqV [keepS (varO 1), keepS (lcO 3 (.nm 2) [2] (walkV (keepP (varO 1))) yesT begE), keepS (konst (.int 0))] [some (.v (.lst S)), some (.l (cs.map .int)), none] = .ok [.v (.lst (cs.map .int)), .l ((cs.map fun c => if 10 ^ 18 ≤ c then c else 0).map .int), .v (.int 0)] [some (.v (.lst S)), some (.v (.lst (cs.map .int))), none] := by
    rw [m_seqV, show keepS (varO 1) [some (.v (.lst S)), some (.l (cs.map .int)), none] = .ok (.v (.lst (cs.map .int))) [some (.v (.lst S)), some (.v (.lst (cs.map .int))), none] from rfl]
    dsimp only
    rw [m_seqV, keepS_tm C, List.map_map]
    rfl
  unfold recD bindR
  rw [h2]
  rfl
/-- the draws' state; c: how many there were -/
structure DrC where
  cs : List Int
  gs : List Int
  k : Int
  c : Nat
  hk : 0 ≤ k
  hc : k ≤ c
  hl : gs.length = cs.length
  hp : 0 < cs.length
def DrC.sv (d : DrC) : SV := nC (d.cs.map .int) (d.gs.map .int) d.k
theorem DrC.ex (d : DrC) (T : Int) : ∃ x : Int × DrC, x.2.c = d.c + 1 ∧ 0 ≤ x.1 ∧ (0 < T → x.1 < T) ∧ (0 < T → T < 1073741824 → d.c < 100000000 → drawC [d.sv, .v (.int T)] = .ok (.v (.int x.1)) [x.2.sv, .v (.int T)]) := by
  by_cases h : 0 < T ∧ T < 1073741824 ∧ d.c < 100000000
  · obtain ⟨r, gs', h1, h2, h3, h4⟩ := drawC_ok (cs := d.cs) (gs := d.gs) (k := d.k) h.1 h.2.1 d.hk (by have := d.hc; omega) d.hl d.hp
    have hc := d.hc; have hk := d.hk
    exact ⟨(r, ⟨d.cs, gs', d.k + 1, d.c + 1, by omega, by omega, h4, d.hp⟩), rfl, h2, fun _ => h3, fun _ _ _ => h1⟩
  · have hc := d.hc
    exact ⟨(0, ⟨d.cs, d.gs, d.k, d.c + 1, d.hk, by omega, d.hl, d.hp⟩), rfl, Int.le_refl 0, fun z => z, fun a b c => absurd ⟨a, b, c⟩ h⟩
noncomputable def DrC.num (d : DrC) (T : Int) : Int := (Classical.choose (d.ex T)).1
noncomputable def DrC.nxt (d : DrC) (T : Int) : DrC := (Classical.choose (d.ex T)).2
theorem DrC.nxt_c {d : DrC} {T : Int} : (d.nxt T).c = d.c + 1 := (Classical.choose_spec (d.ex T)).1
theorem DrC.nn (d : DrC) (T : Int) : 0 ≤ d.num T := (Classical.choose_spec (d.ex T)).2.1
theorem DrC.lt (d : DrC) {T : Int} (h : 0 < T) : d.num T < T := (Classical.choose_spec (d.ex T)).2.2.1 h
theorem DrC.next {d : DrC} {T : Int} (h : 0 < T) (h2 : T < 1073741824) (h3 : d.c < 100000000) : drawC [d.sv, .v (.int T)] = .ok (.v (.int (d.num T))) [(d.nxt T).sv, .v (.int T)] := (Classical.choose_spec (d.ex T)).2.2.2 h h2 h3
/-- the first state -/
def drawnC (ns : List Int) : DrC := ⟨cellsC ns, (cellsC ns).map fun c => if 10 ^ 18 ≤ c then c else 0, 0, 0, Int.le_refl 0, Int.le_refl 0, by rw [List.length_map], by unfold cellsC; split <;> rename_i h <;> first | decide | exact List.length_pos_iff.mpr h⟩
theorem begun_drC {ns : List Int} (h : ns.length ≤ 63) : begunC [.v (.lst (ns.map .int))] = .ok (drawnC ns).sv [.v (.lst (ns.map .int))] := begunC_ok h
theorem m_tkC {ρ : Loc} {i : Nat} {d : DrC} : takeS (some (some d.sv)) ρ i = some (d.sv, ρ.set i none) := rfl
theorem m_put1C {ρ : Loc} {i : Nat} {d : DrC} {o : SV} : put1 ρ (.sl i) d.sv o = ρ.set i (some o) := rfl
end Lt
set_option maxHeartbeats 1000000
/-! LtCwC: the law's own pumps (third family) -/
namespace Lt
open PySem PySem.Spec L2
open PyProof.Rows hiding St
local macro_rules
  | `(tactic| simp_arith [$as,*]) => `(tactic| simp (disch := first | assumption | omega | decide | (simp only [List.length_cons, List.length_nil, List.length_map, List.length_append, List.length_replicate, List.length_take, List.length_drop, List.length_dropLast, List.length_tail, List.length_range, List.length_set]; omega)) only [m_seq, m_if, m_or, m_and, m_not, m_tst, m_un, m_bin, m_konst, m_tm, m_sl, m_var, m_andV, m_orV, m_ifV, m_ret, m_retM, m_keepS, m_keepP, m_skip, m_cmp, m_callB, m_callF, m_seqO, m_seqO0, m_seqP, m_seqP0, m_seqV, m_seqV0, m_par2, m_par3, m_tup, m_lst, m_asg, m_unp, m_tgn, m_tgt, m_tgm, m_met, m_isT, m_tgs, m_tgs0, m_take0, m_take, m_take1t, m_take1s, m_tkv, m_tkl, m_tkr, m_tko, m_tkd, m_put, m_put0, m_put1t, m_put1v, m_put1l, m_put1r, m_expr, m_valT, m_noP, m_aP, m_slO, m_for, m_wR1, m_wR2, m_wV, m_app, m_setO, m_rec, m_fd, m_chn, m_get0, m_get, big_of, k_neg, k_add, k_addT, k_addL, m_sub, k_mul, k_mul', k_mulT, k_mod, k_div, k_int, k_min, k_max, k_eqI, k_neI', k_eqS, k_neS, k_lenT', k_lenL, k_lenK, k_tupL, k_tupT, k_tupK, k_lisL, k_lisT, k_lisK, k_sumT, ix_0, ix_1, ix_2, ix_3, ix_4, ix_5, ix_6, ix_7, ix_8, il_0, il_1, cut_m1, cut_m2, cut_1, cut_toI, cut_fromI, cut_abI, List.drop_one, k_slT, k_slL, k_slK, k_is_ii, k_is_bi, k_is_tt, k_is_st, k_is_si, k_is_ss, k_is_ti, k_is_ts, k_non_i, k_non_n, k_non_s, k_non_t, k_nn_i, k_nn_n, k_nn_s, k_nn_t, k_isnB, k_isB, k_itT, k_itL, List.getElem?_cons_zero, List.getElem?_cons_succ, List.set_cons_zero, List.set_cons_succ, List.length_cons, List.length_nil, List.length_map, List.map_cons, List.map_nil, List.replicate, List.cons_append, List.nil_append, Nat.reduceAdd, Nat.reduceSub, Nat.reduceLT, Nat.reduceLeDiff, Int.reduceNeg, Int.reduceAdd, Int.reduceSub, Int.reduceMul, Int.reduceEq, Int.reduceLE, Int.reduceLT, Int.cast_ofNat_Int, Int.natCast_zero, Int.natCast_one, Int.reduceToNat, Int.toNat_natCast, if_true, if_false, if_pos, if_neg, eq_self, Bool.false_eq_true, Bool.not_true, Bool.not_false, Bool.true_and, Bool.and_true, Bool.false_and, Bool.and_false, Bool.true_or, Bool.or_true, Bool.and_self, Bool.or_self, Bool.false_or, Bool.or_false, decide_true, decide_false, and_self, and_true, true_and, and_false, false_and, not_true_eq_false, not_false_eq_true, $as,*])
def T3.b_law_well : Loc → Rs Fl := seqS (asgS 3 (keepS (bin2 sAdd (konst (.int 2)) (callF drawC (seqO [varO 0, bin2 sSub (varO 1) (konst (.int 1))])))))
 (seqS (asgS 4 (keepS (bin2 sAdd (konst (.int 1)) (callF drawC (seqO [varO 0, varO 3])))))
 (seqS (asgS 5 (keepS (tupO (seqP [keepP (varO 3), keepP (bin2 sAdd (konst (.int 1)) (callF drawC (seqO [varO 0, konst (.int 3)]))), keepP (varO 4), keepP (callF drawC (seqO [varO 0, varO 4])), keepP (bin2 sAdd (konst (.int 1)) (callF drawC (seqO [varO 0, konst (.int 3)]))), keepP (bin2 sAdd (konst (.int 1)) (callF drawC (seqO [varO 0, konst (.int 3)])))]))))
 (retS (keepS (bin2 sAdd (varO 5) (tupO (seqP [keepP (bin2 sAdd (konst (.int 1)) (callF drawC (seqO [varO 0, konst (.int 2)]))), keepP (bin2 sAdd (konst (.int 1)) (callF drawC (seqO [varO 0, konst (.int 2)]))), keepP (callF drawC (seqO [varO 0, bin2 sAdd (varO 2) (konst (.int 1))]))])))))))
def T3.f_law_well : F := defF 3 6 [0, 1, 2] T3.b_law_well
def T3.b_law_crew_l1 : Loc → Rs Fl := seqS (asgS 6 (keepS (bin2 sSub (callF drawC (seqO [varO 0, bin2 sAdd (bin2 sIx (varO 1) (konst (.int 4))) (bin2 sIx (varO 1) (konst (.int 5)))])) (bin2 sIx (varO 1) (konst (.int 5))))))
 (exprS (appO 4 (keepP (ifV (tstV (bin2 (sCmpI fun i j => decide (i < j)) (varO 6) (konst (.int 0)))) (varO 6) (bin2 sAdd (varO 6) (konst (.int 1)))))))
def T3.b_law_crew_e1 : Loc → Rs PV := keepP (callF drawC (seqO [varO 0, bin2 sAdd (bin2 sIx (varO 1) (konst (.int 0))) (konst (.int 1))]))
def T3.b_law_crew : Loc → Rs Fl := seqS (asgS 4 (keepS (lstO (seqP []))))
 (seqS (forS (.nm 5) (walkR1 (seqO [bin2 sAdd (konst (.int 1)) (callF drawC (seqO [varO 0, varO 3]))])) T3.b_law_crew_l1)
 (seqS (asgS 7 (keepS (callB sTuple (seqO [lcO 9 (.nm 5) [5] (walkR1 (seqO [bin2 sIx (varO 1) (konst (.int 8))])) yesT T3.b_law_crew_e1]))))
 (seqS (asgS 8 (keepS (ifV (tstV (bin2 sEq (varO 2) (konst (.str "turns")))) (callF drawC (seqO [varO 0, callB sLen (seqO [varO 4])])) (konst (.int 0)))))
 (retS (keepS (tupO (seqP [keepP (callF drawC (seqO [varO 0, bin2 sAdd (bin2 sIx (varO 1) (konst (.int 0))) (konst (.int 1))])), keepP (varO 7), keepP (callB sTuple (seqO [varO 4])), keepP (varO 8)])))))))
def T3.f_law_crew : F := defF 4 9 [0, 1, 2, 3] T3.b_law_crew
def T3.b_law_led_crew_e1 : Loc → Rs PV := keepP (varO 12)
def T3.b_law_led_crew_t1 : Loc → Rs Bool := tstV (bin2 sEq (bin2 sIx (varO 6) (varO 12)) (bin2 sSub (konst (.int 0)) (bin2 sIx (varO 0) (konst (.int 5)))))
def T3.b_law_led_crew_l1 : Loc → Rs Fl := ifS (tstV (bin2 sIn (varO 12) (varO 10))) (exprS (appO 11 (keepP (konst (.int 1))))) (ifS (andT (tstV (bin2 (sCmpI fun i j => decide (j < i)) (varO 13) (konst (.int 0)))) (andT (tstV (bin2 (sCmpI fun i j => decide (i ≤ j)) (varO 8) (bin2 sIx (varO 0) (konst (.int 3))))) (tstV (bin2 sEq (varO 13) (bin2 sIx (varO 0) (konst (.int 4))))))) (exprS (appO 11 (keepP (bin2 sSub (konst (.int 0)) (konst (.int 1)))))) (exprS (appO 11 (keepP (ifV (tstV (bin2 (sCmpI fun i j => decide (j < i)) (varO 13) (konst (.int 0)))) (callB sMin (seqO [bin2 sAdd (varO 13) (konst (.int 1)), bin2 sIx (varO 0) (konst (.int 4))])) (callB sMax (seqO [bin2 sSub (varO 13) (konst (.int 1)), bin2 sSub (konst (.int 0)) (bin2 sIx (varO 0) (konst (.int 5)))])))))))
def T3.b_law_led_crew_e2 : Loc → Rs PV := keepP (varO 12)
def T3.b_law_led_crew_t2 : Loc → Rs Bool := tstV (bin2 (sCmpI fun i j => decide (j < i)) (bin2 sIx (varO 11) (varO 12)) (konst (.int 0)))
def T3.b_law_led_crew : Loc → Rs Fl := seqS (unpS (.tp [.nm 4, .nm 5, .nm 6, .nm 7]) (varO 2))
 (seqS (asgS 8 (keepS (ifV (tstV (bin2 (sCmpI fun i j => decide (j < i)) (bin2 sIx (varO 0) (konst (.int 8))) (konst (.int 0)))) (bin2 sIx (varO 5) (konst (.int 0))) (varO 4))))
 (seqS (asgS 8 (keepS (bin2 sSub (varO 8) (bin2 sMod (callB sInt (seqO [varO 8])) (bin2 sIx (varO 0) (konst (.int 7)))))))
 (seqS (parN [9, 10, 11] (seqV [keepS (un1 (sRg1 true) (callB sLen (seqO [varO 6]))), keepS (lstO (seqP [])), keepS (lstO (seqP []))]))
 (seqS (ifS (tstV (bin2 sEq (varO 1) (konst (.str "turns")))) (asgS 9 (keepS (bin2 sAdd (slO (varO 9) (aPart (varO 7)) noPart) (slO (varO 9) noPart (aPart (varO 7)))))) (skip))
 (seqS (ifS (tstV (bin2 (sCmpI fun i j => decide (j ≤ i)) (varO 8) (bin2 sIx (varO 0) (konst (.int 2))))) (asgS 10 (keepS (slO (lcO 16 (.nm 12) [12] (walkV (keepP (varO 9))) T3.b_law_led_crew_t1 T3.b_law_led_crew_e1) noPart (aPart (bin2 sIx (varO 0) (konst (.int 6))))))) (skip))
 (seqS (forS (.tp [.nm 12, .nm 13]) (walkE (keepP (varO 6))) T3.b_law_led_crew_l1)
 (seqS (asgS 14 (keepS (callB sTuple (seqO [lcO 16 (.nm 12) [12] (walkR1 (seqO [callB sLen (seqO [varO 11])])) T3.b_law_led_crew_t2 T3.b_law_led_crew_e2]))))
 (seqS (asgS 15 (keepS (bin2 sSub (bin2 sAdd (varO 4) (varO 3)) (bin2 sMul (bin2 sIx (varO 0) (konst (.int 1))) (callB sLen (seqO [varO 14]))))))
 (seqS (ifS (andT (tstV (bin2 sEq (varO 1) (konst (.str "turns")))) (tstV (bin2 sNe (varO 10) (lstO (seqP []))))) (asgS 7 (keepS (bin2 sMod (callB sInt (seqO [bin2 sAdd (bin2 sIx (varO 10) (un1 sNeg (konst (.int 1)))) (konst (.int 1))])) (callB sLen (seqO [varO 6]))))) (skip))
 (seqS (ifS (orT (tstV (bin2 (sCmpI fun i j => decide (i < j)) (varO 15) (konst (.int 0)))) (tstV (bin2 (sCmpI fun i j => decide (j < i)) (varO 15) (bin2 sIx (varO 0) (konst (.int 0)))))) (retS (keepS (tupO (seqP [keepP (bin2 sIx (lstO (seqP [keepP (konst (.str "dry")), keepP (konst (.str "over"))])) (callB sInt (seqO [bin2 (sCmpI fun i j => decide (j < i)) (varO 15) (konst (.int 0))]))), keepP (varO 14), keepP (callB sTuple (seqO [callB sSorted (seqO [varO 10])]))])))) (skip))
 (retS (keepS (tupO (seqP [keepP (tupO (seqP [keepP (varO 15), keepP (slO (bin2 sAdd (varO 5) (tupO (seqP [keepP (varO 4)]))) (aPart (konst (.int 1))) noPart), keepP (callB sTuple (seqO [varO 11])), keepP (varO 7)])), keepP (varO 14), keepP (callB sTuple (seqO [callB sSorted (seqO [varO 10])]))]))))))))))))))
def T3.f_law_led_crew : F := defF 4 16 [0, 1, 2, 3] T3.b_law_led_crew
theorem wellC_ok {d : DrC} {tp lg : Int} (t1 : 2 ≤ tp) (t2 : tp ≤ 190) (g1' : 0 ≤ lg) (g2' : lg ≤ 3) (hc : d.c + 100 < 100000000) : ∃ (w : Well) (d' : DrC), d'.c = d.c + 9 ∧ w.Ok ∧ w.top ≤ tp ∧ w.drain ≤ 3 ∧ w.run ≤ 3 ∧ w.rest ≤ 3 ∧ w.starts ≤ 2 ∧ w.step ≤ 2 ∧ w.lag ≤ lg ∧ T3.f_law_well [d.sv, .v (.int tp), .v (.int lg)] = .ok (.v w.p) [d'.sv, .v (.int tp), .v (.int lg)] := by
  have a1 := d.nn (tp - 1); have a2 := d.lt (T := tp - 1) (by omega)
  have ex1 := DrC.next (d := d) (T := tp - 1) (by omega) (by omega) (by omega)
  have c1 := DrC.nxt_c (d := d) (T := tp - 1)
  generalize d.num (tp - 1) = x1 at *
  generalize d.nxt (tp - 1) = d1 at *
  have b1 := d1.nn (2 + x1); have b2 := d1.lt (T := 2 + x1) (by omega)
  have ex2 := DrC.next (d := d1) (T := 2 + x1) (by omega) (by omega) (by omega)
  have c2 := DrC.nxt_c (d := d1) (T := 2 + x1)
  generalize d1.num (2 + x1) = x2 at *
  generalize d1.nxt (2 + x1) = d2 at *
  have e1 := d2.nn 3; have e2 := d2.lt (T := 3) (by decide)
  have ex3 := DrC.next (d := d2) (T := 3) (by decide) (by decide) (by omega)
  have c3 := DrC.nxt_c (d := d2) (T := 3)
  generalize d2.num 3 = x3 at *
  generalize d2.nxt 3 = d3 at *
  have f1 := d3.nn (1 + x2); have f2 := d3.lt (T := 1 + x2) (by omega)
  have ex4 := DrC.next (d := d3) (T := 1 + x2) (by omega) (by omega) (by omega)
  have c4 := DrC.nxt_c (d := d3) (T := 1 + x2)
  generalize d3.num (1 + x2) = x4 at *
  generalize d3.nxt (1 + x2) = d4 at *
  have g1 := d4.nn 3; have g2 := d4.lt (T := 3) (by decide)
  have ex5 := DrC.next (d := d4) (T := 3) (by decide) (by decide) (by omega)
  have c5 := DrC.nxt_c (d := d4) (T := 3)
  generalize d4.num 3 = x5 at *
  generalize d4.nxt 3 = d5 at *
  have i1 := d5.nn 3; have i2 := d5.lt (T := 3) (by decide)
  have ex6 := DrC.next (d := d5) (T := 3) (by decide) (by decide) (by omega)
  have c6 := DrC.nxt_c (d := d5) (T := 3)
  generalize d5.num 3 = x6 at *
  generalize d5.nxt 3 = d6 at *
  have j1 := d6.nn 2; have j2 := d6.lt (T := 2) (by decide)
  have ex7 := DrC.next (d := d6) (T := 2) (by decide) (by decide) (by omega)
  have c7 := DrC.nxt_c (d := d6) (T := 2)
  generalize d6.num 2 = x7 at *
  generalize d6.nxt 2 = d7 at *
  have k1 := d7.nn 2; have k2 := d7.lt (T := 2) (by decide)
  have ex8 := DrC.next (d := d7) (T := 2) (by decide) (by decide) (by omega)
  have c8 := DrC.nxt_c (d := d7) (T := 2)
  generalize d7.num 2 = x8 at *
  generalize d7.nxt 2 = d8 at *
  have l1 := d8.nn (lg + 1); have l2 := d8.lt (T := lg + 1) (by omega)
  have ex9 := DrC.next (d := d8) (T := lg + 1) (by omega) (by omega) (by omega)
  have c9 := DrC.nxt_c (d := d8) (T := lg + 1)
  generalize d8.num (lg + 1) = x9 at *
  generalize d8.nxt (lg + 1) = d9 at *
  refine ⟨⟨2 + x1, 1 + x3, 1 + x2, x4, 1 + x5, 1 + x6, 1 + x7, 1 + x8, x9⟩, d9, by omega, ?_, by dsimp only; omega, by dsimp only; omega, by dsimp only; omega, by dsimp only; omega, by dsimp only; omega, by dsimp only; omega, by dsimp only; omega, ?_⟩
  · constructor <;> dsimp only <;> omega
  · refine defF_rt (ρ := [some d.sv, some (.v (.int tp)), some (.v (.int lg)), none, none, none])
      (ρ' := [some d9.sv, some (.v (.int tp)), some (.v (.int lg)), some (.v (.int (2 + x1))), some (.v (.int (1 + x2))), some (.v (.tup [.int (2 + x1), .int (1 + x3), .int (1 + x2), .int x4, .int (1 + x5), .int (1 + x6)]))]) rfl rfl ?_ rfl
    unfold T3.b_law_well
    simp_arith [m_tkC, m_put1C, ex1, ex2, ex3, ex4, ex5, ex6, ex7, ex8, ex9, Well.p]
section
variable {w : Well} {t : Bool}
theorem crewC_l1 {d : DrC} {n : Int} {acc : List Int} {x5 x6 x7 x8 : Option SV} {k : Int} (W : w.Ok) (hc : d.c < 100000000) (hl : acc.length < 1000) :
    T3.b_law_crew_l1 [some d.sv, some (.v w.p), some (.v (ruP t)), some (.v (.int n)), some (.l (acc.map .int)), some (.v (.int k)), x6, x7, x8] =
      .ok .nx [some (d.nxt (w.run + w.rest)).sv, some (.v w.p), some (.v (ruP t)), some (.v (.int n)), some (.l ((acc ++ [if d.num (w.run + w.rest) - w.rest < 0 then d.num (w.run + w.rest) - w.rest else d.num (w.run + w.rest) - w.rest + 1]).map .int)), some (.v (.int k)), some (.v (.int (d.num (w.run + w.rest) - w.rest))), x7, x8] := by
  have e1 := W.e1; have e2 := W.e2; have f1 := W.f1; have f2 := W.f2
  have hac : (acc.map PV.int).length < 1000000 := by rw [List.length_map]; omega
  unfold T3.b_law_crew_l1
  by_cases h : d.num (w.run + w.rest) - w.rest < 0
  · simp_arith [w_4, w_5, m_tkC, m_put1C, DrC.next, decide_eq_true h, h, hac, List.map_append]
  · simp_arith [w_4, w_5, m_tkC, m_put1C, DrC.next, decide_eq_false h, h, hac, List.map_append]
theorem lawC_crew_ok {d : DrC} {n : Int} (W : w.Ok) (h1 : 1 ≤ n) (h2 : n ≤ 6) (hc : d.c + 100 < 100000000) :
    ∃ (c : Cw) (d' : DrC), T3.f_law_crew [d.sv, .v w.p, .v (ruP t), .v (.int n)] = .ok (.v c.p) [d'.sv, .v w.p, .v (ruP t), .v (.int n)] ∧ c.Ok w t ∧ d'.c ≤ d.c + 20 := by
  obtain ⟨a1, a2, b1, b2, c1, c2, d1, d2', e1, e2, f1, f2, g1, g2, j1, j2, i1, i2⟩ := id W
  have m1 := d.nn n; have m2 := d.lt (T := n) (by omega)
  obtain ⟨ρ1, hl, I1⟩ := forL_all (tg := .nm 5) (b := T3.b_law_crew_l1) (inj := fun i : Nat => PV.int (i : Int)) (fun xs ρ => ∃ (d' : DrC) (acc : List Int) (x5 x6 : Option SV), freeV (some x5) = true ∧ ρ = [some d'.sv, some (.v w.p), some (.v (ruP t)), some (.v (.int n)), some (.l (acc.map .int)), x5, x6, none, none] ∧ d'.c + xs.length = d.c + 1 + (1 + d.num n).toNat ∧ acc.length + xs.length = (1 + d.num n).toNat ∧ (∀ x ∈ acc, -w.rest ≤ x ∧ x ≤ w.run ∧ x ≠ 0))
    (fun x xs ρ ⟨d', acc, x5, x6, hx5, e, k1, k2, k3⟩ => by
      subst e
      rw [List.length_cons] at k1 k2
      have n1 := d'.nn (w.run + w.rest); have n2 := d'.lt (T := w.run + w.rest) (by omega)
      refine ⟨_, _, rfl, .inl (crewC_l1 (x5 := x5) W (by omega) (by omega)), _, _, _, _, by rfl, rfl, ?_, ?_, ?_⟩
      · rw [DrC.nxt_c]; omega
      · rw [List.length_append, List.length_singleton]; omega
      · intro y hy
        rcases List.mem_append.mp hy with hy | hy
        · exact k3 y hy
        · rw [List.mem_singleton.mp hy]; split <;> omega)
    (List.range (1 + d.num n).toNat) [some (d.nxt n).sv, some (.v w.p), some (.v (ruP t)), some (.v (.int n)), some (.l []), none, none, none, none]
    ⟨d.nxt n, [], none, none, rfl, rfl, by rw [List.length_range, DrC.nxt_c], by rw [List.length_range]; simp, (fun _ h => nomatch h)⟩
  obtain ⟨d', acc, x5, x6, hx5, e, k1, k2, k3⟩ := I1
  rw [List.length_nil, Nat.add_zero] at k1 k2
  obtain ⟨hp, hpc⟩ := lc_acc (n := 9) (k := 5) (ci := walkR1 (seqO [bin2 sIx (varO 1) (konst (.int 8))])) (c := T3.b_law_crew_e1) (inj := fun i : Nat => PV.int (i : Int)) (o := x5) (fun q : DrC => [some q.sv, some (.v w.p), some (.v (ruP t)), some (.v (.int n)), some (.l (acc.map .int)), x5, x6, none, none]) d' (List.range w.lag.toNat) (fun q _ => q.nxt (w.top + 1)) (fun q _ => .int (q.num (w.top + 1)))
    (fun q n => q.c + n ≤ d.c + 15) rfl (fun _ => rfl) hx5 (by simp_arith [w_8, range_map]) (by rw [List.length_range]; omega)
    (fun q x n hq => ⟨by unfold T3.b_law_crew_e1; simp_arith [w_0, m_tkC, m_put1C, DrC.next], by rw [DrC.nxt_c]; omega⟩) (by rw [List.length_range]; omega)
  generalize hD : (List.range w.lag.toNat).foldl (fun (q : DrC) _ => q.nxt (w.top + 1)) d' = d2 at hp hpc
  have key : ∀ (ys : List Nat) (q : DrC), ∃ ps : List Int, mapAcc (fun (q : DrC) (_ : Nat) => q.nxt (w.top + 1)) (fun q _ => PV.int (q.num (w.top + 1))) q ys = ps.map .int ∧ ps.length = ys.length ∧ ∀ x ∈ ps, 0 ≤ x ∧ x ≤ w.top := by
    intro ys
    induction ys with
    | nil => exact fun _ => ⟨[], rfl, rfl, fun _ h => nomatch h⟩
    | cons y ys ih =>
      intro q
      obtain ⟨ps, q1, q2, q3⟩ := ih (q.nxt (w.top + 1))
      refine ⟨q.num (w.top + 1) :: ps, by unfold mapAcc; rw [q1]; rfl, by rw [List.length_cons, List.length_cons, q2], fun x hx => ?_⟩
      rcases List.mem_cons.mp hx with rfl | hx
      · have := q.nn (w.top + 1); have := q.lt (T := w.top + 1) (by omega); omega
      · exact q3 x hx
  obtain ⟨ps, hps, q2, q3⟩ := key (List.range w.lag.toNat) d'
  rw [List.length_range] at q2
  rw [hps] at hp
  have n1 := d2.nn (w.top + 1); have n2 := d2.lt (T := w.top + 1) (by omega)
  have hlen : acc.length = (1 + d.num n).toNat := k2
  have hal : ((acc.map PV.int).length : Int) = acc.length := by rw [List.length_map]
  cases t with
  | true =>
    have r1 := d2.nn (acc.length : Nat); have r2 := d2.lt (T := (acc.length : Nat)) (by omega)
    have s1 := (d2.nxt (acc.length : Nat)).nn (w.top + 1); have s2 := (d2.nxt (acc.length : Nat)).lt (T := w.top + 1) (by omega)
    have hcc : (d2.nxt (acc.length : Nat)).c = d2.c + 1 := DrC.nxt_c
    refine ⟨⟨(d2.nxt (acc.length : Nat)).num (w.top + 1), ps, acc, (d2.num (acc.length : Nat)).toNat⟩, (d2.nxt (acc.length : Nat)).nxt (w.top + 1), ?_, ⟨s1, by dsimp only; omega, by dsimp only; omega, q3, by dsimp only; omega, by dsimp only; omega, k3, by dsimp only; omega, fun z => nomatch z⟩, by rw [DrC.nxt_c, DrC.nxt_c]; omega⟩
    refine defF_rt (ρ := [some d.sv, some (.v w.p), some (.v (ruP true)), some (.v (.int n)), none, none, none, none, none])
      (ρ' := [some ((d2.nxt (acc.length : Nat)).nxt (w.top + 1)).sv, some (.v w.p), some (.v (ruP true)), some (.v (.int n)), some (.l (acc.map .int)), x5, x6, some (.v (.tup (ps.map .int))), some (.v (.int (d2.num (acc.length : Nat))))]) rfl rfl ?_ rfl
    unfold T3.b_law_crew
    rw [seq_at (ρ1 := [some d.sv, some (.v w.p), some (.v (ruP true)), some (.v (.int n)), some (.l []), none, none, none, none]) (by simp_arith [m_lst])]
    rw [seq_at (ρ1 := ρ1) (by simp_arith [m_tkC, m_put1C, DrC.next, range_map]; exact hl)]
    subst e
    rw [seq_at (ρ1 := [some d2.sv, some (.v w.p), some (.v (ruP true)), some (.v (.int n)), some (.l (acc.map .int)), x5, x6, some (.v (.tup (ps.map .int))), none]) (by simp_arith [hp])]
    have hm : ((d2.num (acc.length : Nat)).toNat : Int) = d2.num (acc.length : Nat) := by omega
    simp_arith [ru_eq, w_0, m_tkC, m_put1C, DrC.next, Cw.p, hm]
  | false =>
    refine ⟨⟨d2.num (w.top + 1), ps, acc, 0⟩, d2.nxt (w.top + 1), ?_, ⟨n1, by dsimp only; omega, by dsimp only; omega, q3, by dsimp only; omega, by dsimp only; omega, k3, by dsimp only; omega, fun _ => rfl⟩, by rw [DrC.nxt_c]; omega⟩
    refine defF_rt (ρ := [some d.sv, some (.v w.p), some (.v (ruP false)), some (.v (.int n)), none, none, none, none, none])
      (ρ' := [some (d2.nxt (w.top + 1)).sv, some (.v w.p), some (.v (ruP false)), some (.v (.int n)), some (.l (acc.map .int)), x5, x6, some (.v (.tup (ps.map .int))), some (.v (.int 0))]) rfl rfl ?_ rfl
    unfold T3.b_law_crew
    rw [seq_at (ρ1 := [some d.sv, some (.v w.p), some (.v (ruP false)), some (.v (.int n)), some (.l []), none, none, none, none]) (by simp_arith [m_lst])]
    rw [seq_at (ρ1 := ρ1) (by simp_arith [m_tkC, m_put1C, DrC.next, range_map]; exact hl)]
    subst e
    rw [seq_at (ρ1 := [some d2.sv, some (.v w.p), some (.v (ruP false)), some (.v (.int n)), some (.l (acc.map .int)), x5, x6, some (.v (.tup (ps.map .int))), none]) (by simp_arith [hp])]
    simp_arith [ru_eq, w_0, m_tkC, m_put1C, DrC.next, Cw.p]
end
end Lt
set_option maxHeartbeats 1000000
/-! LtLed: the law's own beat (third family) -/
namespace Lt
open PySem PySem.Spec L2
open PyProof.Rows hiding St
local macro_rules
  | `(tactic| simp_arith [$as,*]) => `(tactic| simp (disch := first | assumption | omega | decide | (simp only [List.length_cons, List.length_nil, List.length_map, List.length_append, List.length_replicate, List.length_take, List.length_drop, List.length_dropLast, List.length_tail, List.length_range, List.length_set]; omega)) only [m_seq, m_if, m_or, m_and, m_not, m_tst, m_un, m_bin, m_konst, m_tm, m_sl, m_var, m_andV, m_orV, m_ifV, m_ret, m_retM, m_keepS, m_keepP, m_skip, m_cmp, m_callB, m_callF, m_seqO, m_seqO0, m_seqP, m_seqP0, m_seqV, m_seqV0, m_par2, m_par3, m_tup, m_lst, m_asg, m_unp, m_tgn, m_tgt, m_tgm, m_met, m_isT, m_tgs, m_tgs0, m_take0, m_take, m_take1t, m_take1s, m_tkv, m_tkl, m_tkr, m_tko, m_tkd, m_put, m_put0, m_put1t, m_put1v, m_put1l, m_put1r, m_expr, m_valT, m_noP, m_aP, m_slO, m_for, m_wR1, m_wR2, m_wV, m_app, m_setO, m_rec, m_fd, m_chn, m_get0, m_get, big_of, k_neg, k_add, k_addT, k_addL, m_sub, k_mul, k_mul', k_mulT, k_mod, k_div, k_int, k_min, k_max, k_eqI, k_neI', k_eqS, k_neS, k_lenT', k_lenL, k_lenK, k_tupL, k_tupT, k_tupK, k_lisL, k_lisT, k_lisK, k_sumT, ix_0, ix_1, ix_2, ix_3, ix_4, ix_5, ix_6, ix_7, ix_8, il_0, il_1, cut_m1, cut_m2, cut_1, cut_toI, cut_fromI, cut_abI, List.drop_one, k_slT, k_slL, k_slK, k_is_ii, k_is_bi, k_is_tt, k_is_st, k_is_si, k_is_ss, k_is_ti, k_is_ts, k_non_i, k_non_n, k_non_s, k_non_t, k_nn_i, k_nn_n, k_nn_s, k_nn_t, k_isnB, k_isB, k_itT, k_itL, List.getElem?_cons_zero, List.getElem?_cons_succ, List.set_cons_zero, List.set_cons_succ, List.length_cons, List.length_nil, List.length_map, List.map_cons, List.map_nil, List.replicate, List.cons_append, List.nil_append, Nat.reduceAdd, Nat.reduceSub, Nat.reduceLT, Nat.reduceLeDiff, Int.reduceNeg, Int.reduceAdd, Int.reduceSub, Int.reduceMul, Int.reduceEq, Int.reduceLE, Int.reduceLT, Int.cast_ofNat_Int, Int.natCast_zero, Int.natCast_one, Int.reduceToNat, Int.toNat_natCast, if_true, if_false, if_pos, if_neg, eq_self, Bool.false_eq_true, Bool.not_true, Bool.not_false, Bool.true_and, Bool.and_true, Bool.false_and, Bool.and_false, Bool.true_or, Bool.or_true, Bool.and_self, Bool.or_self, Bool.false_or, Bool.or_false, decide_true, decide_false, and_self, and_true, true_and, and_false, false_and, not_true_eq_false, not_false_eq_true, $as,*])
section
variable {w : Well} {c : Cw} {t : Bool}
theorem in_natL {k : Nat} {ks : List Nat} (hk : k < 1000) (h : ∀ j ∈ ks, j < 1000) (hl : ks.length ≤ 1000) : sIn (.v (.int (k : Nat))) (.l (ks.map natP)) = some (.v (.bl (decide (k ∈ ks)))) := in_nat hk h hl
theorem led_crew_ok {i : Int} (W : w.Ok) (C : c.Ok w t) : T3.f_law_led_crew [.v w.p, .v (ruP t), .v c.p, .v (.int i)] = .ok (.v (.tup [c.beat w t i, .tup ((c.runs w t).map natP), .tup ((sortI ((c.begs w t).map fun (k : Nat) => (k : Int))).map .int)])) [.v w.p, .v (ruP t), .v c.p, .v (.int i)] := by
  have h0 := C.n0; have h1 := C.n1; have b1 := W.b1; have b2 := W.b2; have i2 := W.i2; have pl := C.pl; have ml := C.ml; have j1 := W.h1; have a1 := W.a1; have g1 := W.g1
  have hbl := Cw.begs_len (w := w) (t := t) (c := c)
  have hlt := C.begs_lt
  have hseen : w.seen c.lv c.past = (if 0 < w.lag then c.past.headD 0 else c.lv) - (if 0 < w.lag then c.past.headD 0 else c.lv) % w.step := rfl
  have p1 : ∀ rest : Loc → Rs Fl, seqS (unpS (.tp [.nm 4, .nm 5, .nm 6, .nm 7]) (varO 2))
      (seqS (asgS 8 (keepS (ifV (tstV (bin2 (sCmpI fun i j => decide (j < i)) (bin2 sIx (varO 0) (konst (.int 8))) (konst (.int 0)))) (bin2 sIx (varO 5) (konst (.int 0))) (varO 4))))
      (seqS (asgS 8 (keepS (bin2 sSub (varO 8) (bin2 sMod (callB sInt (seqO [varO 8])) (bin2 sIx (varO 0) (konst (.int 7)))))))
      (seqS (parN [9, 10, 11] (seqV [keepS (un1 (sRg1 true) (callB sLen (seqO [varO 6]))), keepS (lstO (seqP [])), keepS (lstO (seqP []))])) rest))) [some (.v w.p), some (.v (ruP t)), some (.v c.p), some (.v (.int i)), none, none, none, none, none, none, none, none, none, none, none, none] = rest [some (.v w.p), some (.v (ruP t)), some (.v c.p), some (.v (.int i)), some (.v (.int c.lv)), some (.v (.tup (c.past.map .int))), some (.v (.tup (c.ages.map .int))), some (.v (.int (c.mark : Nat))), some (.v (.int (w.seen c.lv c.past))), some (.l ((List.range c.ages.length).map natP)), some (.l []), some (.l []), none, none, none, none] := by
    intro rest
    by_cases hl : 0 < w.lag
    · have e : c.past.headD 0 - c.past.headD 0 % w.step = w.seen c.lv c.past := by rw [hseen, if_pos hl]
      have hx : sIx (.v (.tup (c.past.map .int))) (.v (.int 0)) = some (.v (.int (c.past.headD 0))) := by
        cases hp : c.past with
        | nil => rw [hp] at pl; simp at pl; omega
        | cons a r => rw [List.map_cons]; exact ix_0
      simp_arith [c_tg, w_8, decide_eq_true hl, hx, w_7, e, rg_nat, parN, bindR, setAll]
    · have e : c.lv - c.lv % w.step = w.seen c.lv c.past := by rw [hseen, if_neg hl]
      simp_arith [c_tg, w_8, decide_eq_false hl, w_7, e, rg_nat, parN, bindR, setAll]
  have p2 : ∀ rest : Loc → Rs Fl, seqS (ifS (tstV (bin2 sEq (varO 1) (konst (.str "turns")))) (asgS 9 (keepS (bin2 sAdd (slO (varO 9) (aPart (varO 7)) noPart) (slO (varO 9) noPart (aPart (varO 7)))))) (skip)) rest [some (.v w.p), some (.v (ruP t)), some (.v c.p), some (.v (.int i)), some (.v (.int c.lv)), some (.v (.tup (c.past.map .int))), some (.v (.tup (c.ages.map .int))), some (.v (.int (c.mark : Nat))), some (.v (.int (w.seen c.lv c.past))), some (.l ((List.range c.ages.length).map natP)), some (.l []), some (.l []), none, none, none, none] = rest [some (.v w.p), some (.v (ruP t)), some (.v c.p), some (.v (.int i)), some (.v (.int c.lv)), some (.v (.tup (c.past.map .int))), some (.v (.tup (c.ages.map .int))), some (.v (.int (c.mark : Nat))), some (.v (.int (w.seen c.lv c.past))), some (.l ((c.order t).map natP)), some (.l []), some (.l []), none, none, none, none] := by
    intro rest
    cases t with
    | true =>
      have ho : ((List.range c.ages.length).map natP).drop c.mark ++ ((List.range c.ages.length).map natP).take c.mark = (c.order true).map natP := by
        rw [show c.order true = _ from order_rot ml, List.map_append, List.map_drop, List.map_take]
      simp_arith [ru_eq, ho]
    | false =>
      have ho : c.order false = List.range c.ages.length := rfl
      simp_arith [ru_eq, ho]
  have p3 : ∃ o9 : Option SV, ∀ rest : Loc → Rs Fl, seqS (ifS (tstV (bin2 (sCmpI fun i j => decide (j ≤ i)) (varO 8) (bin2 sIx (varO 0) (konst (.int 2))))) (asgS 10 (keepS (slO (lcO 16 (.nm 12) [12] (walkV (keepP (varO 9))) T3.b_law_led_crew_t1 T3.b_law_led_crew_e1) noPart (aPart (bin2 sIx (varO 0) (konst (.int 6))))))) (skip)) rest [some (.v w.p), some (.v (ruP t)), some (.v c.p), some (.v (.int i)), some (.v (.int c.lv)), some (.v (.tup (c.past.map .int))), some (.v (.tup (c.ages.map .int))), some (.v (.int (c.mark : Nat))), some (.v (.int (w.seen c.lv c.past))), some (.l ((c.order t).map natP)), some (.l []), some (.l []), none, none, none, none] = rest [some (.v w.p), some (.v (ruP t)), some (.v c.p), some (.v (.int i)), some (.v (.int c.lv)), some (.v (.tup (c.past.map .int))), some (.v (.tup (c.ages.map .int))), some (.v (.int (c.mark : Nat))), some (.v (.int (w.seen c.lv c.past))), o9, some (.l ((c.begs w t).map natP)), some (.l []), none, none, none, none] := by
    by_cases hs : w.seen c.lv c.past < w.on
    · refine ⟨some (.l ((c.order t).map natP)), fun rest => ?_⟩
      have hb : c.begs w t = [] := by unfold Cw.begs; rw [if_pos hs]
      simp_arith [w_2, decide_eq_false (show ¬ w.on ≤ w.seen c.lv c.past by omega), hb]
    · refine ⟨some (.v (.lst ((c.order t).map natP))), fun rest => ?_⟩
      have hb : c.begs w t = ((c.order t).filter fun k => decide (c.ages.getD k 0 = -w.rest)).take w.starts.toNat := by unfold Cw.begs; rw [if_neg hs]
      have hlc := lc_tg (n := 16) (tg := .nm 12) (vs := [12]) (ci := walkV (keepP (varO 9))) (ct := T3.b_law_led_crew_t1) (c := T3.b_law_led_crew_e1) (inj := natP)
        (ρ0 := [some (.v w.p), some (.v (ruP t)), some (.v c.p), some (.v (.int i)), some (.v (.int c.lv)), some (.v (.tup (c.past.map .int))), some (.v (.tup (c.ages.map .int))), some (.v (.int (c.mark : Nat))), some (.v (.int (w.seen c.lv c.past))), some (.l ((c.order t).map natP)), some (.l []), some (.l []), none, none, none, none]) (ρ := [some (.v w.p), some (.v (ruP t)), some (.v c.p), some (.v (.int i)), some (.v (.int c.lv)), some (.v (.tup (c.past.map .int))), some (.v (.tup (c.ages.map .int))), some (.v (.int (c.mark : Nat))), some (.v (.int (w.seen c.lv c.past))), some (.v (.lst ((c.order t).map natP))), some (.l []), some (.l []), none, none, none, none])
        (fun k => [some (.v w.p), some (.v (ruP t)), some (.v c.p), some (.v (.int i)), some (.v (.int c.lv)), some (.v (.tup (c.past.map .int))), some (.v (.tup (c.ages.map .int))), some (.v (.int (c.mark : Nat))), some (.v (.int (w.seen c.lv c.past))), some (.v (.lst ((c.order t).map natP))), some (.l []), some (.l []), some (.v (natP k)), none, none, none]) natP (fun k => decide (c.ages.getD k 0 = -w.rest)) (c.order t) rfl rfl rfl rfl (fun k hk => ⟨rfl, rfl, by
          unfold T3.b_law_led_crew_t1
          have := C.order_lt k hk
          simp_arith [ixNat, w_5]
          rw [show (0 : Int) - w.rest = -w.rest by omega], fun _ => rfl⟩) (by rw [Cw.order_len]; omega)
      simp_arith [w_2, w_6, decide_eq_true (show w.on ≤ w.seen c.lv c.past by omega), hlc, hb, List.map_take]
  obtain ⟨o9, p3⟩ := p3
  obtain ⟨ρ', hl, acc, o1, o2, e1, e2, _, f1⟩ := forL_all (tg := .tp [.nm 12, .nm 13]) (b := T3.b_law_led_crew_l1) (inj := fun p : Int × Nat => PV.tmp [.int (p.2 : Nat), .int p.1])
    (fun rest ρ => ∃ (acc : List Int) (o1 o2 : Option SV), ρ = [some (.v w.p), some (.v (ruP t)), some (.v c.p), some (.v (.int i)), some (.v (.int c.lv)), some (.v (.tup (c.past.map .int))), some (.v (.tup (c.ages.map .int))), some (.v (.int (c.mark : Nat))), some (.v (.int (w.seen c.lv c.past))), o9, some (.l ((c.begs w t).map natP)), some (.l (acc.map .int)), o1, o2, none, none] ∧ acc ++ rest.map (c.aged w t) = c.agesA w t ∧ (∀ x ∈ rest, x.2 < 1000) ∧ freeV (some o1) = true)
    (fun x xs ρ ⟨acc, o1, o2, e1, e2, e3, f1⟩ => by
      subst e1
      have hal : acc.length + xs.length + 1 = c.ages.length := by
        have := congrArg List.length e2
        rw [Cw.agesA_len, List.length_append, List.map_cons, List.length_cons, List.length_map] at this
        omega
      have hx2 := e3 x List.mem_cons_self
      refine ⟨_, [some (.v w.p), some (.v (ruP t)), some (.v c.p), some (.v (.int i)), some (.v (.int c.lv)), some (.v (.tup (c.past.map .int))), some (.v (.tup (c.ages.map .int))), some (.v (.int (c.mark : Nat))), some (.v (.int (w.seen c.lv c.past))), o9, some (.l ((c.begs w t).map natP)), some (.l ((acc ++ [c.aged w t x]).map .int)), some (.v (.int (x.2 : Nat))), some (.v (.int x.1)), none, none], rfl, .inl ?_, acc ++ [c.aged w t x], _, _, rfl, by rw [List.append_assoc]; exact e2, fun y hy => e3 y (List.mem_cons_of_mem _ hy), rfl⟩
      have hin : sIn (.v (.int (x.2 : Nat))) (.l ((c.begs w t).map natP)) = some (.v (.bl (decide (x.2 ∈ c.begs w t)))) := in_natL hx2 (fun j hj => by have := hlt j hj; omega) (by omega)
      unfold T3.b_law_led_crew_l1
      have hac : (acc.map PV.int).length < 1000000 := by rw [List.length_map]; omega
      by_cases z1 : x.2 ∈ c.begs w t
      · have ev : c.aged w t x = 1 := by unfold Cw.aged; rw [if_pos z1]
        simp_arith [hin, decide_eq_true z1, ev, hac, List.map_append]
      · by_cases z2 : 0 < x.1
        · by_cases z3 : w.seen c.lv c.past ≤ w.off
          · by_cases z4 : x.1 = w.run
            · have ev : c.aged w t x = 0 - 1 := by unfold Cw.aged; rw [if_neg z1, if_pos z2, if_pos ⟨z3, z4⟩]; rfl
              simp_arith [hin, decide_eq_false z1, decide_eq_true z2, decide_eq_true z3, decide_eq_true z4, w_3, w_4, ev, hac, List.map_append]
            · have ev : c.aged w t x = min (x.1 + 1) w.run := by unfold Cw.aged; rw [if_neg z1, if_pos z2, if_neg fun z => z4 z.2]
              simp_arith [hin, decide_eq_false z1, decide_eq_true z2, decide_eq_true z3, decide_eq_false z4, w_3, w_4, ev, hac, List.map_append]
          · have ev : c.aged w t x = min (x.1 + 1) w.run := by unfold Cw.aged; rw [if_neg z1, if_pos z2, if_neg fun z => z3 z.1]
            simp_arith [hin, decide_eq_false z1, decide_eq_true z2, decide_eq_false z3, w_3, w_4, ev, hac, List.map_append]
        · have ev : c.aged w t x = max (x.1 - 1) (0 - w.rest) := by unfold Cw.aged; rw [if_neg z1, if_neg z2, show (0 : Int) - w.rest = -w.rest by omega]
          simp_arith [hin, decide_eq_false z1, decide_eq_false z2, w_5, ev, hac, List.map_append])
    c.ages.zipIdx _ ⟨[], none, none, rfl, rfl, fun x hx => by have := (List.mem_zipIdx hx).2.1; omega, rfl⟩
  rw [List.map_nil, List.append_nil] at e2
  subst e1 e2
  rw [List.map_nil] at hl
  have hw : walkE (keepP (varO 6)) [some (.v w.p), some (.v (ruP t)), some (.v c.p), some (.v (.int i)), some (.v (.int c.lv)), some (.v (.tup (c.past.map .int))), some (.v (.tup (c.ages.map .int))), some (.v (.int (c.mark : Nat))), some (.v (.int (w.seen c.lv c.past))), o9, some (.l ((c.begs w t).map natP)), some (.l []), none, none, none, none] = .ok (c.ages.zipIdx.map fun p => PV.tmp [.int (p.2 : Nat), .int p.1]) [some (.v w.p), some (.v (ruP t)), some (.v c.p), some (.v (.int i)), some (.v (.int c.lv)), some (.v (.tup (c.past.map .int))), some (.v (.tup (c.ages.map .int))), some (.v (.int (c.mark : Nat))), some (.v (.int (w.seen c.lv c.past))), o9, some (.l ((c.begs w t).map natP)), some (.l []), none, none, none, none] := by
    rw [← enumP_ints]; exact k_wE rfl
  have hlen : ((c.agesA w t).map PV.int).length = c.ages.length := by rw [List.length_map, Cw.agesA_len]
  have hlc := lc_if (n := 16) (k := 12) (ci := walkR1 (seqO [callB sLen (seqO [varO 11])])) (ct := T3.b_law_led_crew_t2) (c := T3.b_law_led_crew_e2) (ρ := [some (.v w.p), some (.v (ruP t)), some (.v c.p), some (.v (.int i)), some (.v (.int c.lv)), some (.v (.tup (c.past.map .int))), some (.v (.tup (c.ages.map .int))), some (.v (.int (c.mark : Nat))), some (.v (.int (w.seen c.lv c.past))), o9, some (.l ((c.begs w t).map natP)), some (.l ((c.agesA w t).map .int)), o1, o2, none, none])
    (inj := natP) natP (fun k => decide (0 < (c.agesA w t).getD k 0)) (List.range c.ages.length) rfl f1 (by
      have hk : sLen [.l ((c.agesA w t).map .int)] = some (.v (.int (c.ages.length : Nat))) := by rw [k_lenL, hlen]
      simp (disch := first | assumption | omega | decide) only [m_wR1, m_seqO, m_seqO0, m_callB, m_var, m_sl, m_get, m_get0, hk, m_tm, List.getElem?_cons_zero, List.getElem?_cons_succ, big_of, if_true, range_map, Int.toNat_natCast]) (fun k hk => ⟨by
      unfold T3.b_law_led_crew_t2
      have := List.mem_range.mp hk
      have hl2 : k < (c.agesA w t).length := by rw [Cw.agesA_len]; exact this
      simp_arith [ixL_nat hl2], fun _ => rfl⟩) (by rw [List.length_range]; omega)
  rw [← Cw.runs_eq] at hlc
  have hrl : ((c.runs w t).map natP).length = c.many w t := by rw [List.length_map, Cw.runs_len]
  have hlv : c.lv + i - w.drain * (c.many w t : Nat) = c.lvA w t i := rfl
  have p4 : ∀ rest : Loc → Rs Fl, seqS (forS (.tp [.nm 12, .nm 13]) (walkE (keepP (varO 6))) T3.b_law_led_crew_l1)
      (seqS (asgS 14 (keepS (callB sTuple (seqO [lcO 16 (.nm 12) [12] (walkR1 (seqO [callB sLen (seqO [varO 11])])) T3.b_law_led_crew_t2 T3.b_law_led_crew_e2]))))
      (seqS (asgS 15 (keepS (bin2 sSub (bin2 sAdd (varO 4) (varO 3)) (bin2 sMul (bin2 sIx (varO 0) (konst (.int 1))) (callB sLen (seqO [varO 14])))))) rest)) [some (.v w.p), some (.v (ruP t)), some (.v c.p), some (.v (.int i)), some (.v (.int c.lv)), some (.v (.tup (c.past.map .int))), some (.v (.tup (c.ages.map .int))), some (.v (.int (c.mark : Nat))), some (.v (.int (w.seen c.lv c.past))), o9, some (.l ((c.begs w t).map natP)), some (.l []), none, none, none, none] = rest [some (.v w.p), some (.v (ruP t)), some (.v c.p), some (.v (.int i)), some (.v (.int c.lv)), some (.v (.tup (c.past.map .int))), some (.v (.tup (c.ages.map .int))), some (.v (.int (c.mark : Nat))), some (.v (.int (w.seen c.lv c.past))), o9, some (.l ((c.begs w t).map natP)), some (.l ((c.agesA w t).map .int)), o1, o2, some (.v (.tup ((c.runs w t).map natP))), some (.v (.int (c.lvA w t i)))] := by
    intro rest
    simp_arith [hw, hl, hlc, hrl, w_1, hlv]
  have p5 : ∀ rest : Loc → Rs Fl, seqS (ifS (andT (tstV (bin2 sEq (varO 1) (konst (.str "turns")))) (tstV (bin2 sNe (varO 10) (lstO (seqP []))))) (asgS 7 (keepS (bin2 sMod (callB sInt (seqO [bin2 sAdd (bin2 sIx (varO 10) (un1 sNeg (konst (.int 1)))) (konst (.int 1))])) (callB sLen (seqO [varO 6]))))) (skip)) rest [some (.v w.p), some (.v (ruP t)), some (.v c.p), some (.v (.int i)), some (.v (.int c.lv)), some (.v (.tup (c.past.map .int))), some (.v (.tup (c.ages.map .int))), some (.v (.int (c.mark : Nat))), some (.v (.int (w.seen c.lv c.past))), o9, some (.l ((c.begs w t).map natP)), some (.l ((c.agesA w t).map .int)), o1, o2, some (.v (.tup ((c.runs w t).map natP))), some (.v (.int (c.lvA w t i)))] = rest [some (.v w.p), some (.v (ruP t)), some (.v c.p), some (.v (.int i)), some (.v (.int c.lv)), some (.v (.tup (c.past.map .int))), some (.v (.tup (c.ages.map .int))), some (.v (.int (c.markA w t : Nat))), some (.v (.int (w.seen c.lv c.past))), o9, some (.l ((c.begs w t).map natP)), some (.l ((c.agesA w t).map .int)), o1, o2, some (.v (.tup ((c.runs w t).map natP))), some (.v (.int (c.lvA w t i)))] := by
    intro rest
    cases t with
    | true =>
      by_cases z3 : c.begs w true = []
      · have hm : c.markA w true = c.mark := by unfold Cw.markA; rw [if_neg fun z => z.2 z3]
        rw [hm]
        simp_arith [ru_eq, begs_neL, decide_eq_false (show ¬ c.begs w true ≠ [] from fun z => z z3)]
      · have hm : (((c.begs w true).getLastD 0 : Nat) + 1 : Int) % (c.ages.length : Nat) = ((c.markA w true : Nat) : Int) := by
          unfold Cw.markA; rw [if_pos ⟨rfl, z3⟩, Int.natCast_emod]; rfl
        simp_arith [ru_eq, begs_neL, begs_last z3, decide_eq_true (show c.begs w true ≠ [] from z3), hm]
    | false =>
      have hm : c.markA w false = c.mark := by unfold Cw.markA; rw [if_neg fun z => nomatch z.1]
      rw [hm]
      simp_arith [ru_eq]
  refine defF_rt (ρ' := [some (.v w.p), some (.v (ruP t)), some (.v c.p), some (.v (.int i)), some (.v (.int c.lv)), some (.v (.tup (c.past.map .int))), some (.v (.tup (c.ages.map .int))), some (.v (.int (c.markA w t : Nat))), some (.v (.int (w.seen c.lv c.past))), o9, some (.l ((c.begs w t).map natP)), some (.l ((c.agesA w t).map .int)), o1, o2, some (.v (.tup ((c.runs w t).map natP))), some (.v (.int (c.lvA w t i)))]) rfl rfl ?_ rfl
  unfold T3.b_law_led_crew
  refine (p1 _).trans ((p2 _).trans ((p3 _).trans ((p4 _).trans ((p5 _).trans ?_))))
  unfold Cw.beat
  have hfin : PV.tup [.int (c.lvA w t i), .tup ((pastAft c.past c.lv).map .int), .tup ((c.agesA w t).map .int), .int (c.markA w t : Nat)] = (c.aft w t i).p := rfl
  have hpt : ((c.past.map PV.int) ++ [PV.int c.lv]).tail = (pastAft c.past c.lv).map .int := by
    unfold pastAft
    rw [List.map_tail, List.map_append]; rfl
  have hpl : c.past.length ≤ 3 := by omega
  by_cases z1 : w.top < c.lvA w t i
  · have z0 : 0 < c.lvA w t i := by omega
    simp_arith [w_0, decide_eq_true z1, decide_eq_false (show ¬ c.lvA w t i < 0 by omega), decide_eq_true z0, z1, sorted_nat, k_intB, il_1]
  · by_cases z2 : c.lvA w t i < 0
    · simp_arith [w_0, decide_eq_false z1, decide_eq_true z2, decide_eq_false (show ¬ 0 < c.lvA w t i by omega), z1, z2, sorted_nat, k_intB, il_0]
    · simp_arith [w_0, decide_eq_false z1, decide_eq_false z2, z1, z2, sorted_nat, hpt, hfin]
end
end Lt
set_option maxHeartbeats 0
namespace Lt.K79
open PySem PySem.Spec L2
open PyProof.Rows hiding St
def topS (i : Nat) : Stmt := PySem.Challenge.pw_pumphouse_k79_whole_crews_count_as_state.main.body.getD i (.Pass ⟨0, 0, 0, 0⟩)
theorem e__law_begun : semDef 60 1 ["_law_script", "_law_some", "_law_cell"] [0] [] ["list"] [] [] (topS 59) = begunC := by kernel_rfl
theorem e__law_mix : semDef 60 2 ["_law_cell", "_law_spot", "_law_first_here", "_law_second"] [0, 1] [] ["int"] [] [] (topS 58) = mixC := by kernel_rfl
theorem e__law_draw : semDef 60 2 ["_law_m", "_law_limit", "_law_spot", "_law_here", "_law_left"] [0, 1] [] ["int", "len"] [("_law_mix", mixC)] [] (topS 60) = drawC := by kernel_rfl
theorem e__law_well : semDef 60 3 ["_law_m", "_law_top", "_law_lag", "_law_high", "_law_on", "_law_start"] [0, 1, 2] [] [] [("_law_draw", drawC)] [] (topS 61) = T3.f_law_well := by kernel_rfl
theorem e__law_first : semDef 60 3 ["_law_well_here", "_law_pumps", "_law_level"] [0, 1, 2] [] [] [] [] (topS 62) = A.f_law_first := by kernel_rfl
theorem e__law_crew : semDef 60 4 ["_law_m", "_law_well_here", "_law_rule", "_law_most_so", "_law_ages", "_law_k", "_law_age", "_law_past", "_law_mark"] [0, 1, 2, 3] [] ["range", "tuple", "len"] [("_law_draw", drawC)] [] (topS 64) = T3.f_law_crew := by kernel_rfl
theorem e__law_led_crew : semDef 60 4 ["_law_well_here", "_law_rule", "_law_crew_here", "_law_inflow", "_law_level", "_law_past", "_law_ages", "_law_mark", "_law_seen_so", "_law_order_so", "_law_fresh_so", "_law_found", "_law_k", "_law_age", "_law_some", "_law_later"] [0, 1, 2, 3] [] ["int", "list", "range", "len", "enumerate", "min", "max", "tuple", "sorted"] [] [] (topS 63) = T3.f_law_led_crew := by kernel_rfl
theorem e_is_whole : semDef 60 3 ["thing", "least", "most"] [0, 1, 2] [] ["isinstance", "bool", "int"] [] [] (topS 15) = P.f_is_whole := by kernel_rfl
theorem e_wrong_part : semDef 60 1 ["thing", "top", "drain", "on", "off", "run", "rest", "starts", "step", "lag"] [0] [("MOST_TOP", (.int 200)), ("MOST_DRAIN", (.int 50)), ("MOST_AGE", (.int 5)), ("MOST_STARTS", (.int 5)), ("MOST_STEP", (.int 20)), ("MOST_LAG", (.int 3))] [] [("is_whole", P.f_is_whole)] [] (topS 16) = P.f_wrong_part := by kernel_rfl
theorem e_need_well : semDef 60 1 ["thing", "part"] [0] [] ["isinstance", "tuple", "len"] [("wrong_part", P.f_wrong_part)] [("BadWell", some "part"), ("OutOfPlace", none)] (topS 17) = P.f_need_well := by kernel_rfl
theorem e_need_rule : semDef 60 1 ["rule"] [0] [("FIRST", (.str "first")), ("TURNS", (.str "turns"))] ["isinstance", "str"] [] [("BadWell", some "part"), ("OutOfPlace", none)] (topS 41) = P.f_need_rule := by kernel_rfl
theorem e_is_past : semDef 60 2 ["well", "thing", "one"] [0, 1] [] ["isinstance", "tuple", "all", "len"] [("is_whole", P.f_is_whole)] [] (topS 43) = P.f_is_past := by kernel_rfl
theorem e_is_age : semDef 60 2 ["well", "thing"] [0, 1] [] [] [("is_whole", P.f_is_whole)] [] (topS 42) = P.f_is_age := by kernel_rfl
theorem e_is_crew_of : semDef 60 3 ["well", "rule", "thing", "age"] [0, 1, 2] [("MOST_PUMPS", (.int 6)), ("TURNS", (.str "turns"))] ["isinstance", "tuple", "len", "all"] [("is_whole", P.f_is_whole), ("is_past", P.f_is_past), ("is_age", P.f_is_age)] [] (topS 44) = P.f_is_crew_of := by kernel_rfl
theorem e_need_crew : semDef 60 3 ["well", "rule", "crew"] [0, 1, 2] [] [] [("need_well", P.f_need_well), ("need_rule", P.f_need_rule), ("is_crew_of", P.f_is_crew_of)] [("BadWell", some "part"), ("OutOfPlace", none)] (topS 46) = P.f_need_crew := by kernel_rfl
theorem e_need_inflow : semDef 60 1 ["inflow"] [0] [("MOST_INFLOW_crews", (.int 300))] [] [("is_whole", P.f_is_whole)] [("BadWell", some "part"), ("OutOfPlace", none)] (topS 52) = P.f_need_inflow := by kernel_rfl
theorem e_seen_of : semDef 60 3 ["well", "level", "past", "found"] [0, 1, 2] [] ["int"] [] [] (topS 26) = P.f_seen_of := by kernel_rfl
theorem e_beginners : semDef 60 3 ["well", "rule", "crew", "level", "past", "pumps", "mark", "names", "turn", "name"] [0, 1, 2] [("TURNS", (.str "turns"))] ["list", "range", "int", "len"] [("seen_of", P.f_seen_of)] [] (topS 49) = P.f_beginners := by kernel_rfl
theorem e_ages_after : semDef 60 3 ["well", "rule", "crew", "level", "past", "pumps", "mark", "begun", "found", "is_low", "name", "age"] [0, 1, 2] [] ["enumerate", "max", "min", "tuple"] [("beginners", P.f_beginners), ("seen_of", P.f_seen_of)] [] (topS 50) = P.f_ages_after := by kernel_rfl
theorem e_crew_in : semDef 60 4 ["well", "rule", "crew", "inflow", "level", "past", "pumps", "mark", "ages", "begun", "later", "age"] [0, 1, 2, 3] [("OVER_crews", (.str "over")), ("DRY_crews", (.str "dry")), ("TURNS", (.str "turns"))] ["len", "int"] [("ages_after", P.f_ages_after), ("beginners", P.f_beginners)] [] (topS 51) = P.f_crew_in := by kernel_rfl
theorem e_crew_after : semDef 60 4 ["well", "rule", "crew", "inflow"] [0, 1, 2, 3] [] [] [("need_crew", P.f_need_crew), ("need_inflow", P.f_need_inflow), ("crew_in", P.f_crew_in)] [] (topS 53) = P.f_crew_after := by kernel_rfl
theorem e_runners : semDef 60 3 ["well", "rule", "crew", "name", "age"] [0, 1, 2] [] ["enumerate"] [("ages_after", P.f_ages_after)] [] (topS 54) = P.f_runners := by kernel_rfl
theorem e_running : semDef 60 4 ["well", "rule", "crew", "inflow"] [0, 1, 2, 3] [] ["tuple"] [("need_crew", P.f_need_crew), ("need_inflow", P.f_need_inflow), ("runners", P.f_runners)] [] (topS 55) = P.f_running := by kernel_rfl
theorem e_starting : semDef 60 4 ["well", "rule", "crew", "inflow"] [0, 1, 2, 3] [] ["tuple", "sorted"] [("need_crew", P.f_need_crew), ("need_inflow", P.f_need_inflow), ("beginners", P.f_beginners)] [] (topS 56) = P.f_starting := by kernel_rfl
def b__law_counted_e1 : Loc → Rs PV := keepP (metB isTupS sCnt (varO 2) (seqO [varO 4]))
def b__law_counted_e2 : Loc → Rs PV := keepP (metB isTupS sCnt (varO 2) (seqO [bin2 sSub (konst (.int 0)) (varO 4)]))
def b__law_counted : Loc → Rs Fl := seqS (asgS 2 (keepS (bin2 sIx (varO 1) (konst (.int 2)))))
 (seqS (asgS 3 (keepS (callB sTuple (seqO [lcO 6 (.nm 4) [4] (walkR2 (seqO [konst (.int 1), bin2 sAdd (bin2 sIx (varO 0) (konst (.int 4))) (konst (.int 1))])) yesT b__law_counted_e1]))))
 (seqS (asgS 5 (keepS (callB sTuple (seqO [lcO 6 (.nm 4) [4] (walkR2 (seqO [konst (.int 1), bin2 sIx (varO 0) (konst (.int 5))])) yesT b__law_counted_e2]))))
 (retS (keepS (tupO (seqP [keepP (bin2 sIx (varO 1) (konst (.int 0))), keepP (bin2 sIx (varO 1) (konst (.int 1))), keepP (varO 3), keepP (varO 5), keepP (metB isTupS sCnt (varO 2) (seqO [bin2 sSub (konst (.int 0)) (bin2 sIx (varO 0) (konst (.int 5)))]))]))))))
def f__law_counted : F := defF 2 6 [0, 1] b__law_counted
theorem e__law_counted : semDef 60 2 ["_law_well_here", "_law_crew_here", "_law_ages", "_law_on", "_law_k", "_law_off"] [0, 1] [] ["tuple", "range"] [] [] (topS 65) = f__law_counted := by kernel_rfl
theorem e_are_levels : semDef 60 3 ["well", "thing", "many", "level"] [0, 1, 2] [] ["isinstance", "tuple", "len", "all"] [("is_whole", P.f_is_whole)] [] (topS 21) = P.f_are_levels := by kernel_rfl
theorem e_are_counts : semDef 60 2 ["thing", "many", "count"] [0, 1] [("MOST_COUNT", (.int 1000))] ["isinstance", "tuple", "len", "all"] [("is_whole", P.f_is_whole)] [] (topS 20) = P.f_are_counts := by kernel_rfl
theorem e_number_of : semDef 60 1 ["state"] [0] [] ["sum"] [] [] (topS 23) = P.f_number_of := by kernel_rfl
theorem e_is_state_of : semDef 60 2 ["well", "thing"] [0, 1] [("MOST_NUMBER", (.int 50))] ["isinstance", "tuple", "len"] [("is_whole", P.f_is_whole), ("are_levels", P.f_are_levels), ("are_counts", P.f_are_counts), ("number_of", P.f_number_of)] [] (topS 22) = P.f_is_state_of := by kernel_rfl
theorem e_need_state : semDef 60 2 ["well", "state"] [0, 1] [] [] [("is_state_of", P.f_is_state_of), ("need_well", P.f_need_well)] [("BadWell", some "part"), ("OutOfPlace", none)] (topS 32) = P.f_need_state := by kernel_rfl
theorem e_is_inflow : semDef 60 1 ["thing"] [0] [("MOST_INFLOW_wells", (.int 300))] [] [("is_whole", P.f_is_whole)] [] (topS 31) = P.f_is_inflow := by kernel_rfl
theorem e_moves_of : semDef 60 2 ["well", "state", "seen"] [0, 1] [] ["min"] [("seen_of", P.f_seen_of)] [] (topS 27) = P.f_moves_of := by kernel_rfl
theorem e_aged : semDef 60 6 ["well", "running", "resting", "ready", "started", "stopped", "on", "off"] [0, 1, 2, 3, 4, 5] [] [] [] [] (topS 28) = P.f_aged := by kernel_rfl
theorem e_led_to : semDef 60 5 ["well", "state", "started", "stopped", "inflow", "on", "off", "ready", "level", "busy", "past"] [0, 1, 2, 3, 4] [("OVER_wells", (.str "over")), ("DRY_wells", (.str "dry"))] ["sum"] [("aged", P.f_aged)] [] (topS 29) = P.f_led_to := by kernel_rfl
theorem e_after_in : semDef 60 3 ["well", "state", "inflow", "started", "stopped"] [0, 1, 2] [] [] [("moves_of", P.f_moves_of), ("led_to", P.f_led_to)] [] (topS 30) = P.f_after_in := by kernel_rfl
theorem e_after : semDef 60 3 ["well", "state", "inflow"] [0, 1, 2] [] [] [("need_state", P.f_need_state), ("is_inflow", P.f_is_inflow), ("after_in", P.f_after_in)] [("BadWell", some "part"), ("OutOfPlace", none)] (topS 33) = P.f_after := by kernel_rfl
theorem e_state_of : semDef 60 2 ["well", "crew", "level", "past", "pumps", "mark", "running", "age", "resting"] [0, 1] [("TURNS", (.str "turns"))] ["tuple", "range"] [("need_well", P.f_need_well), ("is_crew_of", P.f_is_crew_of)] [("BadWell", some "part"), ("OutOfPlace", none)] (topS 48) = P.f_state_of := by kernel_rfl
theorem e_is_crew : semDef 60 3 ["well", "rule", "value"] [0, 1, 2] [] [] [("need_well", P.f_need_well), ("need_rule", P.f_need_rule), ("is_crew_of", P.f_is_crew_of)] [] (topS 45) = P.f_is_crew := by kernel_rfl
def b__law_endless : Loc → Rs Fl := retS (keepS (bin2 sAdd (slO (varO 1) noPart (aPart (konst (.int 4)))) (tupO (seqP [keepP (konst .non)]))))
def f__law_endless : F := defF 2 2 [0, 1] b__law_endless
theorem e__law_endless : semDef 60 2 ["_law_well_here", "_law_state"] [0, 1] [] [] [] [] (topS 66) = f__law_endless := by kernel_rfl
def b__law_step_right : Loc → Rs Fl := seqS (unpS (.tp [.nm 4, .nm 5, .nm 6]) (callF T3.f_law_led_crew (seqO [varO 0, varO 1, varO 2, varO 3])))
 (seqS (asgS 7 (keepS (callF P.f_crew_after (seqO [varO 0, varO 1, varO 2, varO 3]))))
 (seqS (ifS (orT (tstV (bin2 sNe (callB sRepr (seqO [varO 7])) (callB sRepr (seqO [varO 4])))) (tstV (bin2 sNe (callB sRepr (seqO [callF P.f_running (seqO [varO 0, varO 1, varO 2, varO 3])])) (callB sRepr (seqO [varO 5]))))) (retS (keepS (konst (.bl false)))) (skip))
 (seqS (ifS (tstV (bin2 sNe (callB sRepr (seqO [callF P.f_starting (seqO [varO 0, varO 1, varO 2, varO 3])])) (callB sRepr (seqO [varO 6])))) (retS (keepS (konst (.bl false)))) (skip))
 (seqS (asgS 8 (keepS (callF f__law_counted (seqO [varO 0, varO 2]))))
 (seqS (asgS 9 (keepS (callF P.f_after (seqO [varO 0, varO 8, varO 3]))))
 (seqS (ifS (tstV (bin2 sNe (callB sRepr (seqO [callF P.f_state_of (seqO [varO 0, varO 2])])) (callB sRepr (seqO [varO 8])))) (retS (keepS (konst (.bl false)))) (skip))
 (seqS (ifS (tstV (un1 (sIsi "str") (varO 7))) (retS (keepS (ifV (tstV (bin2 sEq (varO 9) (varO 7))) (konst .non) (konst (.bl false))))) (skip))
 (seqS (ifS (orT (tstV (bin2 sNe (varO 9) (callF P.f_state_of (seqO [varO 0, varO 7])))) (tstV (bin2 sIsNot (callF P.f_is_crew (seqO [varO 0, varO 1, varO 7])) (konst (.bl true))))) (retS (keepS (konst (.bl false)))) (skip))
 (seqS (ifS (tstV (bin2 (sCmpI fun i j => decide (j ≤ i)) (bin2 sIx (varO 8) (konst (.int 4))) (bin2 sIx (varO 0) (konst (.int 6))))) (seqS (asgS 10 (keepS (callF P.f_after (seqO [varO 0, callF f__law_endless (seqO [varO 0, varO 8]), varO 3]))))
 (ifS (tstV (bin2 sNe (varO 10) (callF f__law_endless (seqO [varO 0, varO 9])))) (retS (keepS (konst (.bl false)))) (skip))) (skip))
 (retM 7))))))))))
def f__law_step_right : F := defF 4 11 [0, 1, 2, 3] b__law_step_right
theorem e__law_step_right : semDef 60 4 ["_law_well_here", "_law_rule", "_law_crew_here", "_law_inflow", "_law_due", "_law_some", "_law_fresh", "_law_here", "_law_state", "_law_far", "_law_later"] [0, 1, 2, 3] [] ["repr", "isinstance", "str"] [("_law_led_crew", T3.f_law_led_crew), ("crew_after", P.f_crew_after), ("running", P.f_running), ("starting", P.f_starting), ("_law_counted", f__law_counted), ("after", P.f_after), ("state_of", P.f_state_of), ("is_crew", P.f_is_crew), ("_law_endless", f__law_endless)] [] (topS 67) = f__law_step_right := by kernel_rfl
theorem e_first_crew : semDef 60 3 ["well", "pumps", "level"] [0, 1, 2] [("MOST_PUMPS", (.int 6))] [] [("need_well", P.f_need_well), ("is_whole", P.f_is_whole)] [("BadWell", some "part"), ("OutOfPlace", none)] (topS 47) = P.f_first_crew := by kernel_rfl
theorem e_is_number : semDef 60 1 ["thing"] [0] [("MOST_NUMBER", (.int 50))] [] [("is_whole", P.f_is_whole)] [] (topS 18) = P.f_is_number := by kernel_rfl
theorem e_need_number : semDef 60 1 ["number"] [0] [] [] [("is_number", P.f_is_number)] [("BadWell", some "part"), ("OutOfPlace", none)] (topS 19) = P.f_need_number := by kernel_rfl
theorem e_begun_with : semDef 60 3 ["well", "number", "level"] [0, 1, 2] [] [] [] [] (topS 24) = P.f_begun_with := by kernel_rfl
theorem e_begun : semDef 60 3 ["well", "number", "level"] [0, 1, 2] [] [] [("need_well", P.f_need_well), ("need_number", P.f_need_number), ("is_whole", P.f_is_whole), ("begun_with", P.f_begun_with)] [("BadWell", some "part"), ("OutOfPlace", none)] (topS 25) = P.f_begun := by kernel_rfl
def b_law_l1 : Loc → Rs Fl := seqS (asgS 10 (keepS (callF drawC (seqO [varO 1, bin2 sAdd (konst (.int 3)) (bin2 sMul (bin2 sIx (varO 3) (konst (.int 1))) (konst (.int 4)))]))))
 (seqS (asgS 6 (keepS (callF f__law_step_right (seqO [varO 3, konst (.str "first"), varO 6, varO 10]))))
 (seqS (asgS 7 (keepS (callF f__law_step_right (seqO [varO 3, konst (.str "turns"), varO 7, varO 10]))))
 (seqS (asgS 8 (keepS (callF f__law_step_right (seqO [varO 3, konst (.str "turns"), varO 8, varO 10]))))
 (seqS (ifS (orT (tstV (bin2 sIn (konst (.bl false)) (tupO (seqP [keepP (varO 6), keepP (varO 7), keepP (varO 8)])))) (tstV (bin2 sNe (bin2 sIs (varO 6) (konst .non)) (bin2 sIs (varO 7) (konst .non))))) (retS (keepS (konst (.bl false)))) (skip))
 (seqS (ifS (tstV (bin2 sIs (varO 6) (konst .non))) ((fun ρ => .ok .bk ρ)) (skip))
 (seqS (ifS (tstV (bin2 sNe (callF f__law_counted (seqO [varO 3, varO 6])) (callF f__law_counted (seqO [varO 3, varO 7])))) (retS (keepS (konst (.bl false)))) (skip))
 (ifS (tstV (bin2 sIs (varO 8) (konst .non))) (asgS 8 (keepS (callF T3.f_law_crew (seqO [varO 1, varO 3, konst (.str "turns"), konst (.int 6)])))) (skip))))))))
def b_law_l2 : Loc → Rs Fl := seqS (asgS 3 (keepS (callF T3.f_law_well (seqO [varO 1, konst (.int 40), konst (.int 3)]))))
 (seqS (asgS 3 (keepS (bin2 sAdd (slO (varO 3) noPart (aPart (konst (.int 6)))) (tupO (seqP [keepP (bin2 sAdd (konst (.int 1)) (callF drawC (seqO [varO 1, konst (.int 5)]))), keepP (bin2 sAdd (konst (.int 1)) (callF drawC (seqO [varO 1, konst (.int 20)]))), keepP (bin2 sIx (varO 3) (konst (.int 8)))])))))
 (seqS (parS [4, 5] (seqV [keepS (bin2 sAdd (konst (.int 1)) (callF drawC (seqO [varO 1, konst (.int 6)]))), keepS (callF drawC (seqO [varO 1, bin2 sAdd (bin2 sIx (varO 3) (konst (.int 0))) (konst (.int 1))]))]))
 (seqS (asgS 6 (keepS (callF A.f_law_first (seqO [varO 3, varO 4, varO 5]))))
 (seqS (asgS 7 (keepS (varO 6)))
 (seqS (ifS (orT (tstV (bin2 sNe (callF P.f_first_crew (seqO [varO 3, varO 4, varO 5])) (varO 6))) (tstV (bin2 sNe (callF P.f_begun (seqO [varO 3, varO 4, varO 5])) (callF f__law_counted (seqO [varO 3, varO 6]))))) (retS (keepS (konst (.bl false)))) (skip))
 (seqS (asgS 8 (keepS (callF T3.f_law_crew (seqO [varO 1, varO 3, konst (.str "turns"), konst (.int 6)]))))
 (forS (.nm 9) (walkR1 (seqO [konst (.int 12)])) b_law_l1)))))))
def b_law : Loc → Rs Fl := seqS (asgS 1 (keepS (callF begunC (seqO [varO 0]))))
 (seqS (forS (.nm 2) (walkR1 (seqO [bin2 sAdd (konst (.int 6)) (callB sMin (seqO [konst (.int 8), callB sLen (seqO [varO 0])]))])) b_law_l2)
 (retS (keepS (konst (.bl true)))))
def f_law : F := defF 1 11 [0] b_law
theorem e_law : semDef 60 1 ["_law_script", "_law_m", "_law_turn", "_law_well_here", "_law_pumps", "_law_level", "_law_one", "_law_other", "_law_lone", "_law_again", "_law_inflow"] [0] [] ["range", "min", "len"] [("_law_begun", begunC), ("_law_well", T3.f_law_well), ("_law_first", A.f_law_first), ("_law_crew", T3.f_law_crew), ("_law_draw", drawC), ("_law_step_right", f__law_step_right), ("first_crew", P.f_first_crew), ("begun", P.f_begun), ("_law_counted", f__law_counted)] [] (topS 68) = f_law := by kernel_rfl
end Lt.K79
set_option maxHeartbeats 1000000
/-! P79: law k79 -/
namespace Lt.K79
open PySem PySem.Spec L2
open PyProof.Rows hiding St
local macro_rules
  | `(tactic| simp_arith [$as,*]) => `(tactic| simp (disch := first | assumption | omega | decide | (simp only [List.length_cons, List.length_nil, List.length_map, List.length_append, List.length_replicate, List.length_take, List.length_drop, List.length_dropLast, List.length_tail, List.length_range, List.length_set]; omega)) only [m_seq, m_if, m_or, m_and, m_not, m_tst, m_un, m_bin, m_konst, m_tm, m_sl, m_var, m_andV, m_orV, m_ifV, m_ret, m_retM, m_keepS, m_keepP, m_skip, m_cmp, m_callB, m_callF, m_seqO, m_seqO0, m_seqP, m_seqP0, m_seqV, m_seqV0, m_par2, m_par3, m_tup, m_lst, m_asg, m_unp, m_tgn, m_tgt, m_tgm, m_met, m_isT, m_tgs, m_tgs0, m_take0, m_take, m_take1t, m_take1s, m_tkv, m_tkl, m_tkr, m_tko, m_tkd, m_put, m_put0, m_put1t, m_put1v, m_put1l, m_put1r, m_expr, m_valT, m_noP, m_aP, m_slO, m_for, m_wR1, m_wR2, m_wV, m_app, m_setO, m_rec, m_fd, m_chn, m_get0, m_get, big_of, k_neg, k_add, k_addT, k_addL, m_sub, k_mul, k_mul', k_mulT, k_mod, k_div, k_int, k_min, k_max, k_eqI, k_neI', k_eqS, k_neS, k_lenT', k_lenL, k_lenK, k_tupL, k_tupT, k_tupK, k_lisL, k_lisT, k_lisK, k_sumT, ix_0, ix_1, ix_2, ix_3, ix_4, ix_5, ix_6, ix_7, ix_8, il_0, il_1, cut_m1, cut_m2, cut_1, cut_toI, cut_fromI, cut_abI, List.drop_one, k_slT, k_slL, k_slK, k_is_ii, k_is_bi, k_is_tt, k_is_st, k_is_si, k_is_ss, k_is_ti, k_is_ts, k_non_i, k_non_n, k_non_s, k_non_t, k_nn_i, k_nn_n, k_nn_s, k_nn_t, k_isnB, k_isB, k_itT, k_itL, List.getElem?_cons_zero, List.getElem?_cons_succ, List.set_cons_zero, List.set_cons_succ, List.length_cons, List.length_nil, List.length_map, List.map_cons, List.map_nil, List.replicate, List.cons_append, List.nil_append, Nat.reduceAdd, Nat.reduceSub, Nat.reduceLT, Nat.reduceLeDiff, Int.reduceNeg, Int.reduceAdd, Int.reduceSub, Int.reduceMul, Int.reduceEq, Int.reduceLE, Int.reduceLT, Int.cast_ofNat_Int, Int.natCast_zero, Int.natCast_one, Int.reduceToNat, Int.toNat_natCast, if_true, if_false, if_pos, if_neg, eq_self, Bool.false_eq_true, Bool.not_true, Bool.not_false, Bool.true_and, Bool.and_true, Bool.false_and, Bool.and_false, Bool.true_or, Bool.or_true, Bool.and_self, Bool.or_self, Bool.false_or, Bool.or_false, decide_true, decide_false, and_self, and_true, true_and, and_false, false_and, not_true_eq_false, not_false_eq_true, $as,*])
variable {w : Well} {c : Cw} {t : Bool}
theorem counted_ok (W : w.Ok) (C : c.Ok w t) : f__law_counted [.v w.p, .v c.p] = .ok (.v (c.st w).p) [.v w.p, .v c.p] := by
  have e1 := W.e1; have e2 := W.e2; have f1 := W.f1; have f2 := W.f2
  have hlc1 := lc_all (n := 6) (k := 4) (ci := walkR2 (seqO [konst (.int 1), bin2 sAdd (bin2 sIx (varO 0) (konst (.int 4))) (konst (.int 1))])) (c := b__law_counted_e1) (ρ := [some (.v w.p), some (.v c.p), some (.v (.tup (c.ages.map .int))), none, none, none])
    (inj := fun k : Nat => PV.int ((k : Int) + 1)) (fun k => .int ((c.ages.count ((k : Int) + 1) : Nat) : Int)) (List.range w.run.toNat) rfl rfl (by
      simp_arith [w_4, rangeP_1]
      rw [show w.run + 1 - 1 = w.run by omega]) (fun k _ => by unfold b__law_counted_e1; simp_arith [k_cnt]) (by rw [List.length_range]; omega)
  have hlc2 := lc_all (n := 6) (k := 4) (ci := walkR2 (seqO [konst (.int 1), bin2 sIx (varO 0) (konst (.int 5))])) (c := b__law_counted_e2) (ρ := [some (.v w.p), some (.v c.p), some (.v (.tup (c.ages.map .int))), some (.v (.tup ((cntOn w c.ages).map .int))), none, none])
    (inj := fun k : Nat => PV.int ((k : Int) + 1)) (fun k => .int ((c.ages.count (-((k : Int) + 1)) : Nat) : Int)) (List.range (w.rest - 1).toNat) rfl rfl (by
      simp_arith [w_5, rangeP_1]) (fun k _ => by
        unfold b__law_counted_e2
        simp_arith [k_cnt]
        rw [show (0 : Int) - ((k : Int) + 1) = -((k : Int) + 1) by omega]) (by rw [List.length_range]; omega)
  have m1 : (List.range w.run.toNat).map (fun (k : Nat) => PV.int ((c.ages.count ((k : Int) + 1) : Nat) : Int)) = (cntOn w c.ages).map .int := by unfold cntOn; rw [List.map_map]; rfl
  have m2 : (List.range (w.rest - 1).toNat).map (fun (k : Nat) => PV.int ((c.ages.count (-((k : Int) + 1)) : Nat) : Int)) = (cntOff w c.ages).map .int := by unfold cntOff; rw [List.map_map]; rfl
  rw [m1] at hlc1; rw [m2] at hlc2
  refine defF_rt (ρ' := [some (.v w.p), some (.v c.p), some (.v (.tup (c.ages.map .int))), some (.v (.tup ((cntOn w c.ages).map .int))), none, some (.v (.tup ((cntOff w c.ages).map .int)))]) rfl rfl ?_ rfl
  unfold b__law_counted
  simp_arith [c_0, c_1, c_2, hlc1, hlc2, w_5, k_cnt]
  rw [show (0 : Int) - w.rest = -w.rest by omega]
  rfl
/-- without end -/
def Sd.el (s : Sd) : Sd := ⟨s.lv, s.past, s.on, s.off, none⟩
theorem endless_ok {s : Sd} {r : Int} (h : s.rd = some r) : f__law_endless [.v w.p, .v s.p] = .ok (.v (Sd.el s).p) [.v w.p, .v s.p] := by
  refine defF_rt (ρ' := [some (.v w.p), some (.v s.p)]) rfl rfl ?_ rfl
  unfold b__law_endless
  have sp : s.p = .tup [.int s.lv, .tup (s.past.map .int), .tup (s.on.map .int), .tup (s.off.map .int), opI s.rd] := rfl
  have y1 : cutP [PV.int s.lv, .tup (s.past.map .int), .tup (s.on.map .int), .tup (s.off.map .int), opI s.rd] none (some 4) = [PV.int s.lv, .tup (s.past.map .int), .tup (s.on.map .int), .tup (s.off.map .int)] := by rw [cut_toI (by decide)]; rfl
  rw [sp]
  simp_arith [y1]
  rfl
theorem el_ok {s : Sd} (h : s.Ok w) : (Sd.el s).Ok w := ⟨h.lv0, h.lv1, h.pl, h.pa, h.nl, h.na, h.fl, h.fa, fun r z => nomatch z⟩
theorem el_beat {i : Int} (W : w.Ok) (C : c.Ok w t) (h : w.starts ≤ (c.ages.count (-w.rest) : Nat)) (z1 : ¬ w.top < c.lvA w t i) (z2 : ¬ c.lvA w t i < 0) : (Sd.el (c.st w)).beat w i = (Sd.el ((c.aft w t i).st w)).p := by
  have h1 := C.started W; have h2 := Cw.stopped (c := c) W; have h3 := C.onA W
  obtain ⟨h4, h5⟩ := C.offA W
  have e0 : (Sd.el (c.st w)).started w = ((c.begs w t).length : Nat) := by
    rw [← h1]
    show (if w.on ≤ w.seen c.lv c.past then w.starts else 0) = (if w.on ≤ w.seen c.lv c.past then min w.starts ((c.ages.count (-w.rest) : Nat) : Int) else 0)
    split
    · omega
    · rfl
  have e0' : (Sd.el (c.st w)).stopped w = c.sp w := by rw [← h2]; rfl
  have e1 : (Sd.el (c.st w)).lvAft w ((c.begs w t).length : Nat) (c.sp w) i = c.lvA w t i := by
    show c.lv + i - w.drain * (onAft (cntOn w c.ages) ((c.begs w t).length : Nat) (c.sp w)).sum = _
    rw [h3, C.on_sum W]; rfl
  have e2 : (Sd.el (c.st w)).aft w ((c.begs w t).length : Nat) (c.sp w) i = Sd.el ((c.aft w t i).st w) := by
    show (⟨(Sd.el (c.st w)).lvAft w ((c.begs w t).length : Nat) (c.sp w) i, pastAft c.past c.lv, onAft (cntOn w c.ages) ((c.begs w t).length : Nat) (c.sp w), offAft (cntOff w c.ages) (c.sp w), none⟩ : Sd) = _
    rw [e1, h3, h4]; rfl
  unfold Sd.beat Sd.led
  rw [e0, e0', e1, e2, if_neg z1, if_neg z2]
theorem el_fine (W : w.Ok) (C : c.Ok w t) : Fine 1000 2 (Sd.el (c.st w)).p := by
  have g := C.good W
  have : (Sd.el (c.st w)).Good w none 6 := ⟨g.lv0, g.lv1, g.pl, g.pa, g.nl, g.na, g.fl, g.fa, g.bd, rfl⟩
  exact this.fine W (by omega) fun n h => nomatch h
/-- the crew behind a beat, None where it is over or dry -/
def stp (w : Well) (t : Bool) (c : Cw) (i : Int) : PV := if w.top < c.lvA w t i then .non else if c.lvA w t i < 0 then .non else (c.aft w t i).p
theorem sort_small {ks : List Nat} (h : ∀ k ∈ ks, k < 1000) : ∀ i ∈ sortI (ks.map fun (k : Nat) => (k : Int)), i.natAbs < 500000000000 := fun i hi => by
  have := (List.mergeSort_perm (ks.map fun (k : Nat) => (k : Int)) _).mem_iff.mp hi
  obtain ⟨k, hk, rfl⟩ := List.mem_map.mp this
  have := h k hk; omega
theorem sort_len {ns : List Int} : (sortI ns).length = ns.length := (List.mergeSort_perm ns _).length_eq
theorem step_ok {i : Int} (W : w.Ok) (C : c.Ok w t) (h1 : 0 ≤ i) (h2 : i ≤ 300) : f__law_step_right [.v w.p, .v (ruP t), .v c.p, .v (.int i)] = .ok (.v (stp w t c i)) [.v w.p, .v (ruP t), .v c.p, .v (.int i)] := by
  have hn1 := C.n1
  have hbl := Cw.begs_len (w := w) (t := t) (c := c)
  have hrl : (c.runs w t).length ≤ 6 := by
    rw [Cw.runs_eq]
    exact Nat.le_trans (List.length_filter_le _ _) (by rw [List.length_range]; exact hn1)
  have hf1 : Fine 1000 2 (.tup ((c.runs w t).map natP)) := (natFine (n := 300) (k := 0) (fun k hk => by have := Cw.runs_small C k hk; omega) (by omega)).mono (by omega) (by omega)
  have hf2 : Fine 1000 2 (.tup ((sortI ((c.begs w t).map fun (k : Nat) => (k : Int))).map .int)) := (fine_tup (n := 300) (k := 0) (fines_ints (sort_small fun k hk => by have := C.begs_lt k hk; omega) (by rw [sort_len, List.length_map]; omega))).mono (by omega) (by omega)
  have hb := C.st_beat (i := i) W
  have hbe : c.beat w t i = if w.top < c.lvA w t i then .str "over" else if c.lvA w t i < 0 then .str "dry" else (c.aft w t i).p := rfl
  have p1 : ∀ rest : Loc → Rs Fl, seqS (unpS (.tp [.nm 4, .nm 5, .nm 6]) (callF T3.f_law_led_crew (seqO [varO 0, varO 1, varO 2, varO 3])))
      (seqS (asgS 7 (keepS (callF P.f_crew_after (seqO [varO 0, varO 1, varO 2, varO 3]))))
      (seqS (ifS (orT (tstV (bin2 sNe (callB sRepr (seqO [varO 7])) (callB sRepr (seqO [varO 4])))) (tstV (bin2 sNe (callB sRepr (seqO [callF P.f_running (seqO [varO 0, varO 1, varO 2, varO 3])])) (callB sRepr (seqO [varO 5]))))) (retS (keepS (konst (.bl false)))) (skip))
      (seqS (ifS (tstV (bin2 sNe (callB sRepr (seqO [callF P.f_starting (seqO [varO 0, varO 1, varO 2, varO 3])])) (callB sRepr (seqO [varO 6])))) (retS (keepS (konst (.bl false)))) (skip))
      (seqS (asgS 8 (keepS (callF f__law_counted (seqO [varO 0, varO 2]))))
      (seqS (asgS 9 (keepS (callF P.f_after (seqO [varO 0, varO 8, varO 3]))))
      (seqS (ifS (tstV (bin2 sNe (callB sRepr (seqO [callF P.f_state_of (seqO [varO 0, varO 2])])) (callB sRepr (seqO [varO 8])))) (retS (keepS (konst (.bl false)))) (skip)) rest)))))) [some (.v w.p), some (.v (ruP t)), some (.v c.p), some (.v (.int i)), none, none, none, none, none, none, none] =
      rest [some (.v w.p), some (.v (ruP t)), some (.v c.p), some (.v (.int i)), some (.v (c.beat w t i)), some (.v (.tup ((c.runs w t).map natP))), some (.v (.tup ((sortI ((c.begs w t).map fun (k : Nat) => (k : Int))).map .int))), some (.v (c.beat w t i)), some (.v (c.st w).p), some (.v ((c.st w).beat w i)), none] := by
    intro rest
    simp_arith [led_crew_ok W C, crew_after_ok W C h1 h2, k_repr (C.beatFine W), running_ok W C h1 h2, k_repr hf1, starting_ok W C h1 h2, k_repr hf2, counted_ok W C, after_ok W (C.stOk W) h1 h2, state_of_ok W C, k_repr (C.stFine W), beq_self_eq_true]
  by_cases z1 : w.top < c.lvA w t i
  · rw [if_pos z1] at hb hbe
    refine defF_rt (ρ' := [some (.v w.p), some (.v (ruP t)), some (.v c.p), some (.v (.int i)), some (.v (c.beat w t i)), some (.v (.tup ((c.runs w t).map natP))), some (.v (.tup ((sortI ((c.begs w t).map fun (k : Nat) => (k : Int))).map .int))), some (.v (c.beat w t i)), some (.v (c.st w).p), some (.v ((c.st w).beat w i)), none]) rfl rfl ?_ rfl
    unfold b__law_step_right
    refine (p1 _).trans ?_
    rw [hb, hbe]
    simp_arith [beq_self_eq_true, stp, z1]
  · rw [if_neg z1] at hb hbe
    by_cases z2 : c.lvA w t i < 0
    · rw [if_pos z2] at hb hbe
      refine defF_rt (ρ' := [some (.v w.p), some (.v (ruP t)), some (.v c.p), some (.v (.int i)), some (.v (c.beat w t i)), some (.v (.tup ((c.runs w t).map natP))), some (.v (.tup ((sortI ((c.begs w t).map fun (k : Nat) => (k : Int))).map .int))), some (.v (c.beat w t i)), some (.v (c.st w).p), some (.v ((c.st w).beat w i)), none]) rfl rfl ?_ rfl
      unfold b__law_step_right
      refine (p1 _).trans ?_
      rw [hb, hbe]
      simp_arith [beq_self_eq_true, stp, z1, z2]
    · rw [if_neg z2] at hb hbe
      have N := C.next W z1 z2
      have hsi : sIsi "str" (.v (c.aft w t i).p) = some (.v (.bl false)) := rfl
      have hs4 : sIx (.v (c.st w).p) (.v (.int 4)) = some (.v (.int ((c.ages.count (-w.rest) : Nat) : Int))) := rfl
      by_cases z3 : w.starts ≤ (c.ages.count (-w.rest) : Nat)
      · have hel := el_beat W C z3 z1 z2
        refine defF_rt (ρ' := [some (.v w.p), some (.v (ruP t)), some (.v c.p), some (.v (.int i)), some (.v (c.aft w t i).p), some (.v (.tup ((c.runs w t).map natP))), some (.v (.tup ((sortI ((c.begs w t).map fun (k : Nat) => (k : Int))).map .int))), none, some (.v (c.st w).p), some (.v ((c.aft w t i).st w).p), some (.v (Sd.el ((c.aft w t i).st w)).p)]) rfl rfl ?_ rfl
        unfold b__law_step_right
        refine (p1 _).trans ?_
        rw [hb, hbe]
        have k1 := endless_ok (w := w) (s := c.st w) rfl
        have k2 := endless_ok (w := w) (s := (c.aft w t i).st w) rfl
        have k3 := after_ok W (el_ok (C.stOk W)) h1 h2
        rw [hel] at k3
        simp_arith [hsi, state_of_ok W N, k_neF (N.stFine W) (show 2 ≤ 60 by omega) (N.stFine W) (show 2 ≤ 60 by omega), eqP_refl (N.stFine W), is_crew_ok W N, k_isnB, hs4, w_6, decide_eq_true z3, k1, k2, k3, k_neF (el_fine W N) (show 2 ≤ 60 by omega) (el_fine W N) (show 2 ≤ 60 by omega), eqP_refl (el_fine W N), stp, z1, z2]
      · refine defF_rt (ρ' := [some (.v w.p), some (.v (ruP t)), some (.v c.p), some (.v (.int i)), some (.v (c.aft w t i).p), some (.v (.tup ((c.runs w t).map natP))), some (.v (.tup ((sortI ((c.begs w t).map fun (k : Nat) => (k : Int))).map .int))), none, some (.v (c.st w).p), some (.v ((c.aft w t i).st w).p), none]) rfl rfl ?_ rfl
        unfold b__law_step_right
        refine (p1 _).trans ?_
        rw [hb, hbe]
        simp_arith [hsi, state_of_ok W N, k_neF (N.stFine W) (show 2 ≤ 60 by omega) (N.stFine W) (show 2 ≤ 60 by omega), eqP_refl (N.stFine W), is_crew_ok W N, k_isnB, hs4, w_6, decide_eq_false z3, stp, z1, z2]
/-! ### two crews with the same state -/
theorem st_aft {i : Int} (W : w.Ok) (C : c.Ok w t) : (c.aft w t i).st w = (c.st w).aft w ((c.st w).started w) ((c.st w).stopped w) i ∧ c.lvA w t i = (c.st w).lvAft w ((c.st w).started w) ((c.st w).stopped w) i := by
  have h1 := C.started W; have h2 := Cw.stopped (c := c) W; have h3 := C.onA W
  obtain ⟨h4, h5⟩ := C.offA W
  have e1 : (c.st w).lvAft w ((c.begs w t).length : Nat) (c.sp w) i = c.lvA w t i := by
    show c.lv + i - w.drain * (onAft (cntOn w c.ages) ((c.begs w t).length : Nat) (c.sp w)).sum = _
    rw [h3, C.on_sum W]; rfl
  rw [h1, h2, e1]
  refine ⟨?_, rfl⟩
  show _ = (⟨(c.st w).lvAft w ((c.begs w t).length : Nat) (c.sp w) i, pastAft c.past c.lv, onAft (cntOn w c.ages) ((c.begs w t).length : Nat) (c.sp w), offAft (cntOff w c.ages) (c.sp w), rdAft (cntOff w c.ages) ((c.begs w t).length : Nat) (c.sp w) (some ((c.ages.count (-w.rest) : Nat) : Int))⟩ : Sd)
  rw [e1, h3, h4, h5]; rfl
theorem rep_count {n : Nat} {a v : Int} : (List.replicate n a).count v = if a = v then n else 0 := by
  rw [List.count_replicate]
  by_cases h : a = v
  · rw [if_pos h, if_pos (by simpa using h)]
  · rw [if_neg h, if_neg (by simpa using h)]
theorem first_st {n : Nat} {lv : Int} (W : w.Ok) : (Cw.first w n lv).st w = Sd.first w (some (n : Nat)) lv := by
  have f1 := W.f1
  show (⟨lv, List.replicate w.lag.toNat lv, cntOn w (List.replicate n (-w.rest)), cntOff w (List.replicate n (-w.rest)), some (((List.replicate n (-w.rest)).count (-w.rest) : Nat) : Int)⟩ : Sd) = ⟨lv, List.replicate w.lag.toNat lv, List.replicate w.run.toNat 0, List.replicate (w.rest - 1).toNat 0, some (n : Nat)⟩
  have a : cntOn w (List.replicate n (-w.rest)) = List.replicate w.run.toNat 0 := by
    unfold cntOn
    rw [List.eq_replicate_iff]
    refine ⟨by rw [List.length_map, List.length_range], fun b hb => ?_⟩
    obtain ⟨k, _, rfl⟩ := List.mem_map.mp hb
    rw [rep_count, if_neg (by omega)]; rfl
  have b : cntOff w (List.replicate n (-w.rest)) = List.replicate (w.rest - 1).toNat 0 := by
    unfold cntOff
    rw [List.eq_replicate_iff]
    refine ⟨by rw [List.length_map, List.length_range], fun b hb => ?_⟩
    obtain ⟨k, hk, rfl⟩ := List.mem_map.mp hb
    have := List.mem_range.mp hk
    rw [rep_count, if_neg (by omega)]; rfl
  rw [a, b, rep_count, if_pos rfl]
/-- None, or a crew -/
def CN (w : Well) (t : Bool) (p : PV) : Prop := p = .non ∨ ∃ c : Cw, p = c.p ∧ c.Ok w t
theorem stp_cn {i : Int} (W : w.Ok) (C : c.Ok w t) : CN w t (stp w t c i) := by
  unfold stp
  by_cases z1 : w.top < c.lvA w t i
  · rw [if_pos z1]; exact .inl rfl
  · rw [if_neg z1]
    by_cases z2 : c.lvA w t i < 0
    · rw [if_pos z2]; exact .inl rfl
    · rw [if_neg z2]; exact .inr ⟨_, rfl, C.next W z1 z2⟩
theorem CN.fine {p : PV} (W : w.Ok) (h : CN w t p) : Fine 1000 2 p := by
  rcases h with rfl | ⟨c, rfl, C⟩
  · exact fine_non
  · exact C.fine W
theorem CN.neq {p : PV} (h : CN w t p) : ∃ d, toD p = some d ∧ PyData.eqv d (.bool false) = false := by
  rcases h with rfl | ⟨c, rfl, C⟩
  · exact ⟨_, rfl, rfl⟩
  · refine ⟨.tuple [.int c.lv, .tuple (c.past.map PyData.int), .tuple (c.ages.map PyData.int), .int (c.mark : Nat)], ?_, rfl⟩
    unfold Cw.p
    simp only [toD, toDs, toDs_ints]
theorem no_false {a b d : PV} {t1 t2 t3 : Bool} (W : w.Ok) (h1 : CN w t1 a) (h2 : CN w t2 b) (h3 : CN w t3 d) : sIn (.v (.bl false)) (.v (.tup [a, b, d])) = some (.v (.bl false)) := by
  have hf : Fine 3010 3 (.tup [a, b, d]) := fine_tup (fines_cons (n1 := 1000) (n2 := 2005) (h1.fine W) (fines_cons (n1 := 1000) (n2 := 1002) (h2.fine W) (fines_cons (n1 := 1000) (n2 := 0) (h3.fine W) fines_nil (by omega)) (by omega)) (by omega))
  obtain ⟨da, ea, na⟩ := h1.neq
  obtain ⟨db, eb, nb⟩ := h2.neq
  obtain ⟨dd, ed, nd⟩ := h3.neq
  obtain ⟨D, eD, fD⟩ := hf
  have e : toD (.tup [a, b, d]) = some (.tuple [da, db, dd]) := by simp only [toD, toDs, ea, eb, ed]
  rw [e] at eD; cases eD
  have sh := fD.shaped (by omega)
  unfold sIn sInB
  have e1 : dOf (.v (.bl false)) = some (.bool false) := rfl
  have e2 : dOf (.v (.tup [a, b, d])) = some (.tuple [da, db, dd]) := e
  rw [e1, e2]; dsimp only
  rw [sh, show SeqAt.shaped (.bool false) = true from rfl, Bool.and_self, if_pos rfl, List.any_cons, List.any_cons, List.any_cons, List.any_nil, na, nb, nd]; rfl
def isN (p : PV) : Bool := match p with
  | .non => true
  | _ => false
theorem CN.is {p : PV} (h : CN w t p) : sIs (.v p) (.v .non) = some (.v (.bl (isN p))) := by
  rcases h with rfl | ⟨c, rfl, C⟩ <;> rfl
theorem neB {a : Bool} : sNe (.v (.bl a)) (.v (.bl a)) = some (.v (.bl false)) := by cases a <;> rfl
theorem stp_same {c1 c2 : Cw} {t1 t2 : Bool} {i : Int} (W : w.Ok) (C1 : c1.Ok w t1) (C2 : c2.Ok w t2) (h : c1.st w = c2.st w) :
    (stp w t1 c1 i = .non ∧ stp w t2 c2 i = .non) ∨ (stp w t1 c1 i = (c1.aft w t1 i).p ∧ stp w t2 c2 i = (c2.aft w t2 i).p ∧ (c1.aft w t1 i).Ok w t1 ∧ (c2.aft w t2 i).Ok w t2 ∧ (c1.aft w t1 i).st w = (c2.aft w t2 i).st w) := by
  obtain ⟨a1, b1⟩ := st_aft (i := i) W C1
  obtain ⟨a2, b2⟩ := st_aft (i := i) W C2
  rw [h, ← b2] at b1
  rw [h, ← a2] at a1
  unfold stp
  rw [b1]
  by_cases z1 : w.top < c2.lvA w t2 i
  · rw [if_pos z1, if_pos z1]; exact .inl ⟨rfl, rfl⟩
  · rw [if_neg z1, if_neg z1]
    by_cases z2 : c2.lvA w t2 i < 0
    · rw [if_pos z2, if_pos z2]; exact .inl ⟨rfl, rfl⟩
    · rw [if_neg z2, if_neg z2]
      exact .inr ⟨rfl, rfl, C1.next W (by rw [b1]; exact z1) (by rw [b1]; exact z2), C2.next W z1 z2, a1⟩
theorem law_l1 {d : DrC} {c1 c2 c3 : Cw} {sc s2 o4 o5 o9 o10 : Option SV} (W : w.Ok) (hd : w.drain ≤ 50) (C1 : c1.Ok w false) (C2 : c2.Ok w true) (C3 : c3.Ok w true) (h : c1.st w = c2.st w) (hc : d.c + 300 < 100000000) :
    ∃ (d' : DrC) (o10' : Option SV), d'.c ≤ d.c + 30 ∧
      ((∃ o6 o7 o8, b_law_l1 [sc, some d.sv, s2, some (.v w.p), o4, o5, some (.v c1.p), some (.v c2.p), some (.v c3.p), o9, o10] = .ok .bk [sc, some d'.sv, s2, some (.v w.p), o4, o5, o6, o7, o8, o9, o10']) ∨
       ∃ e1 e2 e3 : Cw, e1.Ok w false ∧ e2.Ok w true ∧ e3.Ok w true ∧ e1.st w = e2.st w ∧ b_law_l1 [sc, some d.sv, s2, some (.v w.p), o4, o5, some (.v c1.p), some (.v c2.p), some (.v c3.p), o9, o10] = .ok .nx [sc, some d'.sv, s2, some (.v w.p), o4, o5, some (.v e1.p), some (.v e2.p), some (.v e3.p), o9, o10']) := by
  have b1 := W.b1
  have m1 := d.nn (3 + w.drain * 4); have m2 := d.lt (T := 3 + w.drain * 4) (by omega)
  have hn := DrC.next (d := d) (T := 3 + w.drain * 4) (by omega) (by omega) (by omega)
  have hcc : (d.nxt (3 + w.drain * 4)).c = d.c + 1 := DrC.nxt_c
  generalize d.num (3 + w.drain * 4) = i at *
  generalize d.nxt (3 + w.drain * 4) = d1 at *
  have s1 := step_ok (i := i) W C1 (by omega) (by omega)
  have s2' := step_ok (i := i) W C2 (by omega) (by omega)
  have s3 := step_ok (i := i) W C3 (by omega) (by omega)
  have rf : ruP false = .str "first" := rfl
  have rt : ruP true = .str "turns" := rfl
  rw [rf] at s1; rw [rt] at s2' s3
  have n1 := stp_cn (i := i) W C1; have n2 := stp_cn (i := i) W C2; have n3 := stp_cn (i := i) W C3
  have nf := no_false W n1 n2 n3
  have p1 : ∀ rest : Loc → Rs Fl, seqS (asgS 10 (keepS (callF drawC (seqO [varO 1, bin2 sAdd (konst (.int 3)) (bin2 sMul (bin2 sIx (varO 3) (konst (.int 1))) (konst (.int 4)))]))))
      (seqS (asgS 6 (keepS (callF f__law_step_right (seqO [varO 3, konst (.str "first"), varO 6, varO 10]))))
      (seqS (asgS 7 (keepS (callF f__law_step_right (seqO [varO 3, konst (.str "turns"), varO 7, varO 10]))))
      (seqS (asgS 8 (keepS (callF f__law_step_right (seqO [varO 3, konst (.str "turns"), varO 8, varO 10])))) rest))) [sc, some d.sv, s2, some (.v w.p), o4, o5, some (.v c1.p), some (.v c2.p), some (.v c3.p), o9, o10] =
      rest [sc, some d1.sv, s2, some (.v w.p), o4, o5, some (.v (stp w false c1 i)), some (.v (stp w true c2 i)), some (.v (stp w true c3 i)), o9, some (.v (.int i))] := by
    intro rest
    simp_arith [m_tkC, m_put1C, w_1, hn, s1, s2', s3]
  rcases stp_same (i := i) W C1 C2 h with ⟨q1, q2⟩ | ⟨q1, q2, N1, N2, hst⟩
  · refine ⟨d1, some (.v (.int i)), by omega, .inl ⟨some (.v .non), some (.v .non), some (.v (stp w true c3 i)), ?_⟩⟩
    unfold b_law_l1
    refine (p1 _).trans ?_
    rw [q1, q2] at nf ⊢
    have e1 : sIs (.v .non) (.v .non) = some (.v (.bl true)) := rfl
    simp_arith [nf, e1, neB]
  · have i1 := n1.is; have i2 := n2.is
    have e1 : isN (stp w false c1 i) = false := by rw [q1]; rfl
    have e2 : isN (stp w true c2 i) = false := by rw [q2]; rfl
    rw [e1] at i1; rw [e2] at i2
    have hct : sNe (.v ((c1.aft w false i).st w).p) (.v ((c2.aft w true i).st w).p) = some (.v (.bl false)) := by
      rw [hst, k_neF (N2.stFine W) (by omega) (N2.stFine W) (by omega), eqP_refl (N2.stFine W)]; rfl
    rcases n3 with h3 | ⟨c3', h3, C3'⟩
    · obtain ⟨c4, d2, hcr, C4, hd2⟩ := lawC_crew_ok (t := true) (d := d1) (n := 6) W (by omega) (by omega) (by omega)
      rw [rt] at hcr
      refine ⟨d2, some (.v (.int i)), by omega, .inr ⟨_, _, c4, N1, N2, C4, hst, ?_⟩⟩
      unfold b_law_l1
      refine (p1 _).trans ?_
      rw [q1, q2, h3] at nf ⊢
      rw [q1] at i1; rw [q2] at i2
      have e3 : sIs (.v .non) (.v .non) = some (.v (.bl true)) := rfl
      simp_arith [nf, i1, i2, neB, counted_ok W N1, counted_ok W N2, hct, e3, m_tkC, m_put1C, hcr]
    · refine ⟨d1, some (.v (.int i)), by omega, .inr ⟨_, _, c3', N1, N2, C3', hst, ?_⟩⟩
      unfold b_law_l1
      refine (p1 _).trans ?_
      rw [q1, q2, h3] at nf ⊢
      rw [q1] at i1; rw [q2] at i2
      have e3 : sIs (.v c3'.p) (.v .non) = some (.v (.bl false)) := rfl
      simp_arith [nf, i1, i2, neB, counted_ok W N1, counted_ok W N2, hct, e3]
theorem l1_loop {sc s2 o4 o5 : Option SV} (W : w.Ok) : ∀ (xs : List Nat) (d : DrC) (c1 c2 c3 : Cw) (o9 o10 : Option SV), c1.Ok w false → c2.Ok w true → c3.Ok w true → c1.st w = c2.st w → d.c + 30 * xs.length + 300 < 100000000 →
    ∃ (d' : DrC) (o6 o7 o8 o9' o10' : Option SV), d'.c ≤ d.c + 30 * xs.length ∧ forL (.nm 9) b_law_l1 (xs.map natP) [sc, some d.sv, s2, some (.v w.p), o4, o5, some (.v c1.p), some (.v c2.p), some (.v c3.p), o9, o10] = .ok .nx [sc, some d'.sv, s2, some (.v w.p), o4, o5, o6, o7, o8, o9', o10']
  | [], d, c1, c2, c3, o9, o10, _, _, _, _, _ => ⟨d, _, _, _, _, _, by omega, rfl⟩
  | x :: xs, d, c1, c2, c3, o9, o10, C1, C2, C3, h, hc => by
    rw [List.length_cons] at hc ⊢
    obtain ⟨d1, o10', hd1, hr⟩ := law_l1 (sc := sc) (s2 := s2) (o4 := o4) (o5 := o5) (o9 := some (.v (natP x))) (o10 := o10) (d := d) W W.b2 C1 C2 C3 h (by omega)
    rcases hr with ⟨o6, o7, o8, hr⟩ | ⟨e1, e2, e3, E1, E2, E3, he, hr⟩
    · refine ⟨d1, o6, o7, o8, some (.v (natP x)), o10', by omega, ?_⟩
      rw [List.map_cons, forL_cons (ρ1 := [sc, some d.sv, s2, some (.v w.p), o4, o5, some (.v c1.p), some (.v c2.p), some (.v c3.p), some (.v (natP x)), o10]) rfl, hr]
    · obtain ⟨d2, q6, q7, q8, q9, q10, hd2, h2⟩ := l1_loop W xs d1 e1 e2 e3 (some (.v (natP x))) o10' E1 E2 E3 he (by omega)
      refine ⟨d2, q6, q7, q8, q9, q10, by omega, ?_⟩
      rw [List.map_cons, forL_cons (ρ1 := [sc, some d.sv, s2, some (.v w.p), o4, o5, some (.v c1.p), some (.v c2.p), some (.v c3.p), some (.v (natP x)), o10]) rfl, hr]
      exact h2
theorem law_l2 {d : DrC} {sc s2 p3 p4 p5 p6 p7 p8 p9 p10 : Option SV} (hc : d.c + 2000 < 100000000) : ∃ (d' : DrC) (o3 o4 o5 o6 o7 o8 o9 o10 : Option SV), d'.c ≤ d.c + 500 ∧ b_law_l2 [sc, some d.sv, s2, p3, p4, p5, p6, p7, p8, p9, p10] = .ok .nx [sc, some d'.sv, s2, o3, o4, o5, o6, o7, o8, o9, o10] := by
  obtain ⟨w0, d1, hd1, W0, t0, dr0, _, _, _, _, lg0, hw⟩ := wellC_ok (d := d) (tp := 40) (lg := 3) (by omega) (by omega) (by omega) (by omega) (by omega)
  have r1 := d1.nn 5; have r2 := d1.lt (T := 5) (by omega)
  have hn2 := DrC.next (d := d1) (T := 5) (by omega) (by omega) (by omega)
  have hd2 : (d1.nxt 5).c = d1.c + 1 := DrC.nxt_c
  generalize d1.num 5 = x1 at *
  generalize d1.nxt 5 = d2 at *
  have r3 := d2.nn 20; have r4 := d2.lt (T := 20) (by omega)
  have hn3 := DrC.next (d := d2) (T := 20) (by omega) (by omega) (by omega)
  have hd3 : (d2.nxt 20).c = d2.c + 1 := DrC.nxt_c
  generalize d2.num 20 = x2 at *
  generalize d2.nxt 20 = d3 at *
  have w0p : w0.p = .tup [.int w0.top, .int w0.drain, .int w0.on, .int w0.off, .int w0.run, .int w0.rest, .int w0.starts, .int w0.step, .int w0.lag] := rfl
  have y1 : cutP [PV.int w0.top, .int w0.drain, .int w0.on, .int w0.off, .int w0.run, .int w0.rest, .int w0.starts, .int w0.step, .int w0.lag] none (some 6) = [.int w0.top, .int w0.drain, .int w0.on, .int w0.off, .int w0.run, .int w0.rest] := by rw [cut_toI (by decide)]; rfl
  have hwp : PV.tup [.int w0.top, .int w0.drain, .int w0.on, .int w0.off, .int w0.run, .int w0.rest, .int (1 + x1), .int (1 + x2), .int w0.lag] = (⟨w0.top, w0.drain, w0.on, w0.off, w0.run, w0.rest, 1 + x1, 1 + x2, w0.lag⟩ : Well).p := rfl
  have W : (⟨w0.top, w0.drain, w0.on, w0.off, w0.run, w0.rest, 1 + x1, 1 + x2, w0.lag⟩ : Well).Ok := ⟨W0.a1, W0.a2, W0.b1, W0.b2, W0.c1, W0.c2, W0.d1, W0.d2, W0.e1, W0.e2, W0.f1, W0.f2, by dsimp only; omega, by dsimp only; omega, by dsimp only; omega, by dsimp only; omega, W0.i1, W0.i2⟩
  have hix : sIx (.v w0.p) (.v (.int 8)) = some (.v (.int w0.lag)) := w_8
  generalize (⟨w0.top, w0.drain, w0.on, w0.off, w0.run, w0.rest, 1 + x1, 1 + x2, w0.lag⟩ : Well) = w at *
  have m1 := d3.nn 6; have m2 := d3.lt (T := 6) (by omega)
  have hn4 := DrC.next (d := d3) (T := 6) (by omega) (by omega) (by omega)
  have hd4 : (d3.nxt 6).c = d3.c + 1 := DrC.nxt_c
  generalize d3.nxt 6 = d4 at *
  obtain ⟨n, hn⟩ : ∃ n : Nat, 1 + d3.num 6 = (n : Int) := ⟨(1 + d3.num 6).toNat, by omega⟩
  generalize d3.num 6 = i6 at *
  have a1 := W.a1; have a2 := W.a2
  have l1 := d4.nn (w.top + 1); have l2 := d4.lt (T := w.top + 1) (by omega)
  have hn5 := DrC.next (d := d4) (T := w.top + 1) (by omega) (by omega) (by omega)
  have hd5 : (d4.nxt (w.top + 1)).c = d4.c + 1 := DrC.nxt_c
  generalize d4.nxt (w.top + 1) = d5 at *
  generalize d4.num (w.top + 1) = lv at *
  have F1 : (Cw.first w n lv).Ok w false := Cw.first_ok W (by omega) (by omega) l1 (by omega)
  have F2 : (Cw.first w n lv).Ok w true := Cw.first_ok W (by omega) (by omega) l1 (by omega)
  have k1 := first_law_ok (n := n) (lv := lv) W (by omega)
  have k2 := first_crew_ok (n := n) (lv := lv) W (by omega) (by omega) l1 (by omega)
  have k3 := begun_ok (w := w) (many := some (n : Nat)) (lv := lv) W (fun z h => by cases h; omega) l1 (by omega)
  rw [show opI (some ((n : Nat) : Int)) = .int (n : Nat) from rfl, ← first_st W] at k3
  have k4 := counted_ok W F2
  have e1 : sNe (.v (Cw.first w n lv).p) (.v (Cw.first w n lv).p) = some (.v (.bl false)) := by rw [k_neF (F2.fine W) (by omega) (F2.fine W) (by omega), eqP_refl (F2.fine W)]; rfl
  have e2 : sNe (.v ((Cw.first w n lv).st w).p) (.v ((Cw.first w n lv).st w).p) = some (.v (.bl false)) := by rw [k_neF (F2.stFine W) (by omega) (F2.stFine W) (by omega), eqP_refl (F2.stFine W)]; rfl
  obtain ⟨c3, d6, hcr, C3, hd6⟩ := lawC_crew_ok (t := true) (d := d5) (n := 6) W (by omega) (by omega) (by omega)
  rw [show ruP true = .str "turns" from rfl] at hcr
  obtain ⟨d7, o6, o7, o8, o9, o10, hd7, hl⟩ := l1_loop (sc := sc) (s2 := s2) (o4 := some (.v (.int (n : Nat)))) (o5 := some (.v (.int lv))) W (List.range 12) d6 _ _ c3 p9 p10 F1 F2 C3 rfl (by rw [List.length_range]; omega)
  rw [List.length_range] at hd7
  have hr : rangeP 0 12 = (List.range 12).map natP := rfl
  refine ⟨d7, some (.v w.p), some (.v (.int (n : Nat))), some (.v (.int lv)), o6, o7, o8, o9, o10, by omega, ?_⟩
  unfold b_law_l2
  rw [seq_at (ρ1 := [sc, some d1.sv, s2, some (.v w0.p), p4, p5, p6, p7, p8, p9, p10]) (by simp_arith [m_tkC, m_put1C, hw])]
  rw [seq_at (ρ1 := [sc, some d3.sv, s2, some (.v w.p), p4, p5, p6, p7, p8, p9, p10]) (by rw [w0p] at hix ⊢; simp_arith [m_tkC, m_put1C, y1, hn2, hn3, hix, hwp])]
  rw [seq_at (ρ1 := [sc, some d5.sv, s2, some (.v w.p), some (.v (.int (n : Nat))), some (.v (.int lv)), p6, p7, p8, p9, p10]) (by simp_arith [m_tkC, m_put1C, hn4, hn5, hn, w_0])]
  rw [seq_at (ρ1 := [sc, some d5.sv, s2, some (.v w.p), some (.v (.int (n : Nat))), some (.v (.int lv)), some (.v (Cw.first w n lv).p), p7, p8, p9, p10]) (by simp_arith [k1])]
  rw [seq_at (ρ1 := [sc, some d5.sv, s2, some (.v w.p), some (.v (.int (n : Nat))), some (.v (.int lv)), some (.v (Cw.first w n lv).p), some (.v (Cw.first w n lv).p), p8, p9, p10]) (by simp_arith [m_keepS])]
  rw [seq_at (ρ1 := [sc, some d5.sv, s2, some (.v w.p), some (.v (.int (n : Nat))), some (.v (.int lv)), some (.v (Cw.first w n lv).p), some (.v (Cw.first w n lv).p), p8, p9, p10]) (by simp_arith [k2, k3, k4, e1, e2])]
  rw [seq_at (ρ1 := [sc, some d6.sv, s2, some (.v w.p), some (.v (.int (n : Nat))), some (.v (.int lv)), some (.v (Cw.first w n lv).p), some (.v (Cw.first w n lv).p), some (.v c3.p), p9, p10]) (by simp_arith [m_tkC, m_put1C, hcr])]
  simp_arith [hr, hl]
theorem law_ok {ns : List Int} (hn : ns.length ≤ 63) : f_law [.v (.lst (ns.map .int))] = .ok (.v (.bl true)) [.v (.lst (ns.map .int))] := by
  obtain ⟨ρ', hl, d', y2, y3, y4, y5, y6, y7, y8, y9, y10, e, _⟩ := forL_all (tg := .nm 2) (b := b_law_l2) (inj := fun i : Nat => PV.int (i : Int))
    (fun xs ρ => ∃ (d' : DrC) (y2 y3 y4 y5 y6 y7 y8 y9 y10 : Option SV), ρ = [some (.v (.lst (ns.map .int))), some d'.sv, y2, y3, y4, y5, y6, y7, y8, y9, y10] ∧ d'.c + 500 * xs.length ≤ 10000)
    (fun x xs ρ ⟨d', y2, y3, y4, y5, y6, y7, y8, y9, y10, e, k1⟩ => by
      subst e
      rw [List.length_cons] at k1
      obtain ⟨d2, z3, z4, z5, z6, z7, z8, z9, z10, q1, q2⟩ := law_l2 (d := d') (s2 := some (.v (.int (x : Int)))) (sc := some (.v (.lst (ns.map .int)))) (p3 := y3) (p4 := y4) (p5 := y5) (p6 := y6) (p7 := y7) (p8 := y8) (p9 := y9) (p10 := y10) (by omega)
      exact ⟨[some (.v (.lst (ns.map .int))), some d'.sv, some (.v (.int (x : Int))), y3, y4, y5, y6, y7, y8, y9, y10], _, rfl, .inl q2, d2, _, _, _, _, _, _, _, _, _, rfl, by omega⟩)
    (List.range (6 + min 8 (ns.length : Int)).toNat) [some (.v (.lst (ns.map .int))), some (drawnC ns).sv, none, none, none, none, none, none, none, none, none]
    ⟨drawnC ns, _, _, _, _, _, _, _, _, _, rfl, by rw [List.length_range]; show 0 + _ ≤ _; omega⟩
  subst e
  refine defF_rt (ρ := [some (.v (.lst (ns.map .int))), none, none, none, none, none, none, none, none, none, none]) (ρ' := [some (.v (.lst (ns.map .int))), some d'.sv, y2, y3, y4, y5, y6, y7, y8, y9, y10]) rfl rfl ?_ rfl
  unfold b_law
  rw [seq_at (ρ1 := [some (.v (.lst (ns.map .int))), some (drawnC ns).sv, none, none, none, none, none, none, none, none, none]) (by simp_arith [begun_drC hn])]
  rw [seq_at (ρ1 := [some (.v (.lst (ns.map .int))), some d'.sv, y2, y3, y4, y5, y6, y7, y8, y9, y10]) (by simp_arith [range_map]; exact hl)]
  simp_arith [m_ret]
end Lt.K79
set_option maxHeartbeats 0
namespace Lt.K79
open PySem PySem.Spec L2
open PyProof.Rows hiding St
theorem sc__law_begun : FnScope ["_law_script", "_law_some", "_law_cell"] ["_law_script"] (defScope (topS 59)) := ⟨rfl, rfl, rfl, by decide +kernel, rfl, by decide +kernel, by decide +kernel⟩
theorem sc__law_mix : FnScope ["_law_cell", "_law_spot", "_law_first_here", "_law_second"] ["_law_cell", "_law_spot"] (defScope (topS 58)) := ⟨rfl, rfl, rfl, by decide +kernel, rfl, by decide +kernel, by decide +kernel⟩
theorem sc__law_draw : FnScope ["_law_m", "_law_limit", "_law_spot", "_law_here", "_law_left"] ["_law_m", "_law_limit"] (defScope (topS 60)) := ⟨rfl, rfl, rfl, by decide +kernel, rfl, by decide +kernel, by decide +kernel⟩
theorem sc__law_well : FnScope ["_law_m", "_law_top", "_law_lag", "_law_high", "_law_on", "_law_start"] ["_law_m", "_law_top", "_law_lag"] (defScope (topS 61)) := ⟨rfl, rfl, rfl, by decide +kernel, rfl, by decide +kernel, by decide +kernel⟩
theorem sc__law_first : FnScope ["_law_well_here", "_law_pumps", "_law_level"] ["_law_well_here", "_law_pumps", "_law_level"] (defScope (topS 62)) := ⟨rfl, rfl, rfl, by decide +kernel, rfl, by decide +kernel, by decide +kernel⟩
theorem sc__law_crew : FnScope ["_law_m", "_law_well_here", "_law_rule", "_law_most_so", "_law_ages", "_law_k", "_law_age", "_law_past", "_law_mark"] ["_law_m", "_law_well_here", "_law_rule", "_law_most_so"] (defScope (topS 64)) := ⟨rfl, rfl, rfl, by decide +kernel, rfl, by decide +kernel, by decide +kernel⟩
theorem sc__law_led_crew : FnScope ["_law_well_here", "_law_rule", "_law_crew_here", "_law_inflow", "_law_level", "_law_past", "_law_ages", "_law_mark", "_law_seen_so", "_law_order_so", "_law_fresh_so", "_law_found", "_law_k", "_law_age", "_law_some", "_law_later"] ["_law_well_here", "_law_rule", "_law_crew_here", "_law_inflow"] (defScope (topS 63)) := ⟨rfl, rfl, rfl, by decide +kernel, rfl, by decide +kernel, by decide +kernel⟩
theorem sc_is_whole : FnScope ["thing", "least", "most"] ["thing", "least", "most"] (defScope (topS 15)) := ⟨rfl, rfl, rfl, by decide +kernel, rfl, by decide +kernel, by decide +kernel⟩
theorem sc_wrong_part : FnScope ["thing", "top", "drain", "on", "off", "run", "rest", "starts", "step", "lag"] ["thing"] (defScope (topS 16)) := ⟨rfl, rfl, rfl, by decide +kernel, rfl, by decide +kernel, by decide +kernel⟩
theorem sc_need_well : FnScope ["thing", "part"] ["thing"] (defScope (topS 17)) := ⟨rfl, rfl, rfl, by decide +kernel, rfl, by decide +kernel, by decide +kernel⟩
theorem sc_need_rule : FnScope ["rule"] ["rule"] (defScope (topS 41)) := ⟨rfl, rfl, rfl, by decide +kernel, rfl, by decide +kernel, by decide +kernel⟩
theorem sc_is_past : FnScope ["well", "thing", "one"] ["well", "thing"] (defScope (topS 43)) := ⟨rfl, rfl, rfl, by decide +kernel, rfl, by decide +kernel, by decide +kernel⟩
theorem sc_is_age : FnScope ["well", "thing"] ["well", "thing"] (defScope (topS 42)) := ⟨rfl, rfl, rfl, by decide +kernel, rfl, by decide +kernel, by decide +kernel⟩
theorem sc_is_crew_of : FnScope ["well", "rule", "thing", "age"] ["well", "rule", "thing"] (defScope (topS 44)) := ⟨rfl, rfl, rfl, by decide +kernel, rfl, by decide +kernel, by decide +kernel⟩
theorem sc_need_crew : FnScope ["well", "rule", "crew"] ["well", "rule", "crew"] (defScope (topS 46)) := ⟨rfl, rfl, rfl, by decide +kernel, rfl, by decide +kernel, by decide +kernel⟩
theorem sc_need_inflow : FnScope ["inflow"] ["inflow"] (defScope (topS 52)) := ⟨rfl, rfl, rfl, by decide +kernel, rfl, by decide +kernel, by decide +kernel⟩
theorem sc_seen_of : FnScope ["well", "level", "past", "found"] ["well", "level", "past"] (defScope (topS 26)) := ⟨rfl, rfl, rfl, by decide +kernel, rfl, by decide +kernel, by decide +kernel⟩
theorem sc_beginners : FnScope ["well", "rule", "crew", "level", "past", "pumps", "mark", "names", "turn", "name"] ["well", "rule", "crew"] (defScope (topS 49)) := ⟨rfl, rfl, rfl, by decide +kernel, rfl, by decide +kernel, by decide +kernel⟩
theorem sc_ages_after : FnScope ["well", "rule", "crew", "level", "past", "pumps", "mark", "begun", "found", "is_low", "name", "age"] ["well", "rule", "crew"] (defScope (topS 50)) := ⟨rfl, rfl, rfl, by decide +kernel, rfl, by decide +kernel, by decide +kernel⟩
theorem sc_crew_in : FnScope ["well", "rule", "crew", "inflow", "level", "past", "pumps", "mark", "ages", "begun", "later", "age"] ["well", "rule", "crew", "inflow"] (defScope (topS 51)) := ⟨rfl, rfl, rfl, by decide +kernel, rfl, by decide +kernel, by decide +kernel⟩
theorem sc_crew_after : FnScope ["well", "rule", "crew", "inflow"] ["well", "rule", "crew", "inflow"] (defScope (topS 53)) := ⟨rfl, rfl, rfl, by decide +kernel, rfl, by decide +kernel, by decide +kernel⟩
theorem sc_runners : FnScope ["well", "rule", "crew", "name", "age"] ["well", "rule", "crew"] (defScope (topS 54)) := ⟨rfl, rfl, rfl, by decide +kernel, rfl, by decide +kernel, by decide +kernel⟩
theorem sc_running : FnScope ["well", "rule", "crew", "inflow"] ["well", "rule", "crew", "inflow"] (defScope (topS 55)) := ⟨rfl, rfl, rfl, by decide +kernel, rfl, by decide +kernel, by decide +kernel⟩
theorem sc_starting : FnScope ["well", "rule", "crew", "inflow"] ["well", "rule", "crew", "inflow"] (defScope (topS 56)) := ⟨rfl, rfl, rfl, by decide +kernel, rfl, by decide +kernel, by decide +kernel⟩
theorem sc__law_counted : FnScope ["_law_well_here", "_law_crew_here", "_law_ages", "_law_on", "_law_k", "_law_off"] ["_law_well_here", "_law_crew_here"] (defScope (topS 65)) := ⟨rfl, rfl, rfl, by decide +kernel, rfl, by decide +kernel, by decide +kernel⟩
theorem sc_are_levels : FnScope ["well", "thing", "many", "level"] ["well", "thing", "many"] (defScope (topS 21)) := ⟨rfl, rfl, rfl, by decide +kernel, rfl, by decide +kernel, by decide +kernel⟩
theorem sc_are_counts : FnScope ["thing", "many", "count"] ["thing", "many"] (defScope (topS 20)) := ⟨rfl, rfl, rfl, by decide +kernel, rfl, by decide +kernel, by decide +kernel⟩
theorem sc_number_of : FnScope ["state"] ["state"] (defScope (topS 23)) := ⟨rfl, rfl, rfl, by decide +kernel, rfl, by decide +kernel, by decide +kernel⟩
theorem sc_is_state_of : FnScope ["well", "thing"] ["well", "thing"] (defScope (topS 22)) := ⟨rfl, rfl, rfl, by decide +kernel, rfl, by decide +kernel, by decide +kernel⟩
theorem sc_need_state : FnScope ["well", "state"] ["well", "state"] (defScope (topS 32)) := ⟨rfl, rfl, rfl, by decide +kernel, rfl, by decide +kernel, by decide +kernel⟩
theorem sc_is_inflow : FnScope ["thing"] ["thing"] (defScope (topS 31)) := ⟨rfl, rfl, rfl, by decide +kernel, rfl, by decide +kernel, by decide +kernel⟩
theorem sc_moves_of : FnScope ["well", "state", "seen"] ["well", "state"] (defScope (topS 27)) := ⟨rfl, rfl, rfl, by decide +kernel, rfl, by decide +kernel, by decide +kernel⟩
theorem sc_aged : FnScope ["well", "running", "resting", "ready", "started", "stopped", "on", "off"] ["well", "running", "resting", "ready", "started", "stopped"] (defScope (topS 28)) := ⟨rfl, rfl, rfl, by decide +kernel, rfl, by decide +kernel, by decide +kernel⟩
theorem sc_led_to : FnScope ["well", "state", "started", "stopped", "inflow", "on", "off", "ready", "level", "busy", "past"] ["well", "state", "started", "stopped", "inflow"] (defScope (topS 29)) := ⟨rfl, rfl, rfl, by decide +kernel, rfl, by decide +kernel, by decide +kernel⟩
theorem sc_after_in : FnScope ["well", "state", "inflow", "started", "stopped"] ["well", "state", "inflow"] (defScope (topS 30)) := ⟨rfl, rfl, rfl, by decide +kernel, rfl, by decide +kernel, by decide +kernel⟩
theorem sc_after : FnScope ["well", "state", "inflow"] ["well", "state", "inflow"] (defScope (topS 33)) := ⟨rfl, rfl, rfl, by decide +kernel, rfl, by decide +kernel, by decide +kernel⟩
theorem sc_state_of : FnScope ["well", "crew", "level", "past", "pumps", "mark", "running", "age", "resting"] ["well", "crew"] (defScope (topS 48)) := ⟨rfl, rfl, rfl, by decide +kernel, rfl, by decide +kernel, by decide +kernel⟩
theorem sc_is_crew : FnScope ["well", "rule", "value"] ["well", "rule", "value"] (defScope (topS 45)) := ⟨rfl, rfl, rfl, by decide +kernel, rfl, by decide +kernel, by decide +kernel⟩
theorem sc__law_endless : FnScope ["_law_well_here", "_law_state"] ["_law_well_here", "_law_state"] (defScope (topS 66)) := ⟨rfl, rfl, rfl, by decide +kernel, rfl, by decide +kernel, by decide +kernel⟩
theorem sc__law_step_right : FnScope ["_law_well_here", "_law_rule", "_law_crew_here", "_law_inflow", "_law_due", "_law_some", "_law_fresh", "_law_here", "_law_state", "_law_far", "_law_later"] ["_law_well_here", "_law_rule", "_law_crew_here", "_law_inflow"] (defScope (topS 67)) := ⟨rfl, rfl, rfl, by decide +kernel, rfl, by decide +kernel, by decide +kernel⟩
theorem sc_first_crew : FnScope ["well", "pumps", "level"] ["well", "pumps", "level"] (defScope (topS 47)) := ⟨rfl, rfl, rfl, by decide +kernel, rfl, by decide +kernel, by decide +kernel⟩
theorem sc_is_number : FnScope ["thing"] ["thing"] (defScope (topS 18)) := ⟨rfl, rfl, rfl, by decide +kernel, rfl, by decide +kernel, by decide +kernel⟩
theorem sc_need_number : FnScope ["number"] ["number"] (defScope (topS 19)) := ⟨rfl, rfl, rfl, by decide +kernel, rfl, by decide +kernel, by decide +kernel⟩
theorem sc_begun_with : FnScope ["well", "number", "level"] ["well", "number", "level"] (defScope (topS 24)) := ⟨rfl, rfl, rfl, by decide +kernel, rfl, by decide +kernel, by decide +kernel⟩
theorem sc_begun : FnScope ["well", "number", "level"] ["well", "number", "level"] (defScope (topS 25)) := ⟨rfl, rfl, rfl, by decide +kernel, rfl, by decide +kernel, by decide +kernel⟩
theorem sc_law : FnScope ["_law_script", "_law_m", "_law_turn", "_law_well_here", "_law_pumps", "_law_level", "_law_one", "_law_other", "_law_lone", "_law_again", "_law_inflow"] ["_law_script"] (defScope (topS 68)) := ⟨rfl, rfl, rfl, by decide +kernel, rfl, by decide +kernel, by decide +kernel⟩
theorem all_mk {l : PySem.W.OpenLaw} {w : World} {K : PySem.W.Frag} {h : Heap} {mg : Str → Option Value} {fa : Addr} (X : K.In h) (G : h.Ns mainGlobals mg) (hfa : mg "law" = some (.ref fa))
    (i__law_begun : InK K "_law_begun" (topS 59))
    (i__law_mix : InK K "_law_mix" (topS 58))
    (i__law_draw : InK K "_law_draw" (topS 60))
    (i__law_well : InK K "_law_well" (topS 61))
    (i__law_first : InK K "_law_first" (topS 62))
    (i__law_crew : InK K "_law_crew" (topS 64))
    (i__law_led_crew : InK K "_law_led_crew" (topS 63))
    (i_is_whole : InK K "is_whole" (topS 15))
    (i_wrong_part : InK K "wrong_part" (topS 16))
    (i_need_well : InK K "need_well" (topS 17))
    (i_need_rule : InK K "need_rule" (topS 41))
    (i_is_past : InK K "is_past" (topS 43))
    (i_is_age : InK K "is_age" (topS 42))
    (i_is_crew_of : InK K "is_crew_of" (topS 44))
    (i_need_crew : InK K "need_crew" (topS 46))
    (i_need_inflow : InK K "need_inflow" (topS 52))
    (i_seen_of : InK K "seen_of" (topS 26))
    (i_beginners : InK K "beginners" (topS 49))
    (i_ages_after : InK K "ages_after" (topS 50))
    (i_crew_in : InK K "crew_in" (topS 51))
    (i_crew_after : InK K "crew_after" (topS 53))
    (i_runners : InK K "runners" (topS 54))
    (i_running : InK K "running" (topS 55))
    (i_starting : InK K "starting" (topS 56))
    (i__law_counted : InK K "_law_counted" (topS 65))
    (i_are_levels : InK K "are_levels" (topS 21))
    (i_are_counts : InK K "are_counts" (topS 20))
    (i_number_of : InK K "number_of" (topS 23))
    (i_is_state_of : InK K "is_state_of" (topS 22))
    (i_need_state : InK K "need_state" (topS 32))
    (i_is_inflow : InK K "is_inflow" (topS 31))
    (i_moves_of : InK K "moves_of" (topS 27))
    (i_aged : InK K "aged" (topS 28))
    (i_led_to : InK K "led_to" (topS 29))
    (i_after_in : InK K "after_in" (topS 30))
    (i_after : InK K "after" (topS 33))
    (i_state_of : InK K "state_of" (topS 48))
    (i_is_crew : InK K "is_crew" (topS 45))
    (i__law_endless : InK K "_law_endless" (topS 66))
    (i__law_step_right : InK K "_law_step_right" (topS 67))
    (i_first_crew : InK K "first_crew" (topS 47))
    (i_is_number : InK K "is_number" (topS 18))
    (i_need_number : InK K "need_number" (topS 19))
    (i_begun_with : InK K "begun_with" (topS 24))
    (i_begun : InK K "begun" (topS 25))
    (i_law : InK K "law" (topS 68))
    {t_MOST_TOP : Tok} (c_MOST_TOP : PySem.W.nsIn K mainGlobals "MOST_TOP" = some (some (.int 200 t_MOST_TOP)))
    {t_MOST_DRAIN : Tok} (c_MOST_DRAIN : PySem.W.nsIn K mainGlobals "MOST_DRAIN" = some (some (.int 50 t_MOST_DRAIN)))
    {t_MOST_AGE : Tok} (c_MOST_AGE : PySem.W.nsIn K mainGlobals "MOST_AGE" = some (some (.int 5 t_MOST_AGE)))
    {t_MOST_STARTS : Tok} (c_MOST_STARTS : PySem.W.nsIn K mainGlobals "MOST_STARTS" = some (some (.int 5 t_MOST_STARTS)))
    {t_MOST_STEP : Tok} (c_MOST_STEP : PySem.W.nsIn K mainGlobals "MOST_STEP" = some (some (.int 20 t_MOST_STEP)))
    {t_MOST_LAG : Tok} (c_MOST_LAG : PySem.W.nsIn K mainGlobals "MOST_LAG" = some (some (.int 3 t_MOST_LAG)))
    {t_FIRST : Tok} (c_FIRST : PySem.W.nsIn K mainGlobals "FIRST" = some (some (.str "first" t_FIRST)))
    {t_TURNS : Tok} (c_TURNS : PySem.W.nsIn K mainGlobals "TURNS" = some (some (.str "turns" t_TURNS)))
    {t_MOST_PUMPS : Tok} (c_MOST_PUMPS : PySem.W.nsIn K mainGlobals "MOST_PUMPS" = some (some (.int 6 t_MOST_PUMPS)))
    {t_MOST_INFLOW_crews : Tok} (c_MOST_INFLOW_crews : PySem.W.nsIn K mainGlobals "MOST_INFLOW_crews" = some (some (.int 300 t_MOST_INFLOW_crews)))
    {t_OVER_crews : Tok} (c_OVER_crews : PySem.W.nsIn K mainGlobals "OVER_crews" = some (some (.str "over" t_OVER_crews)))
    {t_DRY_crews : Tok} (c_DRY_crews : PySem.W.nsIn K mainGlobals "DRY_crews" = some (some (.str "dry" t_DRY_crews)))
    {t_MOST_COUNT : Tok} (c_MOST_COUNT : PySem.W.nsIn K mainGlobals "MOST_COUNT" = some (some (.int 1000 t_MOST_COUNT)))
    {t_MOST_NUMBER : Tok} (c_MOST_NUMBER : PySem.W.nsIn K mainGlobals "MOST_NUMBER" = some (some (.int 50 t_MOST_NUMBER)))
    {t_MOST_INFLOW_wells : Tok} (c_MOST_INFLOW_wells : PySem.W.nsIn K mainGlobals "MOST_INFLOW_wells" = some (some (.int 300 t_MOST_INFLOW_wells)))
    {t_OVER_wells : Tok} (c_OVER_wells : PySem.W.nsIn K mainGlobals "OVER_wells" = some (some (.str "over" t_OVER_wells)))
    {t_DRY_wells : Tok} (c_DRY_wells : PySem.W.nsIn K mainGlobals "DRY_wells" = some (some (.str "dry" t_DRY_wells)))
    (z_list : PySem.W.nsIn K mainGlobals "list" = some none)
    (z_int : PySem.W.nsIn K mainGlobals "int" = some none)
    (z_len : PySem.W.nsIn K mainGlobals "len" = some none)
    (z_range : PySem.W.nsIn K mainGlobals "range" = some none)
    (z_tuple : PySem.W.nsIn K mainGlobals "tuple" = some none)
    (z_enumerate : PySem.W.nsIn K mainGlobals "enumerate" = some none)
    (z_min : PySem.W.nsIn K mainGlobals "min" = some none)
    (z_max : PySem.W.nsIn K mainGlobals "max" = some none)
    (z_sorted : PySem.W.nsIn K mainGlobals "sorted" = some none)
    (z_isinstance : PySem.W.nsIn K mainGlobals "isinstance" = some none)
    (z_bool : PySem.W.nsIn K mainGlobals "bool" = some none)
    (z_str : PySem.W.nsIn K mainGlobals "str" = some none)
    (z_all : PySem.W.nsIn K mainGlobals "all" = some none)
    (z_sum : PySem.W.nsIn K mainGlobals "sum" = some none)
    (z_repr : PySem.W.nsIn K mainGlobals "repr" = some none)
    (r_BadWell : Err l.prog K mg "BadWell" (some "part"))
    (r_OutOfPlace : Err l.prog K mg "OutOfPlace" none)
    (hes : errsB K ["BadWell", "OutOfPlace"] = true)
    : ∃ (fd : FuncData) (f : F), (∀ (s : Shared) (u : Value), BindsTo s fd ⟨[u], []⟩ [("_law_script", u)]) ∧ (∀ base : Heap, FnG l.prog w K mg base 7 fa fd ["_law_script"] (spF mg f)) ∧ ∀ ns : List Int, ns.length ≤ 63 → ∃ outs, f [.v (.lst (ns.map .int))] = .ok (.v (.bl true)) outs := by
  have C_MOST_TOP := PySem.W.mg_of X G c_MOST_TOP
  have C_MOST_DRAIN := PySem.W.mg_of X G c_MOST_DRAIN
  have C_MOST_AGE := PySem.W.mg_of X G c_MOST_AGE
  have C_MOST_STARTS := PySem.W.mg_of X G c_MOST_STARTS
  have C_MOST_STEP := PySem.W.mg_of X G c_MOST_STEP
  have C_MOST_LAG := PySem.W.mg_of X G c_MOST_LAG
  have C_FIRST := PySem.W.mg_of X G c_FIRST
  have C_TURNS := PySem.W.mg_of X G c_TURNS
  have C_MOST_PUMPS := PySem.W.mg_of X G c_MOST_PUMPS
  have C_MOST_INFLOW_crews := PySem.W.mg_of X G c_MOST_INFLOW_crews
  have C_OVER_crews := PySem.W.mg_of X G c_OVER_crews
  have C_DRY_crews := PySem.W.mg_of X G c_DRY_crews
  have C_MOST_COUNT := PySem.W.mg_of X G c_MOST_COUNT
  have C_MOST_NUMBER := PySem.W.mg_of X G c_MOST_NUMBER
  have C_MOST_INFLOW_wells := PySem.W.mg_of X G c_MOST_INFLOW_wells
  have C_OVER_wells := PySem.W.mg_of X G c_OVER_wells
  have C_DRY_wells := PySem.W.mg_of X G c_DRY_wells
  have Z_list := PySem.W.mg_none_of X G z_list
  have Z_int := PySem.W.mg_none_of X G z_int
  have Z_len := PySem.W.mg_none_of X G z_len
  have Z_range := PySem.W.mg_none_of X G z_range
  have Z_tuple := PySem.W.mg_none_of X G z_tuple
  have Z_enumerate := PySem.W.mg_none_of X G z_enumerate
  have Z_min := PySem.W.mg_none_of X G z_min
  have Z_max := PySem.W.mg_none_of X G z_max
  have Z_sorted := PySem.W.mg_none_of X G z_sorted
  have Z_isinstance := PySem.W.mg_none_of X G z_isinstance
  have Z_bool := PySem.W.mg_none_of X G z_bool
  have Z_str := PySem.W.mg_none_of X G z_str
  have Z_all := PySem.W.mg_none_of X G z_all
  have Z_sum := PySem.W.mg_none_of X G z_sum
  have Z_repr := PySem.W.mg_none_of X G z_repr
  have XS : XsOk l.prog K mg [("BadWell", some "part"), ("OutOfPlace", none)] := ⟨(XsAll.cons r_BadWell (XsAll.cons r_OutOfPlace XsAll.nil)), errsB_ok X G hes⟩
  have D__law_begun : ∀ base : Heap, Def l.prog w K mg base 1 "_law_begun" begunC := fun base => i__law_begun.def (k := 0) X G sc__law_begun (by decide) CsOk.nil (BlOk.cons Z_list BlOk.nil) DefsOk.nil XsOk.nil e__law_begun (fun _ _ _ _ _ _ us hl => match us, hl with | [_], _ => rfl)
  have D__law_mix : ∀ base : Heap, Def l.prog w K mg base 1 "_law_mix" mixC := fun base => i__law_mix.def (k := 0) X G sc__law_mix (by decide) CsOk.nil (BlOk.cons Z_int BlOk.nil) DefsOk.nil XsOk.nil e__law_mix (fun _ _ _ _ _ _ us hl => match us, hl with | [_, _], _ => rfl)
  have D__law_draw : ∀ base : Heap, Def l.prog w K mg base 2 "_law_draw" drawC := fun base => i__law_draw.def (k := 1) X G sc__law_draw (by decide) CsOk.nil (BlOk.cons Z_int (BlOk.cons Z_len BlOk.nil)) (DefsOk.cons ((D__law_mix base).mono (by decide)) DefsOk.nil) XsOk.nil e__law_draw (fun _ _ _ _ _ _ us hl => match us, hl with | [_, _], _ => rfl)
  have D__law_well : ∀ base : Heap, Def l.prog w K mg base 3 "_law_well" T3.f_law_well := fun base => i__law_well.def (k := 2) X G sc__law_well (by decide) CsOk.nil BlOk.nil (DefsOk.cons ((D__law_draw base).mono (by decide)) DefsOk.nil) XsOk.nil e__law_well (fun _ _ _ _ _ _ us hl => match us, hl with | [_, _, _], _ => rfl)
  have D__law_first : ∀ base : Heap, Def l.prog w K mg base 1 "_law_first" A.f_law_first := fun base => i__law_first.def (k := 0) X G sc__law_first (by decide) CsOk.nil BlOk.nil DefsOk.nil XsOk.nil e__law_first (fun _ _ _ _ _ _ us hl => match us, hl with | [_, _, _], _ => rfl)
  have D__law_crew : ∀ base : Heap, Def l.prog w K mg base 3 "_law_crew" T3.f_law_crew := fun base => i__law_crew.def (k := 2) X G sc__law_crew (by decide) CsOk.nil (BlOk.cons Z_range (BlOk.cons Z_tuple (BlOk.cons Z_len BlOk.nil))) (DefsOk.cons ((D__law_draw base).mono (by decide)) DefsOk.nil) XsOk.nil e__law_crew (fun _ _ _ _ _ _ us hl => match us, hl with | [_, _, _, _], _ => rfl)
  have D__law_led_crew : ∀ base : Heap, Def l.prog w K mg base 1 "_law_led_crew" T3.f_law_led_crew := fun base => i__law_led_crew.def (k := 0) X G sc__law_led_crew (by decide) CsOk.nil (BlOk.cons Z_int (BlOk.cons Z_list (BlOk.cons Z_range (BlOk.cons Z_len (BlOk.cons Z_enumerate (BlOk.cons Z_min (BlOk.cons Z_max (BlOk.cons Z_tuple (BlOk.cons Z_sorted BlOk.nil))))))))) DefsOk.nil XsOk.nil e__law_led_crew (fun _ _ _ _ _ _ us hl => match us, hl with | [_, _, _, _], _ => rfl)
  have D_is_whole : ∀ base : Heap, Def l.prog w K mg base 1 "is_whole" P.f_is_whole := fun base => i_is_whole.def (k := 0) X G sc_is_whole (by decide) CsOk.nil (BlOk.cons Z_isinstance (BlOk.cons Z_bool (BlOk.cons Z_int BlOk.nil))) DefsOk.nil XsOk.nil e_is_whole (fun _ _ _ _ _ _ us hl => match us, hl with | [_, _, _], _ => rfl)
  have D_wrong_part : ∀ base : Heap, Def l.prog w K mg base 2 "wrong_part" P.f_wrong_part := fun base => i_wrong_part.def (k := 1) X G sc_wrong_part (by decide) (CsOk.int C_MOST_TOP (CsOk.int C_MOST_DRAIN (CsOk.int C_MOST_AGE (CsOk.int C_MOST_STARTS (CsOk.int C_MOST_STEP (CsOk.int C_MOST_LAG CsOk.nil)))))) BlOk.nil (DefsOk.cons ((D_is_whole base).mono (by decide)) DefsOk.nil) XsOk.nil e_wrong_part (fun _ _ _ _ _ _ us hl => match us, hl with | [_], _ => rfl)
  have D_need_well : ∀ base : Heap, Def l.prog w K mg base 3 "need_well" P.f_need_well := fun base => i_need_well.def (k := 2) X G sc_need_well (by decide) CsOk.nil (BlOk.cons Z_isinstance (BlOk.cons Z_tuple (BlOk.cons Z_len BlOk.nil))) (DefsOk.cons ((D_wrong_part base).mono (by decide)) DefsOk.nil) XS e_need_well (fun _ _ _ _ _ _ us hl => match us, hl with | [_], _ => rfl)
  have D_need_rule : ∀ base : Heap, Def l.prog w K mg base 1 "need_rule" P.f_need_rule := fun base => i_need_rule.def (k := 0) X G sc_need_rule (by decide) (CsOk.str C_FIRST (CsOk.str C_TURNS CsOk.nil)) (BlOk.cons Z_isinstance (BlOk.cons Z_str BlOk.nil)) DefsOk.nil XS e_need_rule (fun _ _ _ _ _ _ us hl => match us, hl with | [_], _ => rfl)
  have D_is_past : ∀ base : Heap, Def l.prog w K mg base 2 "is_past" P.f_is_past := fun base => i_is_past.def (k := 1) X G sc_is_past (by decide) CsOk.nil (BlOk.cons Z_isinstance (BlOk.cons Z_tuple (BlOk.cons Z_all (BlOk.cons Z_len BlOk.nil)))) (DefsOk.cons ((D_is_whole base).mono (by decide)) DefsOk.nil) XsOk.nil e_is_past (fun _ _ _ _ _ _ us hl => match us, hl with | [_, _], _ => rfl)
  have D_is_age : ∀ base : Heap, Def l.prog w K mg base 2 "is_age" P.f_is_age := fun base => i_is_age.def (k := 1) X G sc_is_age (by decide) CsOk.nil BlOk.nil (DefsOk.cons ((D_is_whole base).mono (by decide)) DefsOk.nil) XsOk.nil e_is_age (fun _ _ _ _ _ _ us hl => match us, hl with | [_, _], _ => rfl)
  have D_is_crew_of : ∀ base : Heap, Def l.prog w K mg base 3 "is_crew_of" P.f_is_crew_of := fun base => i_is_crew_of.def (k := 2) X G sc_is_crew_of (by decide) (CsOk.int C_MOST_PUMPS (CsOk.str C_TURNS CsOk.nil)) (BlOk.cons Z_isinstance (BlOk.cons Z_tuple (BlOk.cons Z_len (BlOk.cons Z_all BlOk.nil)))) (DefsOk.cons ((D_is_whole base).mono (by decide)) (DefsOk.cons ((D_is_past base).mono (by decide)) (DefsOk.cons ((D_is_age base).mono (by decide)) DefsOk.nil))) XsOk.nil e_is_crew_of (fun _ _ _ _ _ _ us hl => match us, hl with | [_, _, _], _ => rfl)
  have D_need_crew : ∀ base : Heap, Def l.prog w K mg base 4 "need_crew" P.f_need_crew := fun base => i_need_crew.def (k := 3) X G sc_need_crew (by decide) CsOk.nil BlOk.nil (DefsOk.cons ((D_need_well base).mono (by decide)) (DefsOk.cons ((D_need_rule base).mono (by decide)) (DefsOk.cons ((D_is_crew_of base).mono (by decide)) DefsOk.nil))) XS e_need_crew (fun _ _ _ _ _ _ us hl => match us, hl with | [_, _, _], _ => rfl)
  have D_need_inflow : ∀ base : Heap, Def l.prog w K mg base 2 "need_inflow" P.f_need_inflow := fun base => i_need_inflow.def (k := 1) X G sc_need_inflow (by decide) (CsOk.int C_MOST_INFLOW_crews CsOk.nil) BlOk.nil (DefsOk.cons ((D_is_whole base).mono (by decide)) DefsOk.nil) XS e_need_inflow (fun _ _ _ _ _ _ us hl => match us, hl with | [_], _ => rfl)
  have D_seen_of : ∀ base : Heap, Def l.prog w K mg base 1 "seen_of" P.f_seen_of := fun base => i_seen_of.def (k := 0) X G sc_seen_of (by decide) CsOk.nil (BlOk.cons Z_int BlOk.nil) DefsOk.nil XsOk.nil e_seen_of (fun _ _ _ _ _ _ us hl => match us, hl with | [_, _, _], _ => rfl)
  have D_beginners : ∀ base : Heap, Def l.prog w K mg base 2 "beginners" P.f_beginners := fun base => i_beginners.def (k := 1) X G sc_beginners (by decide) (CsOk.str C_TURNS CsOk.nil) (BlOk.cons Z_list (BlOk.cons Z_range (BlOk.cons Z_int (BlOk.cons Z_len BlOk.nil)))) (DefsOk.cons ((D_seen_of base).mono (by decide)) DefsOk.nil) XsOk.nil e_beginners (fun _ _ _ _ _ _ us hl => match us, hl with | [_, _, _], _ => rfl)
  have D_ages_after : ∀ base : Heap, Def l.prog w K mg base 3 "ages_after" P.f_ages_after := fun base => i_ages_after.def (k := 2) X G sc_ages_after (by decide) CsOk.nil (BlOk.cons Z_enumerate (BlOk.cons Z_max (BlOk.cons Z_min (BlOk.cons Z_tuple BlOk.nil)))) (DefsOk.cons ((D_beginners base).mono (by decide)) (DefsOk.cons ((D_seen_of base).mono (by decide)) DefsOk.nil)) XsOk.nil e_ages_after (fun _ _ _ _ _ _ us hl => match us, hl with | [_, _, _], _ => rfl)
  have D_crew_in : ∀ base : Heap, Def l.prog w K mg base 4 "crew_in" P.f_crew_in := fun base => i_crew_in.def (k := 3) X G sc_crew_in (by decide) (CsOk.str C_OVER_crews (CsOk.str C_DRY_crews (CsOk.str C_TURNS CsOk.nil))) (BlOk.cons Z_len (BlOk.cons Z_int BlOk.nil)) (DefsOk.cons ((D_ages_after base).mono (by decide)) (DefsOk.cons ((D_beginners base).mono (by decide)) DefsOk.nil)) XsOk.nil e_crew_in (fun _ _ _ _ _ _ us hl => match us, hl with | [_, _, _, _], _ => rfl)
  have D_crew_after : ∀ base : Heap, Def l.prog w K mg base 5 "crew_after" P.f_crew_after := fun base => i_crew_after.def (k := 4) X G sc_crew_after (by decide) CsOk.nil BlOk.nil (DefsOk.cons ((D_need_crew base).mono (by decide)) (DefsOk.cons ((D_need_inflow base).mono (by decide)) (DefsOk.cons ((D_crew_in base).mono (by decide)) DefsOk.nil))) XsOk.nil e_crew_after (fun _ _ _ _ _ _ us hl => match us, hl with | [_, _, _, _], _ => rfl)
  have D_runners : ∀ base : Heap, Def l.prog w K mg base 4 "runners" P.f_runners := fun base => i_runners.def (k := 3) X G sc_runners (by decide) CsOk.nil (BlOk.cons Z_enumerate BlOk.nil) (DefsOk.cons ((D_ages_after base).mono (by decide)) DefsOk.nil) XsOk.nil e_runners (fun _ _ _ _ _ _ us hl => match us, hl with | [_, _, _], _ => rfl)
  have D_running : ∀ base : Heap, Def l.prog w K mg base 5 "running" P.f_running := fun base => i_running.def (k := 4) X G sc_running (by decide) CsOk.nil (BlOk.cons Z_tuple BlOk.nil) (DefsOk.cons ((D_need_crew base).mono (by decide)) (DefsOk.cons ((D_need_inflow base).mono (by decide)) (DefsOk.cons ((D_runners base).mono (by decide)) DefsOk.nil))) XsOk.nil e_running (fun _ _ _ _ _ _ us hl => match us, hl with | [_, _, _, _], _ => rfl)
  have D_starting : ∀ base : Heap, Def l.prog w K mg base 5 "starting" P.f_starting := fun base => i_starting.def (k := 4) X G sc_starting (by decide) CsOk.nil (BlOk.cons Z_tuple (BlOk.cons Z_sorted BlOk.nil)) (DefsOk.cons ((D_need_crew base).mono (by decide)) (DefsOk.cons ((D_need_inflow base).mono (by decide)) (DefsOk.cons ((D_beginners base).mono (by decide)) DefsOk.nil))) XsOk.nil e_starting (fun _ _ _ _ _ _ us hl => match us, hl with | [_, _, _, _], _ => rfl)
  have D__law_counted : ∀ base : Heap, Def l.prog w K mg base 1 "_law_counted" f__law_counted := fun base => i__law_counted.def (k := 0) X G sc__law_counted (by decide) CsOk.nil (BlOk.cons Z_tuple (BlOk.cons Z_range BlOk.nil)) DefsOk.nil XsOk.nil e__law_counted (fun _ _ _ _ _ _ us hl => match us, hl with | [_, _], _ => rfl)
  have D_are_levels : ∀ base : Heap, Def l.prog w K mg base 2 "are_levels" P.f_are_levels := fun base => i_are_levels.def (k := 1) X G sc_are_levels (by decide) CsOk.nil (BlOk.cons Z_isinstance (BlOk.cons Z_tuple (BlOk.cons Z_len (BlOk.cons Z_all BlOk.nil)))) (DefsOk.cons ((D_is_whole base).mono (by decide)) DefsOk.nil) XsOk.nil e_are_levels (fun _ _ _ _ _ _ us hl => match us, hl with | [_, _, _], _ => rfl)
  have D_are_counts : ∀ base : Heap, Def l.prog w K mg base 2 "are_counts" P.f_are_counts := fun base => i_are_counts.def (k := 1) X G sc_are_counts (by decide) (CsOk.int C_MOST_COUNT CsOk.nil) (BlOk.cons Z_isinstance (BlOk.cons Z_tuple (BlOk.cons Z_len (BlOk.cons Z_all BlOk.nil)))) (DefsOk.cons ((D_is_whole base).mono (by decide)) DefsOk.nil) XsOk.nil e_are_counts (fun _ _ _ _ _ _ us hl => match us, hl with | [_, _], _ => rfl)
  have D_number_of : ∀ base : Heap, Def l.prog w K mg base 1 "number_of" P.f_number_of := fun base => i_number_of.def (k := 0) X G sc_number_of (by decide) CsOk.nil (BlOk.cons Z_sum BlOk.nil) DefsOk.nil XsOk.nil e_number_of (fun _ _ _ _ _ _ us hl => match us, hl with | [_], _ => rfl)
  have D_is_state_of : ∀ base : Heap, Def l.prog w K mg base 3 "is_state_of" P.f_is_state_of := fun base => i_is_state_of.def (k := 2) X G sc_is_state_of (by decide) (CsOk.int C_MOST_NUMBER CsOk.nil) (BlOk.cons Z_isinstance (BlOk.cons Z_tuple (BlOk.cons Z_len BlOk.nil))) (DefsOk.cons ((D_is_whole base).mono (by decide)) (DefsOk.cons ((D_are_levels base).mono (by decide)) (DefsOk.cons ((D_are_counts base).mono (by decide)) (DefsOk.cons ((D_number_of base).mono (by decide)) DefsOk.nil)))) XsOk.nil e_is_state_of (fun _ _ _ _ _ _ us hl => match us, hl with | [_, _], _ => rfl)
  have D_need_state : ∀ base : Heap, Def l.prog w K mg base 4 "need_state" P.f_need_state := fun base => i_need_state.def (k := 3) X G sc_need_state (by decide) CsOk.nil BlOk.nil (DefsOk.cons ((D_is_state_of base).mono (by decide)) (DefsOk.cons ((D_need_well base).mono (by decide)) DefsOk.nil)) XS e_need_state (fun _ _ _ _ _ _ us hl => match us, hl with | [_, _], _ => rfl)
  have D_is_inflow : ∀ base : Heap, Def l.prog w K mg base 2 "is_inflow" P.f_is_inflow := fun base => i_is_inflow.def (k := 1) X G sc_is_inflow (by decide) (CsOk.int C_MOST_INFLOW_wells CsOk.nil) BlOk.nil (DefsOk.cons ((D_is_whole base).mono (by decide)) DefsOk.nil) XsOk.nil e_is_inflow (fun _ _ _ _ _ _ us hl => match us, hl with | [_], _ => rfl)
  have D_moves_of : ∀ base : Heap, Def l.prog w K mg base 2 "moves_of" P.f_moves_of := fun base => i_moves_of.def (k := 1) X G sc_moves_of (by decide) CsOk.nil (BlOk.cons Z_min BlOk.nil) (DefsOk.cons ((D_seen_of base).mono (by decide)) DefsOk.nil) XsOk.nil e_moves_of (fun _ _ _ _ _ _ us hl => match us, hl with | [_, _], _ => rfl)
  have D_aged : ∀ base : Heap, Def l.prog w K mg base 1 "aged" P.f_aged := fun base => i_aged.def (k := 0) X G sc_aged (by decide) CsOk.nil BlOk.nil DefsOk.nil XsOk.nil e_aged (fun _ _ _ _ _ _ us hl => match us, hl with | [_, _, _, _, _, _], _ => rfl)
  have D_led_to : ∀ base : Heap, Def l.prog w K mg base 2 "led_to" P.f_led_to := fun base => i_led_to.def (k := 1) X G sc_led_to (by decide) (CsOk.str C_OVER_wells (CsOk.str C_DRY_wells CsOk.nil)) (BlOk.cons Z_sum BlOk.nil) (DefsOk.cons ((D_aged base).mono (by decide)) DefsOk.nil) XsOk.nil e_led_to (fun _ _ _ _ _ _ us hl => match us, hl with | [_, _, _, _, _], _ => rfl)
  have D_after_in : ∀ base : Heap, Def l.prog w K mg base 3 "after_in" P.f_after_in := fun base => i_after_in.def (k := 2) X G sc_after_in (by decide) CsOk.nil BlOk.nil (DefsOk.cons ((D_moves_of base).mono (by decide)) (DefsOk.cons ((D_led_to base).mono (by decide)) DefsOk.nil)) XsOk.nil e_after_in (fun _ _ _ _ _ _ us hl => match us, hl with | [_, _, _], _ => rfl)
  have D_after : ∀ base : Heap, Def l.prog w K mg base 5 "after" P.f_after := fun base => i_after.def (k := 4) X G sc_after (by decide) CsOk.nil BlOk.nil (DefsOk.cons ((D_need_state base).mono (by decide)) (DefsOk.cons ((D_is_inflow base).mono (by decide)) (DefsOk.cons ((D_after_in base).mono (by decide)) DefsOk.nil))) XS e_after (fun _ _ _ _ _ _ us hl => match us, hl with | [_, _, _], _ => rfl)
  have D_state_of : ∀ base : Heap, Def l.prog w K mg base 4 "state_of" P.f_state_of := fun base => i_state_of.def (k := 3) X G sc_state_of (by decide) (CsOk.str C_TURNS CsOk.nil) (BlOk.cons Z_tuple (BlOk.cons Z_range BlOk.nil)) (DefsOk.cons ((D_need_well base).mono (by decide)) (DefsOk.cons ((D_is_crew_of base).mono (by decide)) DefsOk.nil)) XS e_state_of (fun _ _ _ _ _ _ us hl => match us, hl with | [_, _], _ => rfl)
  have D_is_crew : ∀ base : Heap, Def l.prog w K mg base 4 "is_crew" P.f_is_crew := fun base => i_is_crew.def (k := 3) X G sc_is_crew (by decide) CsOk.nil BlOk.nil (DefsOk.cons ((D_need_well base).mono (by decide)) (DefsOk.cons ((D_need_rule base).mono (by decide)) (DefsOk.cons ((D_is_crew_of base).mono (by decide)) DefsOk.nil))) XsOk.nil e_is_crew (fun _ _ _ _ _ _ us hl => match us, hl with | [_, _, _], _ => rfl)
  have D__law_endless : ∀ base : Heap, Def l.prog w K mg base 1 "_law_endless" f__law_endless := fun base => i__law_endless.def (k := 0) X G sc__law_endless (by decide) CsOk.nil BlOk.nil DefsOk.nil XsOk.nil e__law_endless (fun _ _ _ _ _ _ us hl => match us, hl with | [_, _], _ => rfl)
  have D__law_step_right : ∀ base : Heap, Def l.prog w K mg base 6 "_law_step_right" f__law_step_right := fun base => i__law_step_right.def (k := 5) X G sc__law_step_right (by decide) CsOk.nil (BlOk.cons Z_repr (BlOk.cons Z_isinstance (BlOk.cons Z_str BlOk.nil))) (DefsOk.cons ((D__law_led_crew base).mono (by decide)) (DefsOk.cons ((D_crew_after base).mono (by decide)) (DefsOk.cons ((D_running base).mono (by decide)) (DefsOk.cons ((D_starting base).mono (by decide)) (DefsOk.cons ((D__law_counted base).mono (by decide)) (DefsOk.cons ((D_after base).mono (by decide)) (DefsOk.cons ((D_state_of base).mono (by decide)) (DefsOk.cons ((D_is_crew base).mono (by decide)) (DefsOk.cons ((D__law_endless base).mono (by decide)) DefsOk.nil))))))))) XsOk.nil e__law_step_right (fun _ _ _ _ _ _ us hl => match us, hl with | [_, _, _, _], _ => rfl)
  have D_first_crew : ∀ base : Heap, Def l.prog w K mg base 4 "first_crew" P.f_first_crew := fun base => i_first_crew.def (k := 3) X G sc_first_crew (by decide) (CsOk.int C_MOST_PUMPS CsOk.nil) BlOk.nil (DefsOk.cons ((D_need_well base).mono (by decide)) (DefsOk.cons ((D_is_whole base).mono (by decide)) DefsOk.nil)) XS e_first_crew (fun _ _ _ _ _ _ us hl => match us, hl with | [_, _, _], _ => rfl)
  have D_is_number : ∀ base : Heap, Def l.prog w K mg base 2 "is_number" P.f_is_number := fun base => i_is_number.def (k := 1) X G sc_is_number (by decide) (CsOk.int C_MOST_NUMBER CsOk.nil) BlOk.nil (DefsOk.cons ((D_is_whole base).mono (by decide)) DefsOk.nil) XsOk.nil e_is_number (fun _ _ _ _ _ _ us hl => match us, hl with | [_], _ => rfl)
  have D_need_number : ∀ base : Heap, Def l.prog w K mg base 3 "need_number" P.f_need_number := fun base => i_need_number.def (k := 2) X G sc_need_number (by decide) CsOk.nil BlOk.nil (DefsOk.cons ((D_is_number base).mono (by decide)) DefsOk.nil) XS e_need_number (fun _ _ _ _ _ _ us hl => match us, hl with | [_], _ => rfl)
  have D_begun_with : ∀ base : Heap, Def l.prog w K mg base 1 "begun_with" P.f_begun_with := fun base => i_begun_with.def (k := 0) X G sc_begun_with (by decide) CsOk.nil BlOk.nil DefsOk.nil XsOk.nil e_begun_with (fun _ _ _ _ _ _ us hl => match us, hl with | [_, _, _], _ => rfl)
  have D_begun : ∀ base : Heap, Def l.prog w K mg base 4 "begun" P.f_begun := fun base => i_begun.def (k := 3) X G sc_begun (by decide) CsOk.nil BlOk.nil (DefsOk.cons ((D_need_well base).mono (by decide)) (DefsOk.cons ((D_need_number base).mono (by decide)) (DefsOk.cons ((D_is_whole base).mono (by decide)) (DefsOk.cons ((D_begun_with base).mono (by decide)) DefsOk.nil)))) XS e_begun (fun _ _ _ _ _ _ us hl => match us, hl with | [_, _, _], _ => rfl)
  obtain ⟨fd, hb, hF⟩ := i_law.law (P := l.prog) (w := w) (k := 6) X G hfa sc_law (by decide) CsOk.nil (BlOk.cons Z_range (BlOk.cons Z_min (BlOk.cons Z_len BlOk.nil))) (fun base => (DefsOk.cons ((D__law_begun base).mono (by decide)) (DefsOk.cons ((D__law_well base).mono (by decide)) (DefsOk.cons ((D__law_first base).mono (by decide)) (DefsOk.cons ((D__law_crew base).mono (by decide)) (DefsOk.cons ((D__law_draw base).mono (by decide)) (DefsOk.cons ((D__law_step_right base).mono (by decide)) (DefsOk.cons ((D_first_crew base).mono (by decide)) (DefsOk.cons ((D_begun base).mono (by decide)) (DefsOk.cons ((D__law_counted base).mono (by decide)) DefsOk.nil)))))))))) XsOk.nil e_law (fun _ _ _ _ _ _ _ _ => .of_eq rfl)
  exact ⟨fd, f_law, hb, hF, fun ns hn => ⟨_, law_ok hn⟩⟩
end Lt.K79
open PySem PySem.W PyProof.Rows
set_option maxHeartbeats 0 in
theorem PySem.Challenge.cw_pumphouse_k79_whole_crews_count_as_state_holds : PySem.Challenge.rw_pumphouse_k79_whole_crews_count_as_state.Holds := by
  w_on; o_law; k_head; (case hw => w_witness2)
  k_fill
  refine Lt.walkL (l := PySem.Challenge.rw_pumphouse_k79_whole_crews_count_as_state) (n := 63) (k := 7) (x := "_law_script") rfl (by decide) rfl ⟨⟨rfl, by decide, by decide⟩, rfl⟩ (fun w h Y => PySem.W.kIn_of Y) ?hK ?F
  case hK => intro w; kernel_rfl
  case F =>
    intro w mg fa h KX G hmg
    refine' Lt.K79.all_mk KX G hmg (.mk' ?a0 ?l0 ?c0 ?k0) (.mk' ?a1 ?l1 ?c1 ?k1) (.mk' ?a2 ?l2 ?c2 ?k2) (.mk' ?a3 ?l3 ?c3 ?k3) (.mk' ?a4 ?l4 ?c4 ?k4) (.mk' ?a5 ?l5 ?c5 ?k5) (.mk' ?a6 ?l6 ?c6 ?k6) (.mk' ?a7 ?l7 ?c7 ?k7) (.mk' ?a8 ?l8 ?c8 ?k8) (.mk' ?a9 ?l9 ?c9 ?k9) (.mk' ?a10 ?l10 ?c10 ?k10) (.mk' ?a11 ?l11 ?c11 ?k11) (.mk' ?a12 ?l12 ?c12 ?k12) (.mk' ?a13 ?l13 ?c13 ?k13) (.mk' ?a14 ?l14 ?c14 ?k14) (.mk' ?a15 ?l15 ?c15 ?k15) (.mk' ?a16 ?l16 ?c16 ?k16) (.mk' ?a17 ?l17 ?c17 ?k17) (.mk' ?a18 ?l18 ?c18 ?k18) (.mk' ?a19 ?l19 ?c19 ?k19) (.mk' ?a20 ?l20 ?c20 ?k20) (.mk' ?a21 ?l21 ?c21 ?k21) (.mk' ?a22 ?l22 ?c22 ?k22) (.mk' ?a23 ?l23 ?c23 ?k23) (.mk' ?a24 ?l24 ?c24 ?k24) (.mk' ?a25 ?l25 ?c25 ?k25) (.mk' ?a26 ?l26 ?c26 ?k26) (.mk' ?a27 ?l27 ?c27 ?k27) (.mk' ?a28 ?l28 ?c28 ?k28) (.mk' ?a29 ?l29 ?c29 ?k29) (.mk' ?a30 ?l30 ?c30 ?k30) (.mk' ?a31 ?l31 ?c31 ?k31) (.mk' ?a32 ?l32 ?c32 ?k32) (.mk' ?a33 ?l33 ?c33 ?k33) (.mk' ?a34 ?l34 ?c34 ?k34) (.mk' ?a35 ?l35 ?c35 ?k35) (.mk' ?a36 ?l36 ?c36 ?k36) (.mk' ?a37 ?l37 ?c37 ?k37) (.mk' ?a38 ?l38 ?c38 ?k38) (.mk' ?a39 ?l39 ?c39 ?k39) (.mk' ?a40 ?l40 ?c40 ?k40) (.mk' ?a41 ?l41 ?c41 ?k41) (.mk' ?a42 ?l42 ?c42 ?k42) (.mk' ?a43 ?l43 ?c43 ?k43) (.mk' ?a44 ?l44 ?c44 ?k44) (.mk' ?a45 ?l45 ?c45 ?k45) ?y0 ?y1 ?y2 ?y3 ?y4 ?y5 ?y6 ?y7 ?y8 ?y9 ?y10 ?y11 ?y12 ?y13 ?y14 ?y15 ?y16 ?z0 ?z1 ?z2 ?z3 ?z4 ?z5 ?z6 ?z7 ?z8 ?z9 ?z10 ?z11 ?z12 ?z13 ?z14 (Lt.Err.mk' (y := "part") (st := Lt.mthS (Lt.K79.topS 1) 0) KX G PySem.F.excBase_ValueError PySem.W.kxs_ValueError ?eaBadWell ?ebBadWell ?ecBadWell ?edBadWell ?eeBadWell ?efBadWell ?egBadWell ?ehBadWell ?eiBadWell ?ejBadWell ?ekBadWell ?elBadWell ?emBadWell ?enBadWell ?eoBadWell ?epBadWell ?eqBadWell ?erBadWell rfl ⟨_, rfl, rfl⟩ ?bbBadWell (by refine ⟨?_, ?_, ?_, ?_, ?_, ?_, ?_, ?_, ?_, ?_⟩ <;> first | rfl | decide +kernel) (.fld rfl PySem.F.store_ValueError ?s1BadWell ?s2BadWell ?s3BadWell ?s4BadWell)) (Lt.Err.mk' (y := "text") (st := Lt.mthS (Lt.K79.topS 2) 0) KX G PySem.F.excBase_ValueError PySem.W.kxs_ValueError ?eaOutOfPlace ?ebOutOfPlace ?ecOutOfPlace ?edOutOfPlace ?eeOutOfPlace ?efOutOfPlace ?egOutOfPlace ?ehOutOfPlace ?eiOutOfPlace ?ejOutOfPlace ?ekOutOfPlace ?elOutOfPlace ?emOutOfPlace ?enOutOfPlace ?eoOutOfPlace ?epOutOfPlace ?eqOutOfPlace ?erOutOfPlace rfl ⟨_, rfl, rfl⟩ ?bbOutOfPlace (by refine ⟨?_, ?_, ?_, ?_, ?_, ?_, ?_, ?_, ?_, ?_⟩ <;> first | rfl | decide +kernel) (.no rfl)) ?hes
    (case a0 => k_is); (case l0 => k_is); (case c0 => k_is); (case k0 => k_is); (case a1 => k_is); (case l1 => k_is); (case c1 => k_is); (case k1 => k_is); (case a2 => k_is); (case l2 => k_is); (case c2 => k_is); (case k2 => k_is); (case a3 => k_is); (case l3 => k_is); (case c3 => k_is); (case k3 => k_is); (case a4 => k_is); (case l4 => k_is); (case c4 => k_is); (case k4 => k_is); (case a5 => k_is); (case l5 => k_is); (case c5 => k_is); (case k5 => k_is); (case a6 => k_is); (case l6 => k_is); (case c6 => k_is); (case k6 => k_is); (case a7 => k_is); (case l7 => k_is); (case c7 => k_is); (case k7 => k_is); (case a8 => k_is); (case l8 => k_is); (case c8 => k_is); (case k8 => k_is); (case a9 => k_is); (case l9 => k_is); (case c9 => k_is); (case k9 => k_is); (case a10 => k_is); (case l10 => k_is); (case c10 => k_is); (case k10 => k_is); (case a11 => k_is); (case l11 => k_is); (case c11 => k_is); (case k11 => k_is); (case a12 => k_is); (case l12 => k_is); (case c12 => k_is); (case k12 => k_is); (case a13 => k_is); (case l13 => k_is); (case c13 => k_is); (case k13 => k_is); (case a14 => k_is); (case l14 => k_is); (case c14 => k_is); (case k14 => k_is); (case a15 => k_is); (case l15 => k_is); (case c15 => k_is); (case k15 => k_is); (case a16 => k_is); (case l16 => k_is); (case c16 => k_is); (case k16 => k_is); (case a17 => k_is); (case l17 => k_is); (case c17 => k_is); (case k17 => k_is); (case a18 => k_is); (case l18 => k_is); (case c18 => k_is); (case k18 => k_is); (case a19 => k_is); (case l19 => k_is); (case c19 => k_is); (case k19 => k_is); (case a20 => k_is); (case l20 => k_is); (case c20 => k_is); (case k20 => k_is); (case a21 => k_is); (case l21 => k_is); (case c21 => k_is); (case k21 => k_is); (case a22 => k_is); (case l22 => k_is); (case c22 => k_is); (case k22 => k_is); (case a23 => k_is); (case l23 => k_is); (case c23 => k_is); (case k23 => k_is); (case a24 => k_is); (case l24 => k_is); (case c24 => k_is); (case k24 => k_is); (case a25 => k_is); (case l25 => k_is); (case c25 => k_is); (case k25 => k_is); (case a26 => k_is); (case l26 => k_is); (case c26 => k_is); (case k26 => k_is); (case a27 => k_is); (case l27 => k_is); (case c27 => k_is); (case k27 => k_is); (case a28 => k_is); (case l28 => k_is); (case c28 => k_is); (case k28 => k_is); (case a29 => k_is); (case l29 => k_is); (case c29 => k_is); (case k29 => k_is); (case a30 => k_is); (case l30 => k_is); (case c30 => k_is); (case k30 => k_is); (case a31 => k_is); (case l31 => k_is); (case c31 => k_is); (case k31 => k_is); (case a32 => k_is); (case l32 => k_is); (case c32 => k_is); (case k32 => k_is); (case a33 => k_is); (case l33 => k_is); (case c33 => k_is); (case k33 => k_is); (case a34 => k_is); (case l34 => k_is); (case c34 => k_is); (case k34 => k_is); (case a35 => k_is); (case l35 => k_is); (case c35 => k_is); (case k35 => k_is); (case a36 => k_is); (case l36 => k_is); (case c36 => k_is); (case k36 => k_is); (case a37 => k_is); (case l37 => k_is); (case c37 => k_is); (case k37 => k_is); (case a38 => k_is); (case l38 => k_is); (case c38 => k_is); (case k38 => k_is); (case a39 => k_is); (case l39 => k_is); (case c39 => k_is); (case k39 => k_is); (case a40 => k_is); (case l40 => k_is); (case c40 => k_is); (case k40 => k_is); (case a41 => k_is); (case l41 => k_is); (case c41 => k_is); (case k41 => k_is); (case a42 => k_is); (case l42 => k_is); (case c42 => k_is); (case k42 => k_is); (case a43 => k_is); (case l43 => k_is); (case c43 => k_is); (case k43 => k_is); (case a44 => k_is); (case l44 => k_is); (case c44 => k_is); (case k44 => k_is); (case a45 => k_is); (case l45 => k_is); (case c45 => k_is); (case k45 => k_is); (case y0 => k_is); (case y1 => k_is); (case y2 => k_is); (case y3 => k_is); (case y4 => k_is); (case y5 => k_is); (case y6 => k_is); (case y7 => k_is); (case y8 => k_is); (case y9 => k_is); (case y10 => k_is); (case y11 => k_is); (case y12 => k_is); (case y13 => k_is); (case y14 => k_is); (case y15 => k_is); (case y16 => k_is); (case z0 => k_is); (case z1 => k_is); (case z2 => k_is); (case z3 => k_is); (case z4 => k_is); (case z5 => k_is); (case z6 => k_is); (case z7 => k_is); (case z8 => k_is); (case z9 => k_is); (case z10 => k_is); (case z11 => k_is); (case z12 => k_is); (case z13 => k_is); (case z14 => k_is)
    (case eaBadWell => first | k_is | kernel_rfl)
    (case ebBadWell => kernel_rfl)
    (case ecBadWell => first | k_is | kernel_rfl)
    (case edBadWell => first | k_is | kernel_rfl)
    (case eeBadWell => first | k_is | kernel_rfl)
    (case efBadWell => first | k_is | kernel_rfl)
    (case egBadWell => first | k_is | kernel_rfl)
    (case ehBadWell => rfl)
    (case eiBadWell => rfl)
    (case ejBadWell => first | k_is | kernel_rfl)
    (case ekBadWell => first | k_is | kernel_rfl)
    (case elBadWell => first | k_is | kernel_rfl)
    (case emBadWell => first | k_is | kernel_rfl)
    (case enBadWell => first | k_is | kernel_rfl)
    (case eoBadWell => first | k_is | kernel_rfl)
    (case epBadWell => first | k_is | kernel_rfl)
    (case eqBadWell => first | k_is | kernel_rfl)
    (case erBadWell => first | k_is | kernel_rfl)
    (case bbBadWell => intro _ _; rfl)
    (case s1BadWell => k_is); (case s2BadWell => kernel_rfl); (case s3BadWell => k_is); (case s4BadWell => k_is)
    (case eaOutOfPlace => first | k_is | kernel_rfl)
    (case ebOutOfPlace => kernel_rfl)
    (case ecOutOfPlace => first | k_is | kernel_rfl)
    (case edOutOfPlace => first | k_is | kernel_rfl)
    (case eeOutOfPlace => first | k_is | kernel_rfl)
    (case efOutOfPlace => first | k_is | kernel_rfl)
    (case egOutOfPlace => first | k_is | kernel_rfl)
    (case ehOutOfPlace => rfl)
    (case eiOutOfPlace => rfl)
    (case ejOutOfPlace => first | k_is | kernel_rfl)
    (case ekOutOfPlace => first | k_is | kernel_rfl)
    (case elOutOfPlace => first | k_is | kernel_rfl)
    (case emOutOfPlace => first | k_is | kernel_rfl)
    (case enOutOfPlace => first | k_is | kernel_rfl)
    (case eoOutOfPlace => first | k_is | kernel_rfl)
    (case epOutOfPlace => first | k_is | kernel_rfl)
    (case eqOutOfPlace => first | k_is | kernel_rfl)
    (case erOutOfPlace => first | k_is | kernel_rfl)
    (case bbOutOfPlace => intro _ _; rfl)
    (case hes => kernel_rfl)
