import PyProof.Rows.All
import Wide.All
import OpenK.AllK
import Wide.FinOn
import HandS.ForMost
import HandS.ForExc
import HandS.Walk
import HandS.Zip
import HandS.Rev
import HandS.IsInst
import HandS.Deep
import HandS.TupAny
import HandS.EndBits
import HandS.Replace
import HandS.SortRule
import HandS.SortInts
import HandS.ExcIs
import HandS.ExcField
import KE.DataFind
import KE.KTupSum
import HandS.TupMul
import HandS.Strs
import HandS.Style
import HandS.Text
import KE.KExcIs
import HandS.ExcInit
import HandS.RaiseMore
import HandS.More
import KE.GoesEnum
import HandS.RevTup
import PyProof.ListNew
import PySem.Challenge.RW_barsplit_k08_solved
set_option Elab.async false
set_option linter.all false
set_option maxRecDepth 100000
set_option maxHeartbeats 4000000
namespace Mn
open PySem PySem.Spec PyProof.Rows L2
/-- a tuple's object, with no dict -/
def TupO (o : Obj) : Prop := o.cls = .type "tuple" ∧ o.dict = none
/-- a tuple of which it is known that it has no dict -/
def TupN (K : PySem.W.Frag) (F : Hp) (a : Addr) (xs : List V) : Prop :=
  (∃ o : Obj, F a = some (.frz o (.tup xs)) ∧ TupO o) ∨
    ∃ (o : Obj) (its : Array Value) (n : Nat), K.lookup a = some o ∧ o.cls = .type "tuple" ∧ o.dict = none ∧ o.data = .seq its n ∧ its.size ≤ sizeLine ∧ Vals xs its.toList
/-- what is wished for where a new tuple is made -/
def NewT (Q : VK) (H : Hp) (xs : List V) : Prop := ∀ (p : Addr) (o : Obj), TupO o → H p = none → Q (.ref p) (upd H p (.frz o (.tup xs)))
section
variable {K : PySem.W.Frag} {H H' : Hp}
theorem TupN.sqT {a : Addr} {xs : List V} (h : TupN K H a xs) : SqT K H a xs := by
  rcases h with ⟨o, h, _⟩ | ⟨o, its, n, h1, h2, _, h3⟩
  · exact .inl (.inr ⟨o, h⟩)
  · exact .inr ⟨o, its, n, h1, h2, h3⟩
theorem Same.tupN (e : Same H H') {a : Addr} {xs : List V} (h : TupN K H a xs) : TupN K H' a xs := by
  rcases h with ⟨o, h, q⟩ | h
  · exact .inl ⟨o, e _ _ h, q⟩
  · exact .inr h
theorem TupN.of {a : Addr} {xs : List V} {o : Obj} (q : TupO o) (h : H a = some (.frz o (.tup xs))) : TupN K H a xs := .inl ⟨o, h, q⟩
end
section
variable {X : Cx} {pins : List (Addr × Obj)} {σ : L2.St} {H : Hp} {s : Shared}
/-- a new known tuple in the heap -/
theorem laidT {xs : List V} {its : List Value} {h0 : Heap} {tk : Nat} (I : Inv X pins σ H { s with heap := h0, toks := tk }) (hz : xs.length ≤ sizeLine) (r : Vals xs its) :
    Inv X pins σ (upd H h0.objs.size (.frz { cls := .type "tuple", data := .seq its.toArray } (.tup xs))) { s with heap := h0.push { cls := .type "tuple", data := .seq its.toArray }, toks := tk } :=
  I.laid (t' := tk) (fun b u e => Heap.get?_push_of_some _ e) (Nat.le_refl _) ⟨Heap.get?_push_size _ rfl, hz, its, r, IsTup.new _ _⟩
theorem laidQ {xs : List V} {its : List Value} {h0 : Heap} {tk : Nat} {Q : VK} (I : Inv X pins σ H { s with heap := h0, toks := tk }) (hz : xs.length ≤ sizeLine) (r : Vals xs its) (q : NewT Q H xs) :
    EP X pins σ Q (.ref h0.objs.size) { s with heap := h0.push { cls := .type "tuple", data := .seq its.toArray }, toks := tk } :=
  ⟨.ref h0.objs.size, _, laidT I hz r, rfl, q _ _ ⟨rfl, rfl⟩ (I.hok.fresh (Nat.le_refl _))⟩
def tTupN (t : TA) : TE := fun σ H Q => t σ H fun xs H1 => xs.length ≤ sizeLine ∧ NewT Q H1 xs
theorem pe_tupN {es : List Expr} {t : TA} {x1} {pos : Pos} (h : PA X es t) : PE X (.Tuple es x1 pos) (tTupN t) := by
  refine ⟨fun pins s σ H Q I hq => ?_⟩
  refine wpAny_Tuple_spliced (thn (h.run pos pins s σ H _ I hq) fun us s1 ⟨xs, H1, I1, r, z, q⟩ => ⟨by rw [← r.length]; exact z, ?_⟩)
  exact laidQ (s := s1) (h0 := s1.heap) (tk := s1.toks) I1 z r q
theorem call_tuple_ofN : CallR X (.type "tuple") (fun xs H Q => ∃ p ys, xs = [.ref p] ∧ ((SqL X.K H p ys ∧ NewT Q H ys) ∨ (SqT X.K H p ys ∧ Q (.ref p) H))) := by
  intro pins s σ H xs us Q I r h
  obtain ⟨p, ys, rfl, h⟩ := h
  obtain ⟨u, rfl, rx⟩ := vals1 r
  cases rx
  rcases h with ⟨hq, q⟩ | ⟨hq, q⟩
  · obtain ⟨its, r', pl, hz⟩ := I.list hq
    have hlen := r'.length
    refine call_tuple_list pl.isList (fun h' kp => ?_) (by simp only [List.size_toArray] <;> omega)
    exact laidQ (s := s) (h0 := h') (tk := s.toks) (I.kept (t' := s.toks) kp) hz r' q
  · obtain ⟨its, r', pl, hz⟩ := I.tuple hq
    exact call_tuple_same pl ⟨.ref p, H, I, rfl, q⟩
/-- t + u -/
def rCatN (K : PySem.W.Frag) : R2 := fun x y H Q => ∃ a b xs ys, x = .ref a ∧ y = .ref b ∧ SqT K H a xs ∧ SqT K H b ys ∧ xs.length + ys.length ≤ sizeLine ∧
  (xs = [] → Q (.ref b) H) ∧ (xs ≠ [] → ys = [] → Q (.ref a) H) ∧ (xs ≠ [] → ys ≠ [] → NewT Q H (xs ++ ys))
theorem op_catN : OpR X (binaryOp .Add) (rCatN X.K) := by
  intro pins s σ H x y v u Q I rx ry h
  obtain ⟨a, b, xs, ys, rfl, rfl, ha, hb, hz, q0, q1, q2⟩ := h
  cases rx
  cases ry
  obtain ⟨its, r1, p1, _⟩ := I.tuple ha
  obtain ⟨its2, r2, p2, _⟩ := I.tuple hb
  by_cases hx : xs = []
  · subst hx
    cases r1
    exact cat_tup0 p1 p2 ⟨.ref b, H, I, rfl, q0 rfl⟩
  · refine HT.cat_tup p1 p2 (fun z => hx (r1.nil_iff.mp z)) (fun z => ⟨.ref a, H, I, rfl, q1 hx (r2.nil_iff.mp z)⟩) (fun z => ?_) (by rw [← r1.length, ← r2.length]; exact hz)
    exact laidQ (s := s) (h0 := s.heap) (tk := s.toks) I (by rw [List.length_append]; exact hz) (r1.append r2) (q2 hx fun w => z (r2.nil_iff.mpr w))
/-- t[lo:hi]: the whole of it is t itself -/
def rSlN (K : PySem.W.Frag) : V → Option Int → Option Int → Hp → VK → Prop := fun x lo hi H Q => ∃ a xs, x = .ref a ∧ SqT K H a xs ∧
  (HT.sIx xs.length 0 lo = 0 ∧ HT.sIx xs.length xs.length hi = xs.length → Q (.ref a) H) ∧ (¬ (HT.sIx xs.length 0 lo = 0 ∧ HT.sIx xs.length xs.length hi = xs.length) → NewT Q H (cutV xs lo hi))
theorem sl_tupN : SlR X (rSlN X.K) := by
  intro pins s σ H x v vl vu lo hi sl Q I rx hs pl pu h
  obtain ⟨a, xs, rfl, hx, q1, q2⟩ := h
  by_cases hw : HT.sIx xs.length 0 lo = 0 ∧ HT.sIx xs.length xs.length hi = xs.length
  · cases rx
    obtain ⟨its, r, ht, hz⟩ := I.tuple hx
    have hlen : its.toArray.size = xs.length := by rw [List.size_toArray]; exact r.length.symm
    refine ⟨"tuple", _, PyProof.Rows.slot_tuple_getitem.lookup, ht.typeIs, ?_⟩
    exact getItem_tuple_whole ht hs pl pu (by rw [hlen]; exact hw) ⟨.ref a, H, I, rfl, q1 hw⟩
  · cases rx
    obtain ⟨its, r, ht, hz⟩ := I.tuple hx
    have hlen : its.toArray.size = xs.length := by rw [List.size_toArray]; exact r.length.symm
    refine ⟨"tuple", _, PyProof.Rows.slot_tuple_getitem.lookup, ht.typeIs, ?_⟩
    refine HT.getItem_tuple_cut ht hs pl pu (by rw [hlen]; exact hw) ?_ (by rw [hlen]; exact hz)
    rw [hlen]
    exact laidQ (s := s) (h0 := s.heap) (tk := s.toks) I (Nat.le_trans (cutV_length xs lo hi) hz) ((r.drop (HT.sIx xs.length 0 lo)).take (HT.sIx xs.length xs.length hi - HT.sIx xs.length 0 lo)) (q2 hw)
/-- t * k -/
def rRepN (K : PySem.W.Frag) : R2 := fun x y H Q => ∃ l k xs, x = .ref l ∧ y = .int k ∧ SqT K H l xs ∧ xs ≠ [] ∧ 2 ≤ k ∧ k ≤ 1000 ∧ xs.length ≤ 1000 ∧ NewT Q H (List.replicate k.toNat xs).flatten
/-- known tuples have a type of their own where a method is called -/
theorem tyN_is {a : Addr} {xs : List V} (I : Inv X pins σ H s) (h : TupN X.K H a xs) : s.TypeIs (.ref a) "tuple" ∧ ∀ b, Value.ref a = .ref b → ∃ ob, s.heap.get? b = some ob ∧ ob.dict = none := by
  rcases h with ⟨o, h, q1, q2⟩ | ⟨o, its, n, h1, h2, h3, _⟩
  · obtain ⟨e, _⟩ := I.hok a _ h
    exact ⟨⟨o, e, q1⟩, fun b eb => by cases eb; exact ⟨o, e, q2⟩⟩
  · have e := I.kIn a o h1
    exact ⟨⟨o, e, h2⟩, fun b eb => by cases eb; exact ⟨o, e, h3⟩⟩
def tBMN (K : PySem.W.Frag) (r : V → List V → Hp → VK → Prop) (to : TE) (t : TA) : TE := fun σ H Q => to σ H fun x H1 => (∃ a xs, x = .ref a ∧ TupN K H1 a xs) ∧ t σ H1 fun vs H2 => r x vs H2 Q
theorem pe_bmN {o : Expr} {to : TE} {e : Expr} {es : List Expr} {t : TA} {name : Str} {id : String} {r : V → List V → Hp → VK → Prop} {apos cpos : Pos} (slot : Slot "tuple" name id) (hty : typeOf (.builtin id) = pure (.type "method_descriptor")) (hm : MtR X id r) (ho : PE X o to) (ha : PA X (e :: es) t)
    (hbase : attributeBase o name X.env (eval o X.env) = eval o X.env := by rfl)
    (hfew : ((backTo cpos (starEach (e :: es) X.env)).all (fun x => !x.1) && (backToKw cpos (keywordEach [] X.env)).all (fun x => x.1.isSome)
      && decide ((e :: es).length + ([] : List Keyword).length + (if ([] : List Keyword).isEmpty then 0 else 1) < 30)) = true := by rfl)
    (hline : (apos.endLine == cpos.line) = true := by rfl) (hs : starEach (e :: es) X.env = (false, eval e X.env) :: starEach es X.env := by rfl) (hplain : (backTo cpos (starEach es X.env)).any (·.1) = false := by rfl) :
    PE X (.Call (.Attribute o name apos) (e :: es) [] cpos) (tBMN X.K r to t) := by
  refine ⟨fun pins s σ H Q I h => ?_⟩
  refine wpAny_Call_method_late hbase hfew hline rfl (thn (ho.run pins s σ H _ I h) fun v s1 ⟨x, H1, I1, r1, ty, q1⟩ => ?_)
  obtain ⟨a, xs, rfl, ty⟩ := ty
  obtain rfl : v = .ref a := r1
  obtain ⟨h1, h2⟩ := tyN_is I1 ty
  refine ⟨"tuple", id, PySem.F.plainAttrs_tuple, slot, hty, h1, h2, ?_⟩
  have hA := ha.run cpos pins s1 σ H1 _ I1 q1
  rw [hs] at hA ⊢
  refine Calls.callWith_builtin (by show (false || (backTo cpos (starEach es X.env)).any (·.1)) = false; rw [hplain] <;> rfl) (Calls.evalArgs_plain ?_)
  exact thn hA fun us s2 ⟨vs, H2, I2, r2, q2⟩ => hm pins s2 σ H2 (.ref a) vs (.ref a) us Q I2 (show RelV (.ref a) (.ref a) from rfl) r2 q2
/-- the first place of an equal one -/
def rIndexN (K : PySem.W.Frag) : V → List V → Hp → VK → Prop := fun x xs H Q => ∃ (a : Addr) (y : V) (d : PyData) (ds : List PyData) (j : Nat) (z : PyData), x = V.ref a ∧ xs = [y] ∧ Dp K H (V.ref a) (.tuple ds) ∧ Dp K H y d ∧
  SeqAt.shaped (.tuple ds) = true ∧ SeqAt.shaped d = true ∧ ds[j]? = some z ∧ PyData.eqv z d = true ∧ (∀ (m : Nat) (z' : PyData), m < j → ds[m]? = some z' → PyData.eqv z' d = false) ∧ Q (.int (j : Nat)) H
theorem mt_indexN (hu : X.A.units + 65 < cLine) : MtR X "tuple.index" (rIndexN X.K) := by
  intro pins s σ H x xs v us Q I rx rxs h
  obtain ⟨a, y, d, ds, j, z, rfl, rfl, hl, hy, sl, sd, hz, hzj, hno, q⟩ := h
  cases rx
  cases rxs with
  | cons ry rt =>
    rename_i uy ut
    cases rt
    obtain ⟨bs, r1⟩ := Dp.reads I d y uy hy ry
    have hxs : PyData.canLayAll0 ds = true := SeqAt.canLay_of_shaped sl
    have hroom : X.A.units + 1 + min (PyData.depthAll ds) d.depth < cLine := room_in_shaped sd hu
    cases hl with
    | tup hs ha =>
      obtain ⟨its, rv, ⟨⟨cls, dd, data, sls⟩, ho, hc, n, hdt⟩, hlen⟩ := I.tuple hs
      simp only at hc hdt
      subst hc hdt
      obtain ⟨as, h4⟩ := Dp.readsAll I ds _ its ha rv
      have hn : its.length = ds.length := SeqAt.ReadsAll.length ds its as h4
      have hmap : its.map (SeqAt.readOf s.heap) = ds := SeqAt.readsAll_map ds its as hxs h4
      obtain ⟨hjd, _⟩ := List.getElem?_eq_some_iff.mp hz
      have hjl : j < its.length := by omega
      have hj : j < its.toArray.size := by simpa using hjl
      have at_ : ∀ (m : Nat) (hm : m < its.toArray.size) (z' : PyData), ds[m]? = some z' → SeqAt.readOf s.heap its.toArray[m] = z' := by
        intro m hm z' hz'
        have hml : m < its.length := by simpa using hm
        rw [← hmap, List.getElem?_map, List.getElem?_eq_getElem hml] at hz'
        have e1 : SeqAt.readOf s.heap its[m] = z' := Option.some.inj (show some (SeqAt.readOf s.heap its[m]) = some z' from hz')
        simpa using e1
      refine call_meets PySem.F.slot_tuple_index ⟨_, ho, rfl⟩ PySem.F.entry_tuple_index (PySem.F.args_tuple_index_2 _ _)
        (TI.tuple_indexAt a its.toArray n dd sls uy (fun u => PyData.eqv (SeqAt.readOf s.heap u) d) j hj ?_ ?_) ⟨ho, SeqAt.items_eqAt (vs := its.toArray) (show ReadsAll s.heap its.toArray.toList ds as from h4) r1 hxs (SeqAt.canLay_of_shaped sd) hroom, ?_⟩
      · show PyData.eqv (SeqAt.readOf s.heap its.toArray[j]) d = true
        rw [at_ j hj z hz]
        exact hzj
      · intro m hm hmj
        have hmd : m < ds.length := by omega
        have hz' : ds[m]? = some ds[m] := List.getElem?_eq_getElem hmd
        show PyData.eqv (SeqAt.readOf s.heap its.toArray[m]) d = false
        rw [at_ m hm _ hz']
        exact hno m _ hmj hz'
      · exact ⟨.int (j : Nat), H, I.tok _, ⟨_, rfl⟩, q⟩
end
end Mn

namespace L2
open PySem PySem.Spec PyProof.Rows
theorem tuple_mulS (l : Addr) (items : Array Value) (n : Nat) (sl : Array (Option Value)) (dd : Option Addr) (x : Int) (u : Tok) (c0 : (decide (x < -(2 ^ 63)) || decide (x ≥ 2 ^ 63)) = false) (c1 : (items.isEmpty || x == 1) = true) :
    Meets (Builtin.«tuple.__mul__» ⟨[.ref l, .int x u], []⟩) (fun _ R s => s.heap.get? l = some { cls := .type "tuple", dict := dd, data := .seq items n, slots := sl } ∧ R (.ok (.ret (Value.ref l))) s) :=
  .of_wp fun prog w A R s h => by
    obtain ⟨hp, g, d, tk, os⟩ := s
    obtain ⟨hl, h⟩ := h
    have f1 := AutoSeq1.idx_int
    wp_walk using wpAny_loadPart' hl
    repeat (first
      | (refine wpAny_ite_false (decide_eq_false (by rw [c0]; exact Bool.false_ne_true)) ?_; wp_walk using wpAny_loadPart' hl)
      | (refine wpAny_ite_true (decide_eq_true c1) ?_; wp_walk using wpAny_loadPart' hl))
    exact ⟨_, rfl, h⟩
theorem tuple_mul0 (l : Addr) (items : Array Value) (n : Nat) (dd : Option Addr) (sl : Array (Option Value)) (x : Int) (u : Tok) (c0 : (decide (x < -(2 ^ 63)) || decide (x ≥ 2 ^ 63)) = false) (c1 : (items.isEmpty || x == 1) = false) (c2 : (decide (x ≤ 0) || items.isEmpty) = true) :
    Meets (Builtin.«tuple.__mul__» ⟨[.ref l, .int x u], []⟩) (fun _ R s => s.heap.get? l = some { cls := .type "tuple", dict := dd, data := .seq items n, slots := sl } ∧
      R (.ok (.ret (Value.ref s.heap.objs.size))) { s with heap := s.heap.push { cls := Value.type "tuple", data := Data.seq #[] }, toks := s.toks }) :=
  .of_wp fun prog w A R s h => by
    obtain ⟨hp, g, d, tk, os⟩ := s
    obtain ⟨hl, h⟩ := h
    have f1 := AutoSeq1.idx_int
    wp_walk using wpAny_loadPart' hl
    repeat (first
      | (refine wpAny_ite_false (decide_eq_false (by rw [c0]; exact Bool.false_ne_true)) ?_; wp_walk using wpAny_loadPart' hl)
      | (refine wpAny_ite_false (decide_eq_false (by rw [c1]; exact Bool.false_ne_true)) ?_; wp_walk using wpAny_loadPart' hl)
      | (refine wpAny_ite_true (decide_eq_true c2) ?_; wp_walk using wpAny_loadPart' hl))
    exact ⟨_, rfl, h⟩
end L2

namespace Mn
open PySem PySem.Spec PyProof.Rows L2
/-- t * k, any k -/
def rRepA (K : PySem.W.Frag) : R2 := fun x y H Q => ∃ l k xs, x = .ref l ∧ y = .int k ∧ SqT K H l xs ∧ -1000 ≤ k ∧ k ≤ 1000 ∧ xs.length ≤ 1000 ∧ (xs = [] ∨ k = 1 → Q (.ref l) H) ∧ (¬ (xs = [] ∨ k = 1) → NewT Q H (List.replicate k.toNat xs).flatten)
section
variable {X : Cx}
theorem op_repA : OpR X (binaryOp .Mult) (rRepA X.K) := by
  intro pins s σ H x y v u Q I rx ry h
  obtain ⟨l, k, xs, rfl, rfl, hT, h1, h2, hz, q1, q2⟩ := h
  cases rx
  obtain ⟨t, rfl⟩ := ry
  obtain ⟨its, r, ⟨⟨cls, dd, data, sl⟩, ho, hc, n, hd⟩, hs⟩ := I.tuple hT
  simp only at hc hd
  subst hc hd
  have hle : its.length = xs.length := r.length.symm
  have hsz0 : its.toArray.size = xs.length := by rw [List.size_toArray, hle]
  have c0 : (decide (k < -(2 ^ 63)) || decide (k ≥ 2 ^ 63)) = false := by
    rw [decide_eq_false (by omega), decide_eq_false (by omega)] <;> rfl
  have go : ∀ {Q' : Value → Shared → Prop}, wpAny (model X.prog X.w) X.A (call (.builtin "tuple.__mul__") [.ref l, .int k t]) Q' X.xe s → wpAny (model X.prog X.w) X.A (binaryOp .Mult (.ref l) (.int k t)) Q' X.xe s := fun h =>
    wpAny_binaryOp_repeat_ref (T := "tuple") (U := "int") (by decide) ⟨_, ho, rfl⟩ (fun s' => typeIs_int s' k t) noFill_tuple_mul F.fills_int_mul F.slot_int_rmul repeat_tuple F.slot_int_index.lookup
      (call_meets F.slot_int_rmul (typeIs_int s k t) F.entry_int_rmul (F.args_int_rmul_2 _ _) (int_rmul_tuple k t l its.toArray n dd sl) ⟨ho, rfl, ⟨_, ho, rfl⟩, h⟩)
  by_cases hs1 : xs = [] ∨ k = 1
  · have c1 : (its.toArray.isEmpty || k == 1) = true := by
      rcases hs1 with rfl | rfl
      · cases r; rfl
      · simp
    exact go (call_meets F.slot_tuple_mul ⟨_, ho, rfl⟩ F.entry_tuple_mul (F.args_tuple_mul_2 _ _) (tuple_mulS l its.toArray n sl dd k t c0 c1) ⟨ho, .ref l, H, I, rfl, q1 hs1⟩)
  · have hn : its ≠ [] := fun e => hs1 (.inl (by
      rw [e] at hle
      exact List.eq_nil_of_length_eq_zero hle.symm))
    have hi : its.toArray.isEmpty = false := by
      cases its with
      | nil => exact absurd rfl hn
      | cons a b => rfl
    have k1 : k ≠ 1 := fun e => hs1 (.inr e)
    have c1 : (its.toArray.isEmpty || k == 1) = false := by
      rw [hi, Bool.false_or]
      exact beq_eq_false_iff_ne.mpr k1
    have q := q2 hs1
    by_cases h0 : k ≤ 0
    · have c2 : (decide (k ≤ 0) || its.toArray.isEmpty) = true := by rw [decide_eq_true h0]; rfl
      have e0 : k.toNat = 0 := by omega
      rw [e0] at q
      refine go (call_meets F.slot_tuple_mul ⟨_, ho, rfl⟩ F.entry_tuple_mul (F.args_tuple_mul_2 _ _) (tuple_mul0 l its.toArray n dd sl k t c0 c1 c2) ⟨ho, ?_⟩)
      exact laidQ (s := s) (h0 := s.heap) (tk := s.toks) (its := []) I (by rw [sizeLine_eq]; decide) .nil q
    · have c2 : (decide (k ≤ 0) || its.toArray.isEmpty) = false := by
        rw [hi, Bool.or_false]
        exact decide_eq_false h0
      have hm : ((its.toArray.size : Nat) : Int) * k ≤ 1000000 := by
        rw [hsz0]
        have a1 : ((xs.length : Nat) : Int) * k ≤ 1000 * k := Int.mul_le_mul_of_nonneg_right (by omega) (by omega)
        omega
      have flen : (List.replicate k.toNat its).flatten.length ≤ sizeLine := by
        rw [PyProof.Rows.lm_len_rep_flat, hle, sizeLine_eq]
        have a1 : k.toNat * xs.length ≤ 1000 * 1000 := Nat.mul_le_mul (by omega) hz
        omega
      have c4 : Builtin.Tuple.tupleTooMany (((its.toArray.size : Nat) : Int) * k) = false := by
        unfold Builtin.Tuple.tupleTooMany
        rw [sizeLine_eq]
        exact decide_eq_false (by omega)
      refine go (call_meets F.slot_tuple_mul ⟨_, ho, rfl⟩ F.entry_tuple_mul (F.args_tuple_mul_2 _ _) (tuple_mulW l its.toArray n dd sl k t c0 c1 c2 (by omega) c4 (by rw [size_rep, List.size_toArray]; exact flen)) ⟨ho, ?_⟩)
      rw [size_rep]
      exact laidQ (s := s) (h0 := s.heap) (tk := s.toks) I (by rw [PyProof.Rows.lm_len_rep_flat, sizeLine_eq]; have a1 : k.toNat * xs.length ≤ 1000 * 1000 := Nat.mul_le_mul (by omega) hz; omega) (r.rep k.toNat) q

theorem list_extend_tupG (l : Addr) (items : Array Value) (n : Nat) (b : Addr) (items2 : Array Value) (n2 : Nat) (dd : Option Addr) (sl : Array (Option Value)) (hs0 : ¬(!items.isEmpty && Builtin.List.listTooLong (items.size + items2.size)) = true) (hs1 : items.size ≤ sizeLine) (hs2 : items.size + items2.size ≤ sizeLine + 1) :
    Meets (Builtin.«list.extend» ⟨[.ref l, .ref b], []⟩) (fun _ R s => s.heap.get? l = some { cls := .type "list", dict := none, data := .seq items n, slots := #[] } ∧ s.heap.get? b = some { cls := .type "tuple", dict := dd, data := .seq items2 n2, slots := sl } ∧ R (.ok (.ret Value.none)) { s with heap := s.heap.update l (Obj.mapSeq fun x => x ++ items2), toks := s.toks }) :=
  .of_wp fun prog w A R s h => by
    obtain ⟨hp, g, d, tk, os⟩ := s; obtain ⟨hl, hb, h⟩ := h; have f1 := AutoSeq1.idx_int; have f2 := AutoSeq1.sub_tuple_tuple; have f3 := AutoSeq1.sub_list_list; have f4 := AutoSeq1.sub_tuple_list; have f5 := AutoSeq1.sub_list_tuple;
    have hz' : (items ++ items2).size ≤ sizeLine + 1 := by rw [Array.size_append]; exact hs2
    wp_walk using (wpAny_updateSeq hl rfl (hz := hs1) (_hz' := hz')), AutoSeq1.wpAny_loadPart' hl, AutoSeq1.wpAny_loadPart' hb; exact ⟨_, rfl, h⟩
def rExtendT (K : PySem.W.Frag) : V → List V → Hp → VK → Prop := fun x vs H Q => ∃ l b xs zs, x = .ref l ∧ vs = [.ref b] ∧ H l = some (.lst xs) ∧ SqT K H b zs ∧ xs.length + zs.length ≤ sizeLine ∧ Q .non (upd H l (.lst (xs ++ zs)))
theorem mt_extendT : MtM X "list.extend" (rExtendT X.K) := by
  intro pins s σ H x vs v us Q I rx rv h
  obtain ⟨l, b, xs, zs, rfl, rfl, hH, hB, hz, q⟩ := h
  cases rx
  obtain ⟨u, rfl, ru⟩ := rv.one
  cases ru
  obtain ⟨z, its, n, r, hl, e⟩ := I.lstM hH
  obtain ⟨its2, r2, ⟨⟨cls, dd, data, sl⟩, e2, hc, n2, hd⟩, hl2⟩ := I.tuple hB
  simp only at hc hd
  subst hc hd
  have l2 := r2.length
  have hsz : its.toArray.size + its2.toArray.size ≤ sizeLine := by rw [List.size_toArray, List.size_toArray]; omega
  have hlong : ¬ (!its.toArray.isEmpty && Builtin.List.listTooLong (its.toArray.size + its2.toArray.size)) = true := by
    rw [notLongL hsz, Bool.and_false]
    exact Bool.false_ne_true
  refine call_meets F.slot_list_extend ⟨_, e, rfl⟩ F.entry_list_extend (F.args_list_extend_2 _ _)
    (list_extend_tupG l its.toArray n b its2.toArray n2 dd sl hlong (by rw [List.size_toArray]; omega) (by omega)) ⟨e, e2, ?_⟩
  refine ⟨.non, _, I.lset (its' := its ++ its2) hH e (by simp) (r.append r2) ?_, rfl, q⟩
  rw [List.length_append]
  omega
end
end Mn

namespace Mn
open PySem PySem.Spec PyProof.Rows L2

def keyD : Key → PyData
  | .inl i => .int i
  | .inr s => .str s
def keysD (ks : List Key) : PyData := .tuple (ks.map keyD)

/-- an exception that was caught, of the class cls, its dict d -/
def ExC (cls : Value) (d : Option Addr) (a : Addr) : HO := .ext fun h => ∃ (ox : Obj) (vs : Array Value), h.get? a = some ox ∧ Zc cls d ox ∧ ox.data = .fields vs
/-- exceptions as data -/
abbrev xd0 (nm : Str) : PyData := .dict [(.bool true, .str nm)]
abbrev xd1 (nm f : Str) (e : PyData) : PyData := .dict [(.bool true, .tuple [.str nm, .str f, e])]
/-- the class that a name stands for -/
def ClsAt (K : PySem.W.Frag) (nm : Str) (C : Addr) : Prop := PySem.W.nsIn K mainGlobals nm = some (some (.ref C))
mutual
/-- v stands for the data d, all of it within F -/
inductive Rp (K : PySem.W.Frag) (F : Hp) : V → PyData → Prop
  | non : Rp K F .non .none
  | bl (b : Bool) : Rp K F (.bl b) (.bool b)
  | int (i : Int) : Rp K F (.int i) (.int i)
  | str (x : Str) : Rp K F (.str x) (.str x)
  | lst {a : Addr} {xs : List V} {ds : List PyData} : F a = some (.lst xs) → RpAll K F xs ds → Rp K F (.ref a) (.list ds)
  | scr {a : Addr} {ns : List Int} : SqL K F a (ns.map V.int) → Rp K F (.ref a) (.dict [(.none, .list (ns.map PyData.int))])
  | tup {a : Addr} {xs : List V} {ds : List PyData} : TupN K F a xs → RpAll K F xs ds → Rp K F (.ref a) (.tuple ds)
  | dK {a : Addr} {kvs : List (Key × V)} {ds : List PyData} : F a = some (.dK kvs) → RpAll K F (kvs.map Prod.snd) ds → Rp K F (.ref a) (.dict ((kvs.map fun p => keyD p.1).zip ds))
  | dT {a : Addr} {kvs : List (List Key × V)} {ds : List PyData} : F a = some (.dT kvs) → RpAll K F (kvs.map Prod.snd) ds → Rp K F (.ref a) (.dict ((kvs.map fun p => keysD p.1).zip ds))
  | xc0 {a C : Addr} {nm : Str} : F a = some (ExC (.ref C) none a) → ClsAt K nm C → Rp K F (.ref a) (.dict [(.bool true, .str nm)])
  | xc1 {a C dx : Addr} {nm f : Str} {v : V} {e : PyData} : F a = some (ExC (.ref C) (some dx) a) → ClsAt K nm C → F dx = some (.xd [(f, v)]) → Rp K F v e → Rp K F (.ref a) (.dict [(.bool true, .tuple [.str nm, .str f, e])])
inductive RpAll (K : PySem.W.Frag) (F : Hp) : List V → List PyData → Prop
  | nil : RpAll K F [] []
  | cons {v : V} {vs : List V} {d : PyData} {ds : List PyData} : Rp K F v d → RpAll K F vs ds → RpAll K F (v :: vs) (d :: ds)
end

section
variable {K : PySem.W.Frag} {F F' H H' : Hp}
theorem Same.sqT (e : Same H H') {a : Addr} {xs : List V} (h : SqT K H a xs) : SqT K H' a xs := by
  rcases h with (h | ⟨o, h⟩) | h
  · exact .inl (.inl (e _ _ h))
  · exact .inl (.inr ⟨o, e _ _ h⟩)
  · exact .inr h
mutual
theorem Rp.mono (e : Same F F') : ∀ {v : V} {d : PyData}, Rp K F v d → Rp K F' v d
  | _, _, .non => .non
  | _, _, .bl b => .bl b
  | _, _, .int i => .int i
  | _, _, .str x => .str x
  | _, _, .lst h r => .lst (e _ _ h) (RpAll.mono e r)
  | _, _, .scr h => .scr (e.seq h)
  | _, _, .tup h r => .tup (Same.tupN e h) (RpAll.mono e r)
  | _, _, .dK h r => .dK (e _ _ h) (RpAll.mono e r)
  | _, _, .dT h r => .dT (e _ _ h) (RpAll.mono e r)
  | _, _, .xc0 h q => .xc0 (e _ _ h) q
  | _, _, .xc1 h q g r => .xc1 (e _ _ h) q (e _ _ g) (Rp.mono e r)
theorem RpAll.mono (e : Same F F') : ∀ {vs : List V} {ds : List PyData}, RpAll K F vs ds → RpAll K F' vs ds
  | _, _, .nil => .nil
  | _, _, .cons r t => .cons (Rp.mono e r) (RpAll.mono e t)
end
theorem RpAll.length : ∀ {vs : List V} {ds : List PyData}, RpAll K F vs ds → vs.length = ds.length
  | _, _, .nil => rfl
  | _, _, .cons _ t => congrArg (· + 1) (RpAll.length t)
theorem RpAll.append : ∀ {vs ws : List V} {ds es : List PyData}, RpAll K F vs ds → RpAll K F ws es → RpAll K F (vs ++ ws) (ds ++ es)
  | _, _, _, _, .nil, h => h
  | _, _, _, _, .cons r t, h => .cons r (RpAll.append t h)
theorem RpAll.get : ∀ {vs : List V} {ds : List PyData} {i : Nat} {v : V}, RpAll K F vs ds → vs[i]? = some v → ∃ d, ds[i]? = some d ∧ Rp K F v d
  | _, _, i, v, .nil, h => by simp at h
  | _, _, 0, v, .cons r _, h => by simp at h; subst h; exact ⟨_, rfl, r⟩
  | _, _, i + 1, v, .cons _ t, h => by
    obtain ⟨d, h1, h2⟩ := RpAll.get (i := i) t (by simpa using h)
    exact ⟨d, by simpa using h1, h2⟩
theorem RpAll.getD : ∀ {vs : List V} {ds : List PyData} {i : Nat} {d : PyData}, RpAll K F vs ds → ds[i]? = some d → ∃ v, vs[i]? = some v ∧ Rp K F v d
  | _, _, i, v, .nil, h => by simp at h
  | _, _, 0, v, .cons r _, h => by simp at h; subst h; exact ⟨_, rfl, r⟩
  | _, _, i + 1, v, .cons _ t, h => by
    obtain ⟨d, h1, h2⟩ := RpAll.getD (i := i) t (by simpa using h)
    exact ⟨d, by simpa using h1, h2⟩
theorem RpAll.take : ∀ {vs : List V} {ds : List PyData} (n : Nat), RpAll K F vs ds → RpAll K F (vs.take n) (ds.take n)
  | _, _, 0, _ => by simpa using .nil
  | _, _, n + 1, .nil => by simpa using .nil
  | _, _, n + 1, .cons r t => by simpa using .cons r (RpAll.take n t)
theorem RpAll.drop : ∀ {vs : List V} {ds : List PyData} (n : Nat), RpAll K F vs ds → RpAll K F (vs.drop n) (ds.drop n)
  | _, _, 0, h => by simpa using h
  | _, _, n + 1, .nil => by simpa using .nil
  | _, _, n + 1, .cons r t => by simpa using RpAll.drop n t
theorem RpAll.set : ∀ {vs : List V} {ds : List PyData} {v : V} {d : PyData} (i : Nat), RpAll K F vs ds → Rp K F v d → RpAll K F (vs.set i v) (ds.set i d)
  | _, _, _, _, i, .nil, _ => by simpa using .nil
  | _, _, _, _, 0, .cons r t, h => .cons h t
  | _, _, _, _, i + 1, .cons r t, h => .cons r (RpAll.set i t h)
theorem RpAll.eraseIdx : ∀ {vs : List V} {ds : List PyData} (i : Nat), RpAll K F vs ds → RpAll K F (vs.eraseIdx i) (ds.eraseIdx i)
  | _, _, i, .nil => by simpa using .nil
  | _, _, 0, .cons r t => t
  | _, _, i + 1, .cons r t => .cons r (RpAll.eraseIdx i t)
theorem RpAll.reverse {vs : List V} {ds : List PyData} (h : RpAll K F vs ds) : RpAll K F vs.reverse ds.reverse := by
  match h with
  | .nil => exact .nil
  | .cons r t =>
    rw [List.reverse_cons, List.reverse_cons]
    exact (RpAll.reverse t).append (.cons r .nil)
termination_by vs.length
theorem RpAll.rep {vs : List V} {ds : List PyData} (h : RpAll K F vs ds) : ∀ k : Nat, RpAll K F (List.replicate k vs).flatten (List.replicate k ds).flatten
  | 0 => .nil
  | k + 1 => by
    rw [List.replicate_succ, List.replicate_succ, List.flatten_cons, List.flatten_cons]
    exact h.append (RpAll.rep h k)
/-- a list of ints -/
theorem RpAll.ints : ∀ {vs : List V} {ns : List Int}, RpAll K F vs (ns.map PyData.int) → vs = ns.map V.int
  | _, [], .nil => rfl
  | _, _ :: _, .cons (.int _) t => congrArg _ (RpAll.ints t)
theorem RpAll.bools : ∀ {vs : List V} {ns : List Bool}, RpAll K F vs (ns.map PyData.bool) → vs = ns.map V.bl
  | _, [], .nil => rfl
  | _, _ :: _, .cons (.bl _) t => congrArg _ (RpAll.bools t)
theorem RpAll.strs : ∀ {vs : List V} {ns : List Str}, RpAll K F vs (ns.map PyData.str) → vs = ns.map V.str
  | _, [], .nil => rfl
  | _, _ :: _, .cons (.str _) t => congrArg _ (RpAll.strs t)
theorem RpAll.ofInts : ∀ ns : List Int, RpAll K F (ns.map V.int) (ns.map PyData.int)
  | [] => .nil
  | n :: r => .cons (.int n) (RpAll.ofInts r)
theorem RpAll.ofStrs : ∀ ns : List Str, RpAll K F (ns.map V.str) (ns.map PyData.str)
  | [] => .nil
  | n :: r => .cons (.str n) (RpAll.ofStrs r)
mutual
theorem Rp.dp : ∀ {v : V} {d : PyData}, Rp K F v d → d.canLay0 = true → Dp K F v d
  | _, _, .non, _ => .non
  | _, _, .bl b, _ => .bl b
  | _, _, .int i, _ => .int i
  | _, _, .str x, _ => .str x
  | _, _, .lst h r, e => .lst (SqL.of h) (RpAll.dp r (by simpa [PyData.canLay0] using e))
  | _, _, .scr h, e => by simp [PyData.canLay0] at e
  | _, _, .tup h r, e => .tup h.sqT (RpAll.dp r (by simpa [PyData.canLay0] using e))
  | _, _, .dK h r, e => by simp [PyData.canLay0] at e
  | _, _, .dT h r, e => by simp [PyData.canLay0] at e
  | _, _, .xc0 h q, e => by simp [PyData.canLay0] at e
  | _, _, .xc1 h q g r, e => by simp [PyData.canLay0] at e
theorem RpAll.dp : ∀ {vs : List V} {ds : List PyData}, RpAll K F vs ds → PyData.canLayAll0 ds = true → DpAll K F vs ds
  | _, _, .nil, _ => .nil
  | _, _, .cons r t, e => by
    simp only [PyData.canLayAll0, Bool.and_eq_true] at e
    exact .cons (Rp.dp r e.1) (RpAll.dp t e.2)
end
end

structure Ext (F H F' H' : Hp) : Prop where
  fr : Same F F'
  sub : Same F' H'
  same : Same H H'
  new : ∀ b o, F' b = some o → F b = some o ∨ H b = none
section
variable {K : PySem.W.Frag} {F H F' H' F2 H2 : Hp}
theorem Ext.refl (h : Same F H) : Ext F H F H := ⟨Same.refl _, h, Same.refl _, fun _ _ e => .inl e⟩
theorem Ext.trans (a : Ext F H F' H') (b : Ext F' H' F2 H2) : Ext F H F2 H2 :=
  ⟨a.fr.trans b.fr, b.sub, a.same.trans b.same, fun c o e => by
    rcases b.new c o e with q | q
    · exact a.new c o q
    · exact .inr (a.same.free q)⟩
theorem Same.upd {H : Hp} {p : Addr} {o : HO} (h : H p = none) : Same H (L2.upd H p o) := fun b x e => by
  rw [upd_ne (ne_of_none e h)]
  exact e
/-- a new object, frozen at once -/
theorem Ext.lay (h : Same F H) {p : Addr} {o : HO} (n : H p = none) : Ext F H (upd F p o) (upd H p o) :=
  ⟨Same.upd (h.free n), fun b x e => by
    by_cases q : b = p
    · subst q; rw [upd_same] at e ⊢; exact e
    · rw [upd_ne q] at e ⊢; exact h _ _ e, Same.upd n, fun b x e => by
    by_cases q : b = p
    · subst q; exact .inr n
    · rw [upd_ne q] at e; exact .inl e⟩
/-- a new object that is not frozen -/
theorem Ext.lay0 (h : Same F H) {p : Addr} {o : HO} (n : H p = none) : Ext F H F (upd H p o) :=
  ⟨Same.refl _, h.trans (Same.upd n), Same.upd n, fun _ _ e => .inl e⟩
/-- what was new is frozen -/
theorem Ext.freeze {p : Addr} {o : HO} (x : Ext F H F' H') (n : H p = none) (f : F' p = none) (e : H' p = some o) : Ext F H (upd F' p o) H' :=
  ⟨x.fr.trans (Same.upd f), fun b u q => by
    by_cases z : b = p
    · subst z; rw [upd_same] at q; rw [e]; exact q
    · rw [upd_ne z] at q; exact x.sub _ _ q, x.same, fun b u q => by
    by_cases z : b = p
    · subst z; exact .inr n
    · rw [upd_ne z] at q; exact x.new _ _ q⟩
end

inductive RV where
  /-- data that nobody changes -/
  | fz (d : PyData)
  /-- a list, a dict, that this def may still change -/
  | ol (ds : List PyData)
  | od (kvs : List (PyData × PyData))
  /-- a list of lists, all of which this def may still change -/
  | on (dss : List (List PyData))
  /-- what a def ends with that raises -/
  | xr (d : PyData)
abbrev Ev := List (Option RV)
/-- as data -/
def RV.d : RV → PyData
  | .fz d => d
  | .ol ds => .list ds
  | .od kvs => .dict kvs
  | .on dss => .list (dss.map PyData.list)
  | .xr _ => .dict [(.none, .none)]
def RV.isX : RV → Bool
  | .xr _ => true
  | _ => false
/-- lists at addresses, beside F -/
inductive InAll (K : PySem.W.Frag) (F H : Hp) : List Addr → List (List PyData) → Prop
  | nil : InAll K F H [] []
  | cons {q : Addr} {qs : List Addr} {vs : List V} {ds : List PyData} {dss : List (List PyData)} : F q = none → H q = some (.lst vs) → RpAll K F vs ds → InAll K F H qs dss → InAll K F H (q :: qs) (ds :: dss)
/-- what an owned thing looks like -/
inductive Own (K : PySem.W.Frag) (F H : Hp) (p : Addr) : HO → RV → Prop
  | lst {vs : List V} {ds : List PyData} : RpAll K F vs ds → Own K F H p (.lst vs) (.ol ds)
  | dK {kvs : List (Key × V)} {ds : List PyData} : RpAll K F (kvs.map Prod.snd) ds → Own K F H p (.dK kvs) (.od ((kvs.map fun p => keyD p.1).zip ds))
  | dT {kvs : List (List Key × V)} {ds : List PyData} : RpAll K F (kvs.map Prod.snd) ds → Own K F H p (.dT kvs) (.od ((kvs.map fun p => keysD p.1).zip ds))
  | on {qs : List Addr} {dss : List (List PyData)} : InAll K F H qs dss → qs.Nodup → (∀ q ∈ qs, q ≠ p) → Own K F H p (.lst (qs.map V.ref)) (.on dss)
/-- v stands for r: frozen data within F, or an owned object at p, beside F -/
inductive View (K : PySem.W.Frag) (F H : Hp) : V → RV → Prop
  | fz {v : V} {d : PyData} : Rp K F v d → View K F H v (.fz d)
  | own {p : Addr} {o : HO} {r : RV} : F p = none → H p = some o → Own K F H p o r → View K F H (.ref p) r
/-- the places that an owned thing takes -/
def Foot (H : Hp) (r : RV) (v : V) (p : Addr) : Prop := match r with
  | .fz _ => False
  | .on _ => v = .ref p ∨ ∃ q vs, v = .ref q ∧ H q = some (.lst vs) ∧ V.ref p ∈ vs
  | _ => v = .ref p
/-- an owned value's places (in H') are new (none of H) -/
def New (r : RV) (v : V) (H H' : Hp) : Prop := ∀ p, Foot H' r v p → H p = none
open Classical in
/-- F with some places of H -/
noncomputable def coldF (F H : Hp) (P : Addr → Prop) : Hp := fun b => if P b then H b else F b
def RV.isOwn : RV → Bool
  | .fz _ => false
  | _ => true
section
variable {K : PySem.W.Frag} {F H F' H' F2 H2 : Hp} {v : V} {r : RV} {o : HO}
theorem Ext.away (x : Ext F H F' H') {p : Addr} {o : HO} (f : F p = none) (h : H p = some o) : F' p = none := by
  cases e : F' p with
  | none => rfl
  | some u =>
    rcases x.new _ _ e with z | z
    · rw [f] at z; cases z
    · rw [h] at z; cases z
theorem InAll.ext (x : Ext F H F' H') : ∀ {qs : List Addr} {dss : List (List PyData)}, InAll K F H qs dss → InAll K F' H' qs dss
  | _, _, .nil => .nil
  | _, _, .cons f h ra t => .cons (x.away f h) (x.same _ _ h) (ra.mono x.fr) (InAll.ext x t)
theorem InAll.rp (s : Same F H) : ∀ {qs : List Addr} {dss : List (List PyData)}, InAll K F H qs dss → RpAll K H (qs.map V.ref) (dss.map PyData.list)
  | _, _, .nil => .nil
  | _, _, .cons f h ra t => .cons (.lst h (ra.mono s)) (InAll.rp s t)
theorem InAll.mem : ∀ {qs : List Addr} {dss : List (List PyData)}, InAll K F H qs dss → ∀ q ∈ qs, F q = none ∧ ∃ vs, H q = some (.lst vs)
  | _, _, .nil, q, hq => absurd hq (by simp)
  | _, _, .cons f h ra t, q, hq => by
    rcases List.mem_cons.mp hq with rfl | hq
    · exact ⟨f, _, h⟩
    · exact InAll.mem t q hq
/-- other things change -/
theorem InAll.other {p : Addr} {o : HO} : ∀ {qs : List Addr} {dss : List (List PyData)}, InAll K F H qs dss → (∀ q ∈ qs, q ≠ p) → InAll K F (L2.upd H p o) qs dss
  | _, _, .nil, _ => .nil
  | _, _, .cons f h ra t, n => .cons f (by rw [upd_ne (n _ (by simp))]; exact h) ra (InAll.other t fun q hq => n q (by simp [hq]))
theorem Own.ext {p : Addr} (x : Ext F H F' H') (q : Own K F H p o r) : Own K F' H' p o r := by
  cases q with
  | lst a => exact .lst (a.mono x.fr)
  | dK a => exact .dK (a.mono x.fr)
  | dT a => exact .dT (a.mono x.fr)
  | on a nd np => exact .on (a.ext x) nd np
theorem Own.isOwn {p : Addr} (x : Own K F H p o r) : r.isOwn = true := by cases x <;> rfl
def RV.flat : RV → Bool
  | .on _ => false
  | _ => true
theorem Own.rp {p : Addr} (x : Own K F H p o r) (hf : r.flat = true) (e : Same F F') (h : F' p = some o) : Rp K F' (.ref p) r.d := by
  cases x with
  | lst a => exact .lst h (a.mono e)
  | dK a => exact .dK h (a.mono e)
  | dT a => exact .dT h (a.mono e)
  | on _ _ _ => cases hf
theorem Own.rpH {p : Addr} (x : Own K F H p o r) (s : Same F H) (h : H p = some o) : Rp K H (.ref p) r.d := by
  cases x with
  | lst a => exact .lst h (a.mono s)
  | dK a => exact .dK h (a.mono s)
  | dT a => exact .dT h (a.mono s)
  | on a nd _ => exact .lst h (a.rp s)
theorem View.ext (x : Ext F H F' H') (a : View K F H v r) : View K F' H' v r := by
  cases a with
  | fz q => exact .fz (q.mono x.fr)
  | own f h q => exact .own (x.away f h) (x.same _ _ h) (q.ext x)
/-- in the whole heap it is data -/
theorem View.rp (s : Same F H) (a : View K F H v r) : Rp K H v r.d := by
  cases a with
  | fz q => exact q.mono s
  | own f h q => exact q.rpH s h
/-- what F1 has beyond F are no tuples -/
def NoTu (F F1 : Hp) : Prop := ∀ b o, F1 b = some o → F b = some o ∨ ∀ ob xs, o ≠ .frz ob (.tup xs)
theorem NoTu.refl (F : Hp) : NoTu F F := fun _ _ e => .inl e
/-- an owned thing, lent as data -/
theorem View.lend {F1 : Hp} (s1 : Same F F1) (s2 : Same F1 H) (n : NoTu F F1) (a : View K F H v r) : ∃ F2, Same F1 F2 ∧ Same F2 H ∧ NoTu F F2 ∧ Rp K F2 v r.d := by
  classical
  let P : Addr → Prop := Foot H r v
  have at_ : ∀ b, P b → coldF F1 H P b = H b := fun b hb => if_pos hb
  have fr : Same F1 (coldF F1 H P) := fun b o e => by
    unfold coldF
    split
    · exact s2 _ _ e
    · exact e
  have sub : Same (coldF F1 H P) H := fun b o e => by
    unfold coldF at e
    split at e
    · exact e
    · exact s2 _ _ e
  have fr0 := s1.trans fr
  have nt : (∀ b o, P b → H b = some o → ∀ ob xs, o ≠ .frz ob (.tup xs)) → NoTu F (coldF F1 H P) := fun q b o e => by
    unfold coldF at e
    split at e
    · rename_i hb
      exact .inr (q b o hb e)
    · exact n b o e
  refine ⟨coldF F1 H P, fr, sub, ?_, ?_⟩
  · cases a with
    | fz q => exact nt fun b o hb => hb.elim
    | own f e q =>
      rename_i p o
      cases q with
      | lst a => exact nt fun b o hb h => by cases (show V.ref p = V.ref b from hb); rw [e] at h; cases h; intro _ _ z; cases z
      | dK a => exact nt fun b o hb h => by cases (show V.ref p = V.ref b from hb); rw [e] at h; cases h; intro _ _ z; cases z
      | dT a => exact nt fun b o hb h => by cases (show V.ref p = V.ref b from hb); rw [e] at h; cases h; intro _ _ z; cases z
      | on a nd np =>
        exact nt fun b o hb h => by
          rcases (show V.ref p = V.ref b ∨ _ from hb) with hb | ⟨q, vs, hq, h1, h2⟩
          · cases hb; rw [e] at h; cases h; intro _ _ z; cases z
          · cases hq
            rw [e] at h1
            cases h1
            obtain ⟨q2, hq2, y4⟩ := List.mem_map.mp h2
            cases y4
            obtain ⟨_, ws, h3⟩ := a.mem _ hq2
            rw [h3] at h
            cases h
            intro _ _ z
            cases z
  · cases a with
    | fz q => exact q.mono fr0
    | own f e q =>
      rename_i p o
      cases q with
      | lst a => exact .lst (by rw [at_ p rfl]; exact e) (a.mono fr0)
      | dK a => exact .dK (by rw [at_ p rfl]; exact e) (a.mono fr0)
      | dT a => exact .dT (by rw [at_ p rfl]; exact e) (a.mono fr0)
      | on a nd np =>
        have : ∀ {qs : List Addr} {dss : List (List PyData)}, InAll K F H qs dss → (∀ q ∈ qs, P q) → RpAll K (coldF F1 H P) (qs.map V.ref) (dss.map PyData.list) := fun {qs} => by
          induction qs with
          | nil => intro dss z _; cases z; exact .nil
          | cons q qs ih =>
            intro dss z n
            cases z with
            | cons f2 h2 ra t2 => exact .cons (.lst (by rw [at_ q (n q (by simp))]; exact h2) (ra.mono fr0)) (ih t2 fun q' h' => n q' (by simp [h']))
        exact .lst (by rw [at_ p (.inl rfl)]; exact e) (this a fun q hq => .inr ⟨p, _, rfl, e, List.mem_map.mpr ⟨q, hq, rfl⟩⟩)
mutual
/-- data of tuples and scalars alone -/
def flatD : PyData → Bool
  | .tuple ds => flatAll ds
  | .list _ => false
  | .dict _ => false
  | _ => true
def flatAll : List PyData → Bool
  | [] => true
  | d :: ds => flatD d && flatAll ds
end
mutual
/-- flat data lean on tuples alone -/
theorem Rp.flat (t : ∀ a xs, TupN K F a xs → TupN K F' a xs) : ∀ {v : V} {d : PyData}, Rp K F v d → flatD d = true → Rp K F' v d
  | _, _, .non, _ => .non
  | _, _, .bl b, _ => .bl b
  | _, _, .int i, _ => .int i
  | _, _, .str x, _ => .str x
  | _, _, .lst h r, e => by simp [flatD] at e
  | _, _, .scr h, e => by simp [flatD] at e
  | _, _, .tup h r, e => .tup (t _ _ h) (RpAll.flat t r (by simpa [flatD] using e))
  | _, _, .dK h r, e => by simp [flatD] at e
  | _, _, .dT h r, e => by simp [flatD] at e
  | _, _, .xc0 h q, e => by simp [flatD] at e
  | _, _, .xc1 h q g r, e => by simp [flatD] at e
theorem RpAll.flat (t : ∀ a xs, TupN K F a xs → TupN K F' a xs) : ∀ {vs : List V} {ds : List PyData}, RpAll K F vs ds → flatAll ds = true → RpAll K F' vs ds
  | _, _, .nil, _ => .nil
  | _, _, .cons r s, e => by
    simp only [flatAll, Bool.and_eq_true] at e
    exact .cons (Rp.flat t r e.1) (RpAll.flat t s e.2)
end
/-- what was lent is taken back: flat data stay -/
theorem flat_back {F1 : Hp} {d : PyData} (x : Ext F H F' H') (s1 : Same F' F1) (n : NoTu F' F1) (y : Ext F1 H' F2 H2) (r : Rp K F2 v d) (e : flatD d = true) : ∃ F3, Ext F H F3 H2 ∧ Rp K F3 v d := by
  classical
  let F3 : Hp := fun b => if F' b ≠ none ∨ H' b = none then F2 b else none
  have g : ∀ b, (F' b ≠ none ∨ H' b = none) → F3 b = F2 b := fun b h => if_pos h
  have k : ∀ b o, F3 b = some o → (F' b ≠ none ∨ H' b = none) ∧ F2 b = some o := fun b o h => by
    by_cases q : F' b ≠ none ∨ H' b = none
    · exact ⟨q, by rw [← g b q]; exact h⟩
    · have : F3 b = none := if_neg q
      rw [this] at h; cases h
  refine ⟨F3, ⟨fun b o h => ?_, fun b o h => y.sub _ _ (k b o h).2, x.same.trans y.same, fun b o h => ?_⟩, Rp.flat (fun a xs t => ?_) r e⟩
  · have h1 := x.fr _ _ h
    rw [g b (.inl (by rw [h1]; exact fun z => nomatch z))]
    exact y.fr _ _ (s1 _ _ h1)
  · obtain ⟨q, h2⟩ := k b o h
    rcases q with q | q
    · cases e1 : F' b with
      | none => exact absurd e1 q
      | some u =>
        have := y.fr _ _ (s1 _ _ e1)
        rw [h2] at this
        cases this
        exact x.new _ _ e1
    · exact .inr (x.same.free q)
  · rcases t with ⟨o, h, q⟩ | t
    · refine .inl ⟨o, ?_, q⟩
      rw [g a ?_]
      · exact h
      · rcases y.new _ _ h with z | z
        · rcases n _ _ z with z | z
          · exact .inl (by rw [z]; exact fun z => nomatch z)
          · exact absurd rfl (z o xs)
        · exact .inr z
    · exact .inr t
/-- a new one is frozen -/
theorem View.freeze (x : Ext F H F' H') (a : View K F' H' v r) (n : New r v H H') : ∃ F2, Ext F H F2 H' ∧ Rp K F2 v r.d := by
  classical
  let P : Addr → Prop := Foot H' r v
  have at_ : ∀ b, P b → coldF F' H' P b = H' b := fun b hb => if_pos hb
  have fr : Same F' (coldF F' H' P) := fun b o e => by
    unfold coldF
    split
    · exact x.sub _ _ e
    · exact e
  refine ⟨coldF F' H' P, ⟨x.fr.trans fr, fun b o e => ?_, x.same, fun b o e => ?_⟩, ?_⟩
  · unfold coldF at e
    split at e
    · exact e
    · exact x.sub _ _ e
  · unfold coldF at e
    split at e
    · rename_i hb
      exact .inr (n b hb)
    · exact x.new b o e
  · cases a with
    | fz q => exact q.mono fr
    | own f e q =>
      rename_i p o
      cases q with
      | lst a => exact .lst (by rw [at_ p rfl]; exact e) (a.mono fr)
      | dK a => exact .dK (by rw [at_ p rfl]; exact e) (a.mono fr)
      | dT a => exact .dT (by rw [at_ p rfl]; exact e) (a.mono fr)
      | on a nd np =>
        have : ∀ {qs : List Addr} {dss : List (List PyData)}, InAll K F' H' qs dss → (∀ q ∈ qs, P q) → RpAll K (coldF F' H' P) (qs.map V.ref) (dss.map PyData.list) := fun {qs} => by
          induction qs with
          | nil => intro dss z _; cases z; exact .nil
          | cons q qs ih =>
            intro dss z n
            cases z with
            | cons f2 h2 ra t2 => exact .cons (.lst (by rw [at_ q (n q (by simp))]; exact h2) (ra.mono fr)) (ih t2 fun q' h' => n q' (by simp [h']))
        exact .lst (by rw [at_ p (.inl rfl)]; exact e) (this a fun q hq => .inr ⟨p, _, rfl, e, List.mem_map.mpr ⟨q, hq, rfl⟩⟩)
end
end Mn

namespace Mn
open PySem PySem.Spec PyProof.Rows L2
def pickX {α : Type} (xs : List α) (lo st : Int) : List α := (sliceRange (sliceBounds (some lo) none (some st) xs.length).1 (sliceBounds (some lo) none (some st) xs.length).2.1 (sliceBounds (some lo) none (some st) xs.length).2.2).filterMap (fun k => xs[k]?)
theorem vals_pick {vs : List V} {us : List Value} (r : Vals vs us) : ∀ ks : List Nat, Vals (ks.filterMap fun k => vs[k]?) (ks.filterMap fun k => us[k]?)
  | [] => .nil
  | k :: ks => by
    have ih := vals_pick r ks
    cases h : vs[k]? with
    | none =>
      have h2 : us[k]? = none := by
        rw [List.getElem?_eq_none_iff] at h ⊢
        rw [← r.length]; exact h
      rw [List.filterMap_cons_none h, List.filterMap_cons_none h2]
      exact ih
    | some v =>
      obtain ⟨u, h2, ru⟩ := r.get h
      rw [List.filterMap_cons_some h, List.filterMap_cons_some h2]
      exact .cons ru ih
theorem rp_pick {K : PySem.W.Frag} {F : Hp} {vs : List V} {ds : List PyData} (r : RpAll K F vs ds) : ∀ ks : List Nat, RpAll K F (ks.filterMap fun k => vs[k]?) (ks.filterMap fun k => ds[k]?)
  | [] => .nil
  | k :: ks => by
    have ih := rp_pick r ks
    cases h : vs[k]? with
    | none =>
      have h2 : ds[k]? = none := by
        rw [List.getElem?_eq_none_iff] at h ⊢
        rw [← r.length]; exact h
      rw [List.filterMap_cons_none h, List.filterMap_cons_none h2]
      exact ih
    | some v =>
      obtain ⟨u, h2, ru⟩ := r.get h
      rw [List.filterMap_cons_some h, List.filterMap_cons_some h2]
      exact .cons ru ih
theorem pick_map {α β : Type} (f : α → β) (xs : List α) (lo st : Int) : pickX (xs.map f) lo st = (pickX xs lo st).map f := by
  unfold pickX
  rw [List.length_map]
  generalize sliceRange _ _ _ = ks
  induction ks with
  | nil => rfl
  | cons k ks ih =>
    cases h : xs[k]? with
    | none =>
      rw [List.filterMap_cons_none (by rw [List.getElem?_map, h]; rfl), List.filterMap_cons_none h]
      exact ih
    | some x =>
      rw [List.filterMap_cons_some (by rw [List.getElem?_map, h]; rfl), List.filterMap_cons_some h, List.map_cons, ih]
theorem pick_len {α : Type} (xs : List α) (lo st : Int) : (pickX xs lo st).length ≤ (sliceRange (sliceBounds (some lo) none (some st) xs.length).1 (sliceBounds (some lo) none (some st) xs.length).2.1 (sliceBounds (some lo) none (some st) xs.length).2.2).length := List.length_filterMap_le _ _
theorem rng_le (n : Nat) (lo st : Int) (hs : 0 < st) : (sliceRange (sliceBounds (some lo) none (some st) n).1 (sliceBounds (some lo) none (some st) n).2.1 (sliceBounds (some lo) none (some st) n).2.2).length ≤ n := by
  have hs' : st > 0 := hs
  have e2 : (sliceBounds (some lo) none (some st) n).2.2 = st := rfl
  have e1 : (sliceBounds (some lo) none (some st) n).2.1 = n := by unfold sliceBounds; simp [hs']
  have e0 : 0 ≤ (sliceBounds (some lo) none (some st) n).1 := by
    unfold sliceBounds
    simp only [Option.getD_some, hs', if_true]
    split <;> exact Int.le_max_left _ _
  refine sliceRange_length_le _ _ _ n (fun _ => ⟨e0, by rw [e1]; omega⟩) (fun h => absurd (by rw [e2]; exact hs') h)
def tSls (K : PySem.W.Frag) (lo st : Int) (te : TE) : TE := fun σ H Q => te σ H fun x H1 => ∃ a xs, x = .ref a ∧ SqL K H1 a xs ∧ ∀ p, H1 p = none → Q (.ref p) (upd H1 p (.lst (pickX xs lo st)))
theorem pe_sls {X : Cx} {te : TE} {e : Expr} {lo st : Int} {k1 k2 : Nat} {p1 p2 p3 pos : Pos} (hs : 0 < st) (he : PE X e te) : PE X (.Subscript e (.Slice (some (.Constant (.int lo) k1 p1)) none (some (.Constant (.int st) k2 p2)) p3) pos) (tSls X.K lo st te) := by
  refine ⟨fun pins s σ H Q I h => ?_⟩
  refine Subscript_ (thn (he.run pins s σ H _ I h) fun v s1 ⟨x, H1, I1, r1, q1⟩ => ?_)
  obtain ⟨a, xs, ex, hx, q⟩ := q1
  subst ex
  cases r1
  have hlo : PO X (some (.Constant (.int lo) k1 p1)) (tPart (tC (.int lo))) := po_some pe_int
  have hst : PO X (some (.Constant (.int st) k2 p2)) (tPart (tC (.int st))) := po_some pe_int
  refine wpAny_Slice (thn (hlo.run pins s1 σ H1 (fun o H2 => o = some lo ∧ H2 = H1) I1 ⟨lo, rfl, rfl, rfl⟩) fun vl s2 ⟨l, H2, I2, pl, el, e2⟩ => ?_)
  subst el e2
  refine thn (po_none.run pins s2 σ H2 (fun o H3 => o = none ∧ H3 = H2) I2 ⟨rfl, rfl⟩) fun vu s3 ⟨u, H3, I3, pu, eu, e3⟩ => ?_
  subst eu e3
  refine thn (hst.run pins s3 σ H3 (fun o H4 => o = some st ∧ H4 = H3) I3 ⟨st, rfl, rfl, rfl⟩) fun vs s4 ⟨o, H4, I4, ps, eo, e4⟩ => ?_
  subst eo e4
  have I5 : Inv X pins σ H4 { s4 with heap := s4.heap.push { cls := .type "slice", data := .fields #[vl, vu, vs] } } := I4.kept (t' := s4.toks) fun b ob q => Heap.get?_push_of_some _ q
  obtain ⟨its, r, ht, hz⟩ := I5.list hx
  have hlen := r.length
  show wpAny (model X.prog X.w) X.A (subscriptTail e (.Slice (some (.Constant (.int lo) k1 p1)) none (some (.Constant (.int st) k2 p2)) p3) (.ref a) (.ref s4.heap.objs.size)) (EP X pins σ Q) X.xe { s4 with heap := s4.heap.push { cls := .type "slice", data := .fields #[vl, vu, vs] } }
  refine tail_any (ops := [.ref a, .ref s4.heap.objs.size]) ht.isList.typeIs (PySem.slot_list_getitem.lookup) ?_ (by with_unfolding_all rfl)
  refine wpAny_getItem_list_slice ht.isList (Heap.IsSliceOf.new _ vl vu vs) pl pu ps (by intro z; cases z; exact absurd hs (by decide)) ?_ (by rw [List.size_toArray]; omega)
  have ep : slicePick its.toArray (some lo) none (some st) = (pickX its lo st).toArray := by
    unfold slicePick pickX
    simp
  rw [ep]
  refine ⟨.ref _, _, I5.laid (t' := s4.toks) (o := .lst (pickX xs lo st)) (fun b ob q => Heap.get?_push_of_some _ q) (Nat.le_refl _) ?_, rfl, q _ (I5.hok.fresh (Nat.le_refl _))⟩
  refine ⟨Nat.le_trans (pick_len xs lo st) (Nat.le_trans (rng_le _ _ _ hs) hz), _, 0, ?_, Heap.get?_push_size _ rfl⟩
  unfold pickX
  rw [hlen]
  exact vals_pick r _
end Mn

namespace Mn
open PySem PySem.Spec PyProof.Rows L2

inductive Bo where
  | add | sub | mul | fdiv | mod | pow
inductive Co where
  | eq | ne | lt | le | gt | ge | isN | noN | inn | nin
inductive Ty where
  | int | bool | str | list | tuple | dict
inductive Bi where
  | len | sum | min2 | max2 | minL | maxL | any | all | int | str | tup | list | sorted | isI (t : Ty)
inductive Mt where
  | join | split | index | count | get | partition
inductive Tg where
  | nm (i : Nat) | tp (is : List Nat)
mutual
inductive Ex where
  | var (i : Nat)
  | int (i : Int)
  | str (x : Str)
  | bl (b : Bool)
  | non
  | glb (g : Nat)
  | bin (o : Bo) (a b : Ex)
  | neg (a : Ex)
  | not (a : Ex)
  | one (a : Ex)
  | and (a b : Ex)
  | or (a b : Ex)
  | cmp (o : Co) (a b : Ex)
  | chn (o o' : Co) (a b c : Ex)
  | chn3 (o o' o2 : Co) (a b c d : Ex)
  | dsx (kvs : List (Str × Str)) (k : Ex)
  | dsv (k1 k2 : Str) (a b k : Ex)
  | isx (a : Ex) (D : Str)
  | fld (a : Ex) (f : Str)
  | mkx (C : Str) (e : Ex)
  | gdx (x : Str) (k : Ex)
  | lenD (i : Nat)
  | lenI (i : Nat) (k : Ex)
  | rvt (a : Ex)
  | rvl (a : Ex)
  | sls (a : Ex) (lo st : Int)
  | ite (c a b : Ex)
  | tup (es : Exs)
  | lst (es : Exs)
  | call (f : Nat) (es : Exs)
  | bi (b : Bi) (es : Exs)
  | mt (m : Mt) (a : Ex) (es : Exs)
  | idx (a i : Ex)
  | slc (a lo hi : Ex)
  | emp
  | comp (e : Ex) (tg : Tg) (it : Itr) (c : Ex) (own : List Nat)
inductive Exs where
  | nil
  | cons (e : Ex) (es : Exs)
inductive Itr where
  | ex (e : Ex)
  | r1 (a : Ex)
  | r2 (a b : Ex)
  | r3 (a b c : Ex)
  | zip (a b : Ex)
  | zip3 (a b c : Ex)
  | en (a : Ex)
  | rv (a : Ex)
  | exD (i : Nat) (k : Ex)
  | zipD (i : Nat) (k : Ex) (j : Nat) (l : Ex)
end
/-- what a walk over the rows of a list of lists may do to the row -/
inductive Rbs where
  | nil
  | st (k e : Ex) (r : Rbs)
  | ifs (t : Ex) (a r : Rbs)
mutual
inductive Sm where
  | asg (i : Nat) (e : Ex)
  | unp (is : List Nat) (e : Ex)
  | app (i : Nat) (e : Ex)
  | ext (i : Nat) (e : Ex)
  | pop (j i : Nat) (e : Ex)
  | sti (i : Nat) (k e : Ex)
  | clr (i : Nat)
  | ifs (c : Ex) (a b : Sms)
  | for_ (tg : Tg) (it : Itr) (b : Sms)
  | whl (c : Ex) (b : Sms)
  | tryN (b : Sms)
  | rse (C m : Str)
  | rs1 (C : Str) (e : Ex)
  | asgC (i f : Nat) (es : Exs)
  | retC (f : Nat) (es : Exs)
  | drpC (f : Nat) (es : Exs)
  | tryC (i f : Nat) (es : Exs) (D : Str) (j n : Nat)
  | tryE (f : Nat) (es : Exs) (D : Str) (j n : Nat)
  | asgD (i : Nat) (e : Ex) (tg : Tg) (it : Itr) (own : List Nat)
  | asgL (i : Nat) (e : Ex)
  | appD (i : Nat) (e : Ex)
  | appI (i : Nat) (k e : Ex)
  | popI (i : Nat) (k : Ex)
  | popD (i : Nat)
  | retX (e k : Ex)
  | stiD (i : Nat) (k e : Ex)
  | forR (j i : Nat) (b : Rbs)
  | ret (e : Ex)
  | retN
  | drp (e : Ex)
  | nop
  | nev
  | cont
  | brk
inductive Sms where
  | nil
  | cons (s : Sm) (r : Sms)
  | frz (i : Nat) (r : Sms)
  | del (i : Nat) (r : Sms)
end

def LIM : Nat := 1000000
def RV.seq : RV → Option (List PyData)
  | .fz (.list ds) => some ds
  | .fz (.tuple ds) => some ds
  | .fz (.dict [(.none, .list ds)]) => some ds
  | .ol ds => some ds
  | _ => none
/-- a list or a tuple -/
def RV.seqT : RV → Option (List PyData)
  | .fz (.list ds) => some ds
  | .fz (.tuple ds) => some ds
  | .ol ds => some ds
  | _ => none
def RV.lst : RV → Option (List PyData)
  | .fz (.list ds) => some ds
  | .ol ds => some ds
  | _ => none
theorem RV.seqT_eq {r : RV} {ds : List PyData} (h : r.seqT = some ds) : r = .fz (.tuple ds) ∨ r.lst = some ds := by
  unfold RV.seqT at h
  split at h <;> cases h
  · exact .inr rfl
  · exact .inl rfl
  · exact .inr rfl
def scalD : PyData → Bool
  | .none => true
  | .bool _ => true
  | .int _ => true
  | .str _ => true
  | _ => false
def addD : RV → RV → Option RV
  | .fz (.int i), .fz (.int j) => some (.fz (.int (i + j)))
  | .fz (.str x), .fz (.str y) => if x.length + y.length ≤ LIM then some (.fz (.str (x ++ y))) else none
  | .fz (.tuple xs), .fz (.tuple ys) => if xs.length + ys.length ≤ LIM then some (.fz (.tuple (xs ++ ys))) else none
  | .fz (.list xs), .fz (.list ys) => if xs.length + ys.length ≤ LIM then some (.ol (xs ++ ys)) else none
  | .fz (.list xs), .ol ys => if xs.length + ys.length ≤ LIM then some (.ol (xs ++ ys)) else none
  | .ol xs, .fz (.list ys) => if xs.length + ys.length ≤ LIM then some (.ol (xs ++ ys)) else none
  | .ol xs, .ol ys => if xs.length + ys.length ≤ LIM then some (.ol (xs ++ ys)) else none
  | _, _ => none
def smallI (i : Int) : Bool := decide (-18446744073709551616 < i) && decide (i < 18446744073709551616)
def mulD : RV → RV → Option RV
  | .fz (.int i), .fz (.int j) => if smallI i || smallI j then some (.fz (.int (i * j))) else none
  | .fz (.tuple xs), .fz (.int k) => if -1000 ≤ k ∧ k ≤ 1000 ∧ xs.length ≤ 1000 then some (.fz (.tuple (List.replicate k.toNat xs).flatten)) else none
  | .fz (.list xs), .fz (.int k) => if 0 ≤ k ∧ k ≤ 1000 ∧ xs.length * k.toNat ≤ LIM then some (.ol (List.replicate k.toNat xs).flatten) else none
  | .ol xs, .fz (.int k) => if 0 ≤ k ∧ k ≤ 1000 ∧ xs.length * k.toNat ≤ LIM then some (.ol (List.replicate k.toNat xs).flatten) else none
  | _, _ => none
def subD : RV → RV → Option RV
  | .fz (.int i), .fz (.int j) => some (.fz (.int (i - j)))
  | _, _ => none
def fdivD : RV → RV → Option RV
  | .fz (.int i), .fz (.int j) => if 0 < j ∧ j < 1073741824 then some (.fz (.int (i / j))) else none
  | _, _ => none
def modD : RV → RV → Option RV
  | .fz (.int i), .fz (.int j) => if 0 < j then some (.fz (.int (i % j))) else none
  | _, _ => none
def powD : RV → RV → Option RV
  | .fz (.int i), .fz (.int j) => if 0 ≤ j ∧ j ≤ 1000000 ∧ i.natAbs < 18446744073709551616 then some (.fz (.int (i ^ j.toNat))) else none
  | _, _ => none
def binD : Bo → RV → RV → Option RV
  | .add, a, b => addD a b
  | .mul, a, b => mulD a b
  | .sub, a, b => subD a b
  | .fdiv, a, b => fdivD a b
  | .mod, a, b => modD a b
  | .pow, a, b => powD a b
def intsOf : List PyData → Option (List Int)
  | [] => some []
  | .int i :: r => (intsOf r).map (i :: ·)
  | _ :: _ => none
def boolsOf : List PyData → Option (List Bool)
  | [] => some []
  | .bool i :: r => (boolsOf r).map (i :: ·)
  | _ :: _ => none
def strsOf : List PyData → Option (List Str)
  | [] => some []
  | .str i :: r => (strsOf r).map (i :: ·)
  | _ :: _ => none
def ordD (f : Int → Int → Bool) : PyData → PyData → Option Bool
  | .int i, .int j => some (f i j)
  | _, _ => none
def ltD : PyData → PyData → Option Bool
  | .int i, .int j => some (decide (i < j))
  | .tuple xs, .tuple ys => (intsOf xs).bind fun ns => (intsOf ys).bind fun ms => some (HT.lexLt ns ms)
  | _, _ => none
def isNone : PyData → Bool
  | .none => true
  | _ => false
def inD : PyData → PyData → Option Bool
  | .str x, .str z => if x.cps.size = 1 then some (decide (x.cps.getD 0 0 ∈ z.cps.toList)) else none
  | d, .list ds => if SeqAt.shaped d && SeqAt.shaped (.list ds) then some (ds.any fun z => PyData.eqv z d) else none
  | d, .tuple ds => if scalD d && ds.all scalD then some (ds.any fun z => PyData.eqv z d) else none
  | _, _ => none
def cmpD : Co → PyData → PyData → Option Bool
  | .eq, d, e => if SeqAt.shaped d && SeqAt.shaped e then some (PyData.eqv d e) else none
  | .ne, d, e => if SeqAt.shaped d && SeqAt.shaped e then some (!PyData.eqv d e) else none
  | .lt, d, e => ltD d e
  | .le, d, e => ordD (fun i j => decide (i ≤ j)) d e
  | .gt, d, e => ordD (fun i j => decide (j < i)) d e
  | .ge, d, e => ordD (fun i j => decide (j ≤ i)) d e
  | .isN, d, .none => some (isNone d)
  | .noN, d, .none => some (!isNone d)
  | .inn, d, e => inD d e
  | .nin, d, e => (inD d e).map not
  | _, _, _ => none
def isD : Ty → PyData → Bool
  | .int, .int _ => true
  | .int, .bool _ => true
  | .bool, .bool _ => true
  | .str, .str _ => true
  | .list, .list _ => true
  | .tuple, .tuple _ => true
  | .dict, .dict _ => true
  | _, _ => false
def notScr : PyData → Bool
  | .dict [(.none, _)] => false
  | .dict [(.bool true, _)] => false
  | _ => true
def minI : List Int → Option Int
  | [] => none
  | [x] => some x
  | x :: r => (minI r).map fun m => if m < x then m else x
def maxI : List Int → Option Int
  | [] => none
  | [x] => some x
  | x :: r => (maxI r).map fun m => if x < m then m else x
def insL {α : Type} (le : α → α → Bool) (p : α) : List α → List α
  | [] => [p]
  | q :: r => if le p q then p :: q :: r else q :: insL le p r
def isort {α : Type} (le : α → α → Bool) : List α → List α
  | [] => []
  | p :: r => insL le p (isort le r)
def leI (i j : Int) : Bool := decide (i ≤ j)
def leP (p q : Int × Int) : Bool := decide (p.1 < q.1) || (decide (p.1 = q.1) && decide (p.2 ≤ q.2))
def encP (p : Int × Int) : PyData := .tuple [.int p.1, .int p.2]
def pairsOf : List PyData → Option (List (Int × Int))
  | [] => some []
  | .tuple [.int i, .int j] :: r => (pairsOf r).map ((i, j) :: ·)
  | _ :: _ => none
def leK (a b : Int × PyData) : Bool := decide (a.1 ≤ b.1)
def encK (p : Int × PyData) : PyData := .tuple [.int p.1, p.2]
def keysOf : List PyData → Option (List (Int × PyData))
  | [] => some []
  | .tuple [.int i, d] :: r => (keysOf r).map ((i, d) :: ·)
  | _ :: _ => none
def sortedD (ds : List PyData) : Option RV := match pairsOf ds with
  | some ps => some (.ol ((isort leP ps).map encP))
  | none => match intsOf ds with
    | some ns => some (.ol ((isort leI ns).map PyData.int))
    | none => (keysOf ds).bind fun ks => if (ks.map Prod.fst).Nodup then some (.ol ((isort leK ks).map encK)) else none
def biD : Bi → List RV → Option RV
  | .len, [.fz (.str z)] => if z.length ≤ LIM then some (.fz (.int z.length)) else none
  | .len, [r] => r.seq.map fun ds => .fz (.int ds.length)
  | .sum, [r] => (r.seq.bind intsOf).map fun ns => .fz (.int ns.sum)
  | .min2, [.fz (.int i), .fz (.int j)] => some (.fz (.int (if j < i then j else i)))
  | .max2, [.fz (.int i), .fz (.int j)] => some (.fz (.int (if j > i then j else i)))
  | .minL, [r] => ((r.lst.bind intsOf).bind minI).map fun m => .fz (.int m)
  | .maxL, [r] => ((r.lst.bind intsOf).bind maxI).map fun m => .fz (.int m)
  | .any, [r] => match r.lst.bind boolsOf with
    | some ns => some (.fz (.bool (ns.any id)))
    | none => (r.seq.bind intsOf).map fun ns => .fz (.bool (ns.any fun i => i != 0))
  | .all, [r] => (r.lst.bind boolsOf).map fun ns => .fz (.bool (ns.all id))
  | .int, [.fz (.int i)] => some (.fz (.int i))
  | .int, [.fz (.bool k)] => some (.fz (.int (if k then 1 else 0)))
  | .int, [.fz (.str x)] => if x.length ≤ 640 then (PySem.intText? x).map fun n => .fz (.int n) else none
  | .str, [.fz (.int i)] => if i.natAbs.log2 < 1920 then some (.fz (.str (toString i : String))) else none
  | .tup, [r] => r.seq.map fun ds => .fz (.tuple ds)
  | .list, [r] => r.seq.map fun ds => .ol ds
  | .sorted, [r] => r.lst.bind sortedD
  | .isI t, [r] => if notScr r.d then some (.fz (.bool (isD t r.d))) else none
  | _, _ => none
def cutD {α : Type} (xs : List α) (lo hi : Option Int) : List α := (xs.drop (HT.sIx xs.length 0 lo)).take (HT.sIx xs.length xs.length hi - HT.sIx xs.length 0 lo)
def idxD : RV → RV → Option RV
  | .fz (.str z), .fz (.int i) => if z.length ≤ LIM then (atI z.cps.toList i).map fun c => .fz (.str ⟨#[c]⟩) else none
  | a, .fz (.int i) => a.seq.bind fun ds => (atI ds i).map .fz
  | _, _ => none
def slcD : RV → Option Int → Option Int → Option RV
  | .fz (.list ds), lo, hi => some (.ol (cutD ds lo hi))
  | .ol ds, lo, hi => some (.ol (cutD ds lo hi))
  | .fz (.tuple ds), lo, hi => some (.fz (.tuple (cutD ds lo hi)))
  | .fz (.str z), lo, hi => if z.length ≤ LIM then some (.fz (.str (cutS z lo hi))) else none
  | _, _, _ => none
def joinD (x y : RV) : Option RV := match x with
  | .fz (.str a) => (y.seq.bind strsOf).bind fun ys => if (ys.map (·.length)).sum + ys.length * a.length ≤ 16777216 then some (.fz (.str (Txt.join a ys))) else none
  | _ => none
def sixD (a : Str) (y : RV) : Option RV := match y with
  | .fz (.str b) => match Builtin.Str.occurrences a b 0 a.length 1 with
    | i :: _ => some (.fz (.int (i : Nat)))
    | [] => none
  | _ => none
def indexD (x y : RV) : Option RV := match x with
  | .fz (.str a) => sixD a y
  | .fz (.tuple ds) => if SeqAt.shaped (.tuple ds) && SeqAt.shaped y.d then (ds.findIdx? fun z => PyData.eqv z y.d).map fun j => .fz (.int (j : Nat)) else none
  | x => x.lst.bind fun ds => if SeqAt.shaped (.list ds) && SeqAt.shaped y.d then (ds.findIdx? fun z => PyData.eqv z y.d).map fun j => .fz (.int (j : Nat)) else none
def countD (x y : RV) : Option RV := x.lst.bind fun ds => if SeqAt.shaped (.list ds) && SeqAt.shaped y.d then some (.fz (.int ((ds.countP fun z => PyData.eqv z y.d : Nat)))) else none
def splitD (x y : RV) : Option RV := match x, y with
  | .fz (.str a), .fz (.str b) => if (b.length == 0) = false ∧ a.length + 2 ≤ LIM then some (.ol ((Txt.split a b).map PyData.str)) else none
  | _, _ => none
def mt1D (m : Mt) (x y : RV) : Option RV := match m with
  | .join => joinD x y
  | .index => indexD x y
  | .count => countD x y
  | .split => splitD x y
  | _ => none
def mtD (m : Mt) (x : RV) (rs : List RV) : Option RV := match rs with
  | [y] => mt1D m x y
  | _ => none
theorem mt1_of {m : Mt} {x : RV} {rs : List RV} {r : RV} (h : mtD m x rs = some r) : ∃ y, rs = [y] ∧ mt1D m x y = some r := by
  unfold mtD at h
  split at h
  · exact ⟨_, rfl, h⟩
  · cases h
theorem join_eq {x y : RV} {r : RV} (h : joinD x y = some r) : ∃ a ys, x = .fz (.str a) ∧ (y.seq.bind strsOf) = some ys ∧ (ys.map (·.length)).sum + ys.length * a.length ≤ 16777216 ∧ r = .fz (.str (Txt.join a ys)) := by
  unfold joinD at h
  split at h
  · rename_i a
    cases e : y.seq.bind strsOf with
    | none => rw [e] at h; cases h
    | some ys =>
      rw [e] at h
      have h : (if (ys.map (·.length)).sum + ys.length * a.length ≤ 16777216 then some (RV.fz (.str (Txt.join a ys))) else none) = some r := h
      by_cases q : (ys.map (·.length)).sum + ys.length * a.length ≤ 16777216
      · rw [if_pos q] at h
        cases h
        exact ⟨a, ys, rfl, rfl, q, rfl⟩
      · rw [if_neg q] at h
        cases h
  · cases h
theorem six_eq {a : Str} {y r : RV} (h : sixD a y = some r) : ∃ b i rest, y = .fz (.str b) ∧ Builtin.Str.occurrences a b 0 a.length 1 = i :: rest ∧ r = .fz (.int (i : Nat)) := by
  unfold sixD at h
  split at h
  · split at h
    · cases h
      exact ⟨_, _, _, rfl, by assumption, rfl⟩
    · cases h
  · cases h
def strLook (kvs : List (Str × Str)) (s : Str) : Option Str := match valV (mergeK [] (kvs.map fun p => ((.inr p.1 : Key), V.str p.2))) (.inr s) with
  | some (.str v) => some v
  | _ => none
def dsxD (kvs : List (Str × Str)) : RV → Option RV
  | .fz (.str s) => (strLook kvs s).map fun v => .fz (.str v)
  | _ => none
def itemsOf : RV → Option (List PyData)
  | .fz (.str z) => some (z.cps.toList.map fun c => .str ⟨#[c]⟩)
  | r => r.seq
def rngD (lo : Int) (n : Nat) : List PyData := (List.range n).map fun i => .int (lo + (i : Nat))
def rngC (lo c : Int) (n : Nat) : List PyData := (List.range n).map fun i => .int (lo + (i : Nat) * c)
def zipD (xs ys : List PyData) : List PyData := List.zipWith (fun x y => .tuple [x, y]) xs ys
def zipD3 (xs ys zs : List PyData) : List PyData := List.zipWith (fun x (p : PyData × PyData) => .tuple [x, p.1, p.2]) xs (List.zip ys zs)
def enD : Nat → List PyData → List PyData
  | _, [] => []
  | i, x :: r => .tuple [.int (i : Nat), x] :: enD (i + 1) r
def zipR (x y : RV) : Option (List PyData) := x.seq.bind fun xs => y.seq.bind fun ys => some (zipD xs ys)
def zipR3 (x y z : RV) : Option (List PyData) := x.seq.bind fun xs => y.seq.bind fun ys => z.seq.bind fun zs => some (zipD3 xs ys zs)
def setAll : Ev → List Nat → List PyData → Ev
  | env, i :: is, d :: ds => setAll (env.set i (some (.fz d))) is ds
  | env, _, _ => env
def bindT : Tg → Ev → PyData → Option Ev
  | .nm i, env, d => some (env.set i (some (.fz d)))
  | .tp is, env, .tuple ds => if ds.length = is.length then some (setAll env is ds) else none
  | .tp is, env, .list ds => if ds.length = is.length then some (setAll env is ds) else none
  | _, _, _ => none
def wipeE : Ev → List Nat → Ev
  | env, [] => env
  | env, v :: vs => (wipeE env vs).set v none
def isVar : Ex → Bool
  | .var _ => true
  | _ => false
def ownD (e : Ex) (r : RV) : Option PyData := if isVar e && r.isOwn then none else some r.d
def compL (f : PyData → Option (Option PyData)) : List PyData → Option (List PyData)
  | [] => some []
  | x :: xs => (f x).bind fun o => (compL f xs).bind fun r => some (match o with | some y => y :: r | none => r)

/-- the name of an exception's class -/
def xnm : RV → Option Str
  | .fz (.dict [(.bool true, .str nm)]) => some nm
  | .fz (.dict [(.bool true, .tuple [.str nm, .str _, _])]) => some nm
  | _ => none
/-- its field -/
def xfl (f : Str) : RV → Option (Str × PyData)
  | .fz (.dict [(.bool true, .tuple [.str nm, .str g, e])]) => if g = f then some (nm, e) else none
  | _ => none
def subX (nm D : Str) : Bool := decide (nm = D) || decide (D = "SplitError")
structure Cl where
  call : Nat → List PyData → Option RV
  glb : Nat → Option PyData
  /-- defs that may raise -/
  callx : Nat → List PyData → Option RV := fun _ _ => none
  /-- classes of exceptions that may come, that may be asked for, the names of fields -/
  rzs : List Str := []
  cls : List Str := []
  fls : List Str := []
  m0s : List Str := []
  m1s : List (Str × Str) := []
  /-- dicts of texts in the module -/
  gds : List (Str × List (Str × Str)) := []
def isxD (c : Cl) (nm D : Str) : Option Bool := if c.rzs.contains nm then (if D = "ValueError" then some true else if c.cls.contains D then some (subX nm D) else none) else none
def mkD (c : Cl) (C : Str) (d : PyData) : Option PyData := match c.m1s.lookup C with
  | some f => some (xd1 C f d)
  | none => if c.m0s.contains C then some (xd0 C) else none
def gdD (kvs : List (Str × Str)) : RV → Option RV
  | .fz (.str s) => (kvs.lookup s).map fun v => .fz (.str v)
  | _ => none
def callD (r : Option RV) (b : Bool) : Option RV := r.bind fun v => if b then (match v with | .fz d => if flatD d then some v else none | _ => none) else some v
def asRow : RV → Option (List PyData)
  | .ol ds => some ds
  | _ => none
def asOn : RV → Option (List (List PyData))
  | .on dss => some dss
  | _ => none
def onAt (env : Ev) (i : Nat) : Option (List (List PyData)) := ((env[i]?).join).bind asOn
def compD (f : PyData → Option (List PyData)) : List PyData → Option (List (List PyData))
  | [] => some []
  | x :: xs => (f x).bind fun y => (compD f xs).bind fun ys => some (y :: ys)
def rowsD (f : List PyData → Option (List PyData)) : List (List PyData) → Option (List (List PyData))
  | [] => some []
  | x :: xs => (f x).bind fun y => (rowsD f xs).bind fun ys => some (y :: ys)
def asStr : RV → Option Str
  | .fz (.str i) => some i
  | _ => none
def asInt : RV → Option Int
  | .fz (.int i) => some i
  | _ => none
def asBool : RV → Option Bool
  | .fz (.bool i) => some i
  | _ => none
section
variable (c : Cl)
mutual
def ev (env : Ev) : Ex → Option RV
  | .var i => (env[i]?).join
  | .int i => some (.fz (.int i))
  | .str x => some (.fz (.str x))
  | .bl b => some (.fz (.bool b))
  | .non => some (.fz .none)
  | .glb g => (c.glb g).map .fz
  | .bin o a b => (ev env a).bind fun x => (ev env b).bind fun y => binD o x y
  | .neg a => ((ev env a).bind asInt).map fun i => .fz (.int (-i))
  | .not a => ((ev env a).bind asBool).map fun b => .fz (.bool (!b))
  | .one a => (ev env a).bind fun r => (ownD a r).map .fz
  | .and a b => ((ev env a).bind asBool).bind fun k => if k then (ev env b).bind fun r => (ownD b r).map .fz else some (.fz (.bool false))
  | .or a b => ((ev env a).bind asBool).bind fun k => if k then some (.fz (.bool true)) else (ev env b).bind fun r => (ownD b r).map .fz
  | .cmp o a b => (ev env a).bind fun x => (ev env b).bind fun y => (cmpD o x.d y.d).map fun k => .fz (.bool k)
  | .chn o o' a b e => (ev env a).bind fun x => (ev env b).bind fun y => (cmpD o x.d y.d).bind fun k => if k then (ev env e).bind fun z => (cmpD o' y.d z.d).map fun k => .fz (.bool k) else some (.fz (.bool false))
  | .chn3 o o' o2 a b e d => (ev env a).bind fun x => (ev env b).bind fun y => (cmpD o x.d y.d).bind fun k => if k then (ev env e).bind fun z => (cmpD o' y.d z.d).bind fun k => if k then (ev env d).bind fun u => (cmpD o2 z.d u.d).map fun k => .fz (.bool k) else some (.fz (.bool false)) else some (.fz (.bool false))
  | .dsx kvs k => (ev env k).bind fun r => dsxD kvs r
  | .dsv k1 k2 a b k => ((ev env a).bind asStr).bind fun x => ((ev env b).bind asStr).bind fun y => (ev env k).bind fun r => dsxD [(k1, x), (k2, y)] r
  | .isx a D => (ev env a).bind fun r => (xnm r).bind fun nm => (isxD c nm D).map fun b => .fz (.bool b)
  | .fld a f => (ev env a).bind fun r => (xfl f r).bind fun p => if c.rzs.contains p.1 && c.fls.contains f then some (.fz p.2) else none
  | .mkx C e => (ev env e).bind fun r => (ownD e r).bind fun d => (mkD c C d).map .fz
  | .gdx x k => (ev env k).bind fun r => (c.gds.lookup x).bind fun kvs => gdD kvs r
  | .lenD i => (onAt env i).map fun dss => .fz (.int (dss.length : Nat))
  | .lenI i k => (onAt env i).bind fun dss => ((ev env k).bind asInt).bind fun n => (atI dss n).map fun ds => .fz (.int (ds.length : Nat))
  | .rvt a => (ev env a).bind fun x => x.seq.map fun ds => .fz (.tuple ds.reverse)
  | .rvl a => (ev env a).bind fun x => x.seq.map fun ds => .ol ds.reverse
  | .sls a lo st => (ev env a).bind fun x => x.lst.bind fun ds => if 0 < st then some (.ol (pickX ds lo st)) else none
  | .ite t a b => ((ev env t).bind asBool).bind fun k => if k then (ev env a).bind fun r => (ownD a r).map .fz else (ev env b).bind fun r => (ownD b r).map .fz
  | .tup es => (evs env es).bind fun ds => if ds.length ≤ LIM then some (.fz (.tuple ds)) else none
  | .lst es => (evs env es).bind fun ds => if ds.length ≤ LIM then some (.ol ds) else none
  | .call f es => (evb env es).bind fun p => callD (c.call f p.1) p.2
  | .bi b es => (evr env es).bind fun rs => biD b rs
  | .mt m a es => (ev env a).bind fun x => (evr env es).bind fun rs => mtD m x rs
  | .idx a i => (ev env a).bind fun x => (ev env i).bind fun y => idxD x y
  | .slc a lo hi => (ev env a).bind fun x => (evo env lo).bind fun l => (evo env hi).bind fun h => slcD x l h
  | .emp => none
  | .comp e tg it t own => (evi env it).bind fun items => (compL (fun x => (bindT tg (wipeE env own) x).bind fun env' => (evt env' t).bind fun k => if k then (ev env' e).bind fun r => (ownD e r).map some else some none) items).bind fun ds =>
      if items.length ≤ LIM then some (.ol ds) else none
/-- a comprehension's test, perhaps none -/
def evt (env : Ev) : Ex → Option Bool
  | .emp => some true
  | .one a => (ev env a).bind asBool
  | _ => none
/-- a slice's part, perhaps none -/
def evo (env : Ev) : Ex → Option (Option Int)
  | .emp => some none
  | .one a => ((ev env a).bind asInt).map some
  | _ => none
def evs (env : Ev) : Exs → Option (List PyData)
  | .nil => some []
  | .cons e es => (ev env e).bind fun r => (ownD e r).bind fun d => (evs env es).bind fun ds => some (d :: ds)
def evb (env : Ev) : Exs → Option (List PyData × Bool)
  | .nil => some ([], false)
  | .cons e es => (ev env e).bind fun r => (evb env es).bind fun p => some (r.d :: p.1, (isVar e && r.isOwn) || p.2)
def evr (env : Ev) : Exs → Option (List RV)
  | .nil => some []
  | .cons e es => (ev env e).bind fun r => (evr env es).bind fun rs => some (r :: rs)
def evi (env : Ev) : Itr → Option (List PyData)
  | .ex e => (ev env e).bind itemsOf
  | .r1 a => ((ev env a).bind asInt).bind fun n => if -1000000 ≤ n ∧ n ≤ 1000000 then some (rngD 0 n.toNat) else none
  | .r2 a b => ((ev env a).bind asInt).bind fun m => ((ev env b).bind asInt).bind fun n => if -1000000 ≤ m ∧ m ≤ 1000000 ∧ -1000000 ≤ n ∧ n ≤ 1000000 then some (rngD m (n - m).toNat) else none
  | .r3 a b e => ((ev env a).bind asInt).bind fun m => ((ev env b).bind asInt).bind fun n => ((ev env e).bind asInt).bind fun k =>
      if -1000000 ≤ m ∧ m ≤ 1000000 ∧ -1000000 ≤ n ∧ n ≤ 1000000 ∧ k = -1 then some (rngC m (-1) (m - n).toNat) else none
  | .zip a b => (ev env a).bind fun x => (ev env b).bind fun y => zipR x y
  | .zip3 a b d => (ev env a).bind fun x => (ev env b).bind fun y => (ev env d).bind fun z => zipR3 x y z
  | .en a => (ev env a).bind fun x => (itemsOf x).map fun xs => enD 0 xs
  | .rv a => ((ev env a).bind RV.seq).map List.reverse
  | .exD i k => (onAt env i).bind fun dss => ((ev env k).bind asInt).bind fun n => atI dss n
  | .zipD i k j l => (onAt env i).bind fun dss => ((ev env k).bind asInt).bind fun n => (atI dss n).bind fun xs => (onAt env j).bind fun ess => ((ev env l).bind asInt).bind fun m => (atI ess m).map fun ys => Mn.zipD xs ys
end
/-- does the walk lean on a list that this def may change -/
def borI (env : Ev) : Itr → Bool
  | .ex e => isVar e && ((ev c env e).map RV.isOwn).getD true
  | .zip a b => (isVar a && ((ev c env a).map RV.isOwn).getD true) || (isVar b && ((ev c env b).map RV.isOwn).getD true)
  | .zip3 a b d => (isVar a && ((ev c env a).map RV.isOwn).getD true) || ((isVar b && ((ev c env b).map RV.isOwn).getD true) || (isVar d && ((ev c env d).map RV.isOwn).getD true))
  | .en a => isVar a && ((ev c env a).map RV.isOwn).getD true
  | .rv a => isVar a && ((ev c env a).map RV.isOwn).getD true
  | .exD _ _ => true
  | .zipD _ _ _ _ => true
  | _ => false

inductive Out where
  | nx (env : Ev)
  | rt (r : RV)
  | bk (env : Ev)
  | ct (env : Ev)
def Out.isX : Out → Bool
  | .rt r => r.isX
  | _ => false
/-- a def that may raise is called -/
def evx (env : Ev) (f : Nat) (es : Exs) : Option RV := (evb c env es).bind fun p => if p.2 then none else c.callx f p.1
def forL (f : Ev → PyData → Option Out) : List PyData → Ev → Option Out
  | [], env => some (.nx env)
  | x :: xs, env => (f env x).bind fun o => match o with
    | .nx env' => forL f xs env'
    | .ct env' => forL f xs env'
    | .bk env' => some (.nx env')
    | .rt r => some (.rt r)
def whlL (t : Ev → Option Bool) (f : Ev → Option Out) : Nat → Ev → Option Out
  | 0, _ => none
  | n + 1, env => (t env).bind fun k => if k then (f env).bind fun o => (match o with
    | .nx env' => whlL t f n env'
    | .ct env' => whlL t f n env'
    | .bk env' => some (.nx env')
    | .rt r => some (.rt r)) else some (.nx env)
def olAt (env : Ev) (i : Nat) : Option (List PyData) := ((env[i]?).join).bind fun r => match r with
  | .ol ds => some ds
  | _ => none
def exR (j : Nat) : Rbs → Ev → Option Ev
  | .nil, env => some env
  | .st k e r, env => (ev c env e).bind fun x => (ownD e x).bind fun d => (olAt env j).bind fun ds => ((ev c env k).bind asInt).bind fun n => (ixN ds.length n).bind fun m => exR j r (env.set j (some (.ol (ds.set m d))))
  | .ifs t a r, env => ((ev c env t).bind asBool).bind fun b => if b then (exR j a env).bind (exR j r) else exR j r env
def FUEL : Nat := 100000
mutual
def exS : Sm → Ev → Option Out
  | .asg i e, env => (ev c env e).bind fun r => if isVar e && r.isOwn then none else some (.nx (env.set i (some r)))
  | .unp is e, env => (ev c env e).bind fun r => (ownD e r).bind fun d => (bindT (.tp is) env d).map .nx
  | .app i e, env => (olAt env i).bind fun ds => (ev c env e).bind fun r => (ownD e r).bind fun d => if ds.length < LIM then some (.nx (env.set i (some (.ol (ds ++ [d]))))) else none
  | .ext i e, env => (olAt env i).bind fun ds => (ev c env e).bind fun r => r.seqT.bind fun es => if ds.length + es.length ≤ LIM then some (.nx (env.set i (some (.ol (ds ++ es))))) else none
  | .pop j i e, env => if i = j then none else (olAt env i).bind fun ds => ((ev c env e).bind asInt).bind fun k => if 0 ≤ k then (ds[k.toNat]?).bind fun d => if ds.length ≤ LIM then some (.nx ((env.set i (some (.ol (ds.eraseIdx k.toNat)))).set j (some (.fz d)))) else none else none
  | .sti i k e, env => (ev c env e).bind fun r => (ownD e r).bind fun d => (olAt env i).bind fun ds => ((ev c env k).bind asInt).bind fun n => (ixN ds.length n).bind fun j => some (.nx (env.set i (some (.ol (ds.set j d)))))
  | .clr i, env => (olAt env i).bind fun ds => some (.nx (env.set i (some (.ol []))))
  | .ifs t a b, env => ((ev c env t).bind asBool).bind fun k => if k then exSs a env else exSs b env
  | .for_ tg it b, env => if borI c env it then none else (evi c env it).bind fun items => forL (fun env x => (bindT tg env x).bind fun env' => exSs b env') items env
  | .whl t b, env => whlL (fun env => (ev c env t).bind asBool) (fun env => exSs b env) FUEL env
  | .tryN b, env => (exSs b env).bind fun o => if o.isX then none else some o
  | .rse C _, env => if c.m0s.contains C then some (.rt (.xr (xd0 C))) else none
  | .rs1 C e, env => (ev c env e).bind fun r => (ownD e r).bind fun d => (c.m1s.lookup C).map fun f => .rt (.xr (xd1 C f d))
  | .asgC i f es, env => (evx c env f es).bind fun r => some (match r with
    | .xr d => .rt (.xr d)
    | r => .nx (env.set i (some r)))
  | .retC f es, env => (evx c env f es).map .rt
  | .drpC f es, env => (evx c env f es).bind fun r => some (match r with
    | .xr d => .rt (.xr d)
    | _ => .nx env)
  | .tryC i f es D j n, env => if decide (i = n) || decide (j = n) || !c.cls.contains D then none else (evx c env f es).bind fun r => match r with
    | .xr d => (xnm (.fz d)).bind fun nm => if c.rzs.contains nm && subX nm D then some (.nx ((env.set n none).set j (some (.fz d)))) else none
    | r => some (.nx (env.set i (some r)))
  | .tryE f es D j n, env => if decide (j = n) || !c.cls.contains D then none else (evx c env f es).bind fun r => match r with
    | .xr d => (xnm (.fz d)).bind fun nm => if c.rzs.contains nm && subX nm D then some (.nx ((env.set n none).set j (some (.fz d)))) else none
    | _ => some (.nx env)
  | .asgD i e tg it own, env => (evi c env it).bind fun items => (compD (fun x => (bindT tg (wipeE env own) x).bind fun env' => (ev c env' e).bind fun r => if isVar e then none else asRow r) items).bind fun dss => if items.length ≤ LIM then some (.nx (env.set i (some (.on dss)))) else none
  | .asgL i e, env => (ev c env e).bind fun r => (if isVar e then none else asRow r).bind fun es => some (.nx (env.set i (some (.on [es]))))
  | .appD i e, env => (onAt env i).bind fun dss => (ev c env e).bind fun r => (if isVar e then none else asRow r).bind fun es => if dss.length < LIM then some (.nx (env.set i (some (.on (dss ++ [es]))))) else none
  | .appI i k e, env => (onAt env i).bind fun dss => ((ev c env k).bind asInt).bind fun n => (ixN dss.length n).bind fun j => (dss[j]?).bind fun ds => (ev c env e).bind fun r => (ownD e r).bind fun d => if ds.length < LIM ∧ dss.length ≤ LIM then some (.nx (env.set i (some (.on (dss.set j (ds ++ [d])))))) else none
  | .popI i k, env => (onAt env i).bind fun dss => ((ev c env k).bind asInt).bind fun n => (ixN dss.length n).bind fun j => (dss[j]?).bind fun ds => if 0 < ds.length ∧ ds.length ≤ LIM ∧ dss.length ≤ LIM then some (.nx (env.set i (some (.on (dss.set j ds.dropLast))))) else none
  | .popD i, env => (onAt env i).bind fun dss => if 0 < dss.length ∧ dss.length ≤ LIM then some (.nx (env.set i (some (.on dss.dropLast)))) else none
  | .retX e k, env => (ev c env e).bind fun r => (if isVar e then none else asOn r).bind fun dss => ((ev c env k).bind asInt).bind fun n => (atI dss n).map fun ds => .rt (.ol ds)
  | .stiD i k e, env => (ev c env e).bind fun r => (if isVar e then none else asRow r).bind fun es => (onAt env i).bind fun dss => ((ev c env k).bind asInt).bind fun n => (ixN dss.length n).bind fun j => some (.nx (env.set i (some (.on (dss.set j es)))))
  | .forR j i b, env => if i = j then none else (onAt env i).bind fun dss => (rowsD (fun es => (exR c j b ((env.set i none).set j (some (.ol es)))).bind fun env' => olAt env' j) dss).bind fun dss' => some (.nx ((env.set i (some (.on dss'))).set j none))
  | .ret e, env => (ev c env e).map .rt
  | .retN, env => some (.rt (.fz .none))
  | .drp e, env => (ev c env e).map fun _ => .nx env
  | .nop, env => some (.nx env)
  | .nev, _ => none
  | .cont, env => some (.ct env)
  | .brk, env => some (.bk env)
def exSs : Sms → Ev → Option Out
  | .nil, env => some (.nx env)
  | .cons s r, env => (exS s env).bind fun o => match o with
    | .nx env' => exSs r env'
    | o => some o
  | .frz i r, env => ((env[i]?).join).bind fun v => exSs r (env.set i (some (.fz v.d)))
  | .del i r, env => exSs r (env.set i none)
end
end
/-- a def: how many slots, how many of them are parameters, the body -/
structure Df where
  n : Nat
  np : Nat
  body : Sms
def runD (c : Cl) (f : Df) (ds : List PyData) : Option RV :=
  if ds.length = f.np then (exSs c f.body (ds.map (fun d => some (.fz d)) ++ List.replicate (f.n - f.np) none)).bind fun o => match o with
    | .rt r => if r.isX then none else some r
    | .nx _ => some (.fz .none)
    | _ => none
  else none
/-- a def that may raise -/
def runX (c : Cl) (f : Df) (ds : List PyData) : Option RV :=
  if ds.length = f.np then (exSs c f.body (ds.map (fun d => some (.fz d)) ++ List.replicate (f.n - f.np) none)).bind fun o => match o with
    | .rt r => some r
    | .nx _ => some (.fz .none)
    | _ => none
  else none
end Mn

namespace Mn
open PySem PySem.Spec PyProof.Rows L2

theorem bnd {α β : Type} {x : Option α} {f : α → Option β} {b : β} (h : x.bind f = some b) : ∃ a, x = some a ∧ f a = some b := by
  cases x with
  | none => cases h
  | some a => exact ⟨a, rfl, h⟩
theorem mpd {α β : Type} {x : Option α} {f : α → β} {b : β} (h : x.map f = some b) : ∃ a, x = some a ∧ f a = b := by
  cases x with
  | none => cases h
  | some a => exact ⟨a, rfl, Option.some.inj h⟩
theorem itd {α : Type} {c : Prop} [Decidable c] {a b : α} (h : (if c then some a else none) = some b) : c ∧ a = b := by
  by_cases hc : c
  · rw [if_pos hc] at h; exact ⟨hc, Option.some.inj h⟩
  · rw [if_neg hc] at h; cases h
theorem itd' {α : Type} {c : Prop} [Decidable c] {a : Option α} {b : α} (h : (if c then a else none) = some b) : c ∧ a = some b := by
  by_cases hc : c
  · rw [if_pos hc] at h; exact ⟨hc, h⟩
  · rw [if_neg hc] at h; cases h
theorem LIM_ok {n : Nat} (h : n ≤ LIM) : n ≤ sizeLine := by rw [sizeLine_eq]; unfold LIM at h; omega
theorem LIM_lt {n : Nat} (h : n < LIM) : n < sizeLine := by rw [sizeLine_eq]; unfold LIM at h; omega
section
variable {X : Cx} {e : Expr}
theorem PE.imp {t t' : TE} (h : PE X e t) (f : ∀ σ H Q, t' σ H Q → t σ H Q) : PE X e t' := ⟨fun pins s σ H Q I q => h.run pins s σ H Q I (f σ H Q q)⟩
theorem PT.imp {t t' : TT} (h : PT X e t) (f : ∀ σ H Q, t' σ H Q → t σ H Q) : PT X e t' := ⟨fun pins s σ H Q I q => h.run pins s σ H Q I (f σ H Q q)⟩
theorem PW.imp {t t' : TT} (h : PW X e t) (f : ∀ σ H Q, t' σ H Q → t σ H Q) : PW X e t' := ⟨fun wh pins s σ H Q I q => h.run wh pins s σ H Q I (f σ H Q q)⟩
theorem PE.or {t t' : TE} (h : PE X e t) (h' : PE X e t') : PE X e (fun σ H Q => t σ H Q ∨ t' σ H Q) := ⟨fun pins s σ H Q I q => q.elim (h.run pins s σ H Q I) (h'.run pins s σ H Q I)⟩
theorem PA.imp {es : List Expr} {t t' : TA} (h : PA X es t) (f : ∀ σ H Q, t' σ H Q → t σ H Q) : PA X es t' := ⟨fun pos pins s σ H Q I q => h.run pos pins s σ H Q I (f σ H Q q)⟩
theorem PI.imp {tg : Expr} {t t' : TI} (h : PI X tg e t) (f : ∀ σ H R, t' σ H R → t σ H R) : PI X tg e t' := ⟨fun pins s σ H R I q => h.run pins s σ H R I (f σ H R q)⟩
theorem PI.or {tg : Expr} {t t' : TI} (h : PI X tg e t) (h' : PI X tg e t') : PI X tg e (fun σ H R => t σ H R ∨ t' σ H R) := ⟨fun pins s σ H R I q => q.elim (h.run pins s σ H R I) (h'.run pins s σ H R I)⟩
theorem PS.imp {st : Stmt} {t t' : TS} (h : PS X st t) (f : ∀ D σ H, t' D σ H → t D σ H) : PS X st t' := ⟨fun pins s σ H D I q => h.run pins s σ H D I (f D σ H q)⟩
theorem PSs.imp {st : List Stmt} {t t' : TS} (h : PSs X st t) (f : ∀ D σ H, t' D σ H → t D σ H) : PSs X st t' := ⟨fun pins s σ H D I q => h.run pins s σ H D I (f D σ H q)⟩
theorem PS.or {st : Stmt} {t t' : TS} (h : PS X st t) (h' : PS X st t') : PS X st (fun D σ H => t D σ H ∨ t' D σ H) := ⟨fun pins s σ H D I q => q.elim (h.run pins s σ H D I) (h'.run pins s σ H D I)⟩
theorem OpR.imp {f : Value → Value → Sem Value} {r r' : R2} (h : OpR X f r) (g : ∀ x y H Q, r' x y H Q → r x y H Q) : OpR X f r' := fun pins s σ H x y v u Q I rx ry q => h pins s σ H x y v u Q I rx ry (g _ _ _ _ q)
theorem CallR.imp {f : Value} {r r' : List V → Hp → VK → Prop} (h : CallR X f r) (g : ∀ xs H Q, r' xs H Q → r xs H Q) : CallR X f r' := fun pins s σ H xs us Q I rs q => h pins s σ H xs us Q I rs (g _ _ _ q)
theorem MtR.imp {id : String} {r r' : V → List V → Hp → VK → Prop} (h : MtR X id r) (g : ∀ x xs H Q, r' x xs H Q → r x xs H Q) : MtR X id r' := fun pins s σ H x xs v us Q I rx rs q => h pins s σ H x xs v us Q I rx rs (g _ _ _ _ q)
theorem IxR.imp {r r' : R2} (h : IxR X r) (g : ∀ x y H Q, r' x y H Q → r x y H Q) : IxR X r' := fun a b pins s σ H x y v u Q I rx ry q => h a b pins s σ H x y v u Q I rx ry (g _ _ _ _ q)
end

/-- two values in, by the sense f -/
def r2S (K : PySem.W.Frag) (f : RV → RV → Option RV) : R2 := fun x y H Q => ∃ F a b r, Same F H ∧ View K F H x a ∧ View K F H y b ∧ f a b = some r ∧ ∀ v F' H', Ext F H F' H' → View K F' H' v r → New r v H H' → Q v H'
inductive Views (K : PySem.W.Frag) (F H : Hp) : List V → List RV → Prop
  | nil : Views K F H [] []
  | cons {v : V} {vs : List V} {r : RV} {rs : List RV} : View K F H v r → Views K F H vs rs → Views K F H (v :: vs) (r :: rs)
def rnS (K : PySem.W.Frag) (f : List RV → Option RV) : List V → Hp → VK → Prop := fun xs H Q => ∃ F rs r, Same F H ∧ Views K F H xs rs ∧ f rs = some r ∧ ∀ v F' H', Ext F H F' H' → View K F' H' v r → New r v H H' → Q v H'
section
variable {K : PySem.W.Frag} {F H : Hp} {x : V}
theorem View.int {i : Int} (h : View K F H x (.fz (.int i))) : x = .int i := by
  cases h with
  | fz q => cases q; rfl
  | own _ _ q => cases q
theorem View.str {i : Str} (h : View K F H x (.fz (.str i))) : x = .str i := by
  cases h with
  | fz q => cases q; rfl
  | own _ _ q => cases q
theorem View.bool {i : Bool} (h : View K F H x (.fz (.bool i))) : x = .bl i := by
  cases h with
  | fz q => cases q; rfl
  | own _ _ q => cases q
theorem View.none (h : View K F H x (.fz .none)) : x = .non := by
  cases h with
  | fz q => cases q; rfl
  | own _ _ q => cases q
theorem View.rpF {d : PyData} (h : View K F H x (.fz d)) : Rp K F x d := by
  cases h with
  | fz q => exact q
  | own _ _ q => cases q
theorem Rp.intv {i : Int} (h : Rp K F x (.int i)) : x = .int i := by cases h; rfl
theorem Rp.boolv {i : Bool} (h : Rp K F x (.bool i)) : x = .bl i := by cases h; rfl
theorem Rp.strv {i : Str} (h : Rp K F x (.str i)) : x = .str i := by cases h; rfl
theorem Rp.nonv (h : Rp K F x .none) : x = .non := by cases h; rfl
/-- a list that may be changed or not: its items, all within F -/
theorem View.lstv (s : Same F H) {r : RV} {ds : List PyData} (h : View K F H x r) (e : r.lst = some ds) : ∃ p vs, x = .ref p ∧ H p = some (.lst vs) ∧ RpAll K F vs ds := by
  cases h with
  | fz q =>
    cases q <;> simp only [RV.lst] at e <;> cases e
    rename_i hF ra
    exact ⟨_, _, rfl, s _ _ hF, ra⟩
  | own f h q =>
    cases q <;> simp only [RV.lst] at e <;> cases e
    exact ⟨_, _, rfl, h, by assumption⟩
theorem View.seqv (s : Same F H) {r : RV} {ds : List PyData} (h : View K F H x r) (e : r.seq = some ds) : ∃ p vs, x = .ref p ∧ (SqL K H p vs ∨ SqT K H p vs) ∧ RpAll K F vs ds := by
  cases h with
  | fz q =>
    cases q with
    | lst hF ra => simp only [RV.seq] at e; cases e; exact ⟨_, _, rfl, .inl (SqL.of (s _ _ hF)), ra⟩
    | tup hF ra => simp only [RV.seq] at e; cases e; exact ⟨_, _, rfl, .inr (Same.sqT s hF.sqT), ra⟩
    | scr hF => simp only [RV.seq] at e; cases e; exact ⟨_, _, rfl, .inl (s.seq hF), .ofInts _⟩
    | dK hF ra =>
      rename_i kvs ds'
      cases kvs with
      | nil => simp [RV.seq] at e
      | cons p r =>
        cases ds' with
        | nil => simp [RV.seq] at e
        | cons d1 dr =>
          obtain ⟨k, v⟩ := p
          cases k <;> simp [RV.seq, keyD] at e
    | dT hF ra =>
      rename_i kvs ds'
      cases kvs with
      | nil => simp [RV.seq] at e
      | cons p r =>
        cases ds' with
        | nil => simp [RV.seq] at e
        | cons d1 dr => simp [RV.seq, keysD] at e
    | _ => simp [RV.seq] at e
  | own f h q =>
    cases q <;> simp only [RV.seq] at e <;> cases e
    exact ⟨_, _, rfl, .inl (SqL.of h), by assumption⟩
/-- scalars need no heap -/
theorem rp_scal {F' : Hp} {d : PyData} (s : scalD d = true) (h : Rp K F x d) : Rp K F' x d := by
  cases d <;> simp [scalD] at s <;> cases h <;> first | exact .non | exact .bl _ | exact .int _ | exact .str _
end
section
variable {X : Cx}
theorem newFz {d : PyData} {v : V} {H H' : Hp} : New (.fz d) v H H' := fun _ h => h.elim
theorem newOl {ds : List PyData} {p : Addr} {H H' : Hp} (h : H p = none) : New (.ol ds) (.ref p) H H' := fun q e => by cases e; exact h
/-- the view of a new list -/
theorem viewNew {K : PySem.W.Frag} {F H : Hp} {p : Addr} {vs : List V} {ds : List PyData} (s : Same F H) (n : H p = none) (r : RpAll K F vs ds) : Ext F H F (upd H p (.lst vs)) ∧ View K F (upd H p (.lst vs)) (.ref p) (.ol ds) :=
  ⟨Ext.lay0 s n, .own (s.free n) upd_same (.lst r)⟩
/-- a new tuple, frozen at once -/
theorem viewTup {K : PySem.W.Frag} {F H : Hp} {p : Addr} {o : Obj} {vs : List V} {ds : List PyData} (s : Same F H) (q : TupO o) (n : H p = none) (r : RpAll K F vs ds) : Ext F H (upd F p (.frz o (.tup vs))) (upd H p (.frz o (.tup vs))) ∧ View K (upd F p (.frz o (.tup vs))) (upd H p (.frz o (.tup vs))) (.ref p) (.fz (.tuple ds)) :=
  ⟨Ext.lay s n, .fz (.tup (TupN.of q upd_same) (r.mono (Same.upd (s.free n))))⟩
theorem r_add : OpR X (binaryOp .Add) (r2S X.K (binD .add)) := by
  intro pins s σ H x y v u Q I rx ry h
  obtain ⟨F, a, b, r, sf, wa, wb, h, k⟩ := h
  have h : addD a b = some r := h
  unfold addD at h
  split at h
  all_goals first
    | (cases h; done)
    | skip
  · cases h
    obtain rfl := wa.int
    obtain rfl := wb.int
    exact op_add pins s σ H _ _ v u Q I rx ry ⟨_, _, rfl, rfl, k _ F H (.refl sf) (.fz (.int _)) newFz⟩
  · obtain ⟨hl, rfl⟩ := itd h
    obtain rfl := wa.str
    obtain rfl := wb.str
    exact op_add_str pins s σ H _ _ v u Q I rx ry ⟨_, _, rfl, rfl, LIM_ok hl, k _ F H (.refl sf) (.fz (.str _)) newFz⟩
  · obtain ⟨hl, rfl⟩ := itd h
    cases wa.rpF with
    | tup ta ra =>
      cases wb.rpF with
      | tup tb rb =>
        refine op_catN pins s σ H _ _ v u Q I rx ry ⟨_, _, _, _, rfl, rfl, Same.sqT sf ta.sqT, Same.sqT sf tb.sqT, ?_, fun e => ?_, fun _ e => ?_, fun _ _ p o qo n => ?_⟩
        · rw [ra.length, rb.length]; exact LIM_ok hl
        · subst e; cases ra; exact k _ F H (.refl sf) (.fz (.tup tb rb)) newFz
        · subst e; cases rb
          rw [List.append_nil] at k
          exact k _ F H (.refl sf) (.fz (.tup ta ra)) newFz
        · obtain ⟨x1, w1⟩ := viewTup (K := X.K) sf qo n (ra.append rb)
          exact k _ _ _ x1 w1 newFz
  all_goals
    obtain ⟨hl, rfl⟩ := itd h
    obtain ⟨p, vs, rfl, hp, rp⟩ := wa.lstv sf rfl
    obtain ⟨q, ws, rfl, hq, rq⟩ := wb.lstv sf rfl
    refine op_cat pins s σ H _ _ v u Q I rx ry ⟨_, _, _, _, rfl, rfl, hp, hq, by rw [rp.length, rq.length]; exact LIM_ok hl, fun p n => ?_⟩
    obtain ⟨x1, w1⟩ := viewNew (K := X.K) sf n (rp.append rq)
    exact k _ _ _ x1 w1 (newOl n)

theorem smallI_ok {i j : Int} (h : (smallI i || smallI j) = true) : CMul i j := by
  simp only [smallI, Bool.or_eq_true, Bool.and_eq_true, decide_eq_true_eq] at h
  rcases h with ⟨h1, h2⟩ | ⟨h1, h2⟩
  · exact .inl ⟨by omega, by omega⟩
  · exact .inr ⟨by omega, by omega⟩
theorem r_mul : OpR X (binaryOp .Mult) (r2S X.K (binD .mul)) := by
  intro pins s σ H x y v u Q I rx ry h
  obtain ⟨F, a, b, r, sf, wa, wb, h, k⟩ := h
  have h : mulD a b = some r := h
  unfold mulD at h
  split at h
  all_goals first
    | (cases h; done)
    | skip
  · obtain ⟨hl, rfl⟩ := itd h
    obtain rfl := wa.int
    obtain rfl := wb.int
    exact op_mul pins s σ H _ _ v u Q I rx ry ⟨_, _, rfl, rfl, smallI_ok hl, k _ F H (.refl sf) (.fz (.int _)) newFz⟩
  · obtain ⟨⟨h1, h2, h3⟩, rfl⟩ := itd h
    cases wa.rpF with
    | tup ta ra =>
      obtain rfl := wb.int
      refine op_repA pins s σ H _ _ v u Q I rx ry ⟨_, _, _, rfl, rfl, Same.sqT sf ta.sqT, h1, h2, by rw [ra.length]; exact h3, fun e => ?_, fun _ p o qo n => ?_⟩
      · rcases e with rfl | rfl
        · cases ra
          rename_i kk _ _
          have e0 : (List.replicate kk.toNat ([] : List PyData)).flatten = [] := by
            generalize kk.toNat = m
            induction m with
            | zero => rfl
            | succ m ih => rw [List.replicate_succ, List.flatten_cons, ih]; rfl
          rw [e0] at k
          exact k _ F H (.refl sf) (.fz (.tup ta .nil)) newFz
        · have e1 : ∀ ys : List PyData, (List.replicate (1 : Int).toNat ys).flatten = ys := fun ys => List.append_nil ys
          rw [e1] at k
          exact k _ F H (.refl sf) (.fz (.tup ta ra)) newFz
      · obtain ⟨x1, w1⟩ := viewTup (K := X.K) sf qo n (ra.rep _)
        exact k _ _ _ x1 w1 newFz
  all_goals
    obtain ⟨⟨h1, h2, h3⟩, rfl⟩ := itd h
    obtain ⟨p, vs, rfl, hp, rp⟩ := wa.lstv sf rfl
    obtain rfl := wb.int
    refine op_rep pins s σ H _ _ v u Q I rx ry ⟨_, _, _, rfl, rfl, hp, by omega, by omega, by rw [rp.length]; exact LIM_ok h3, fun p n => ?_⟩
    obtain ⟨x1, w1⟩ := viewNew (K := X.K) sf n (rp.rep _)
    exact k _ _ _ x1 w1 (newOl n)
theorem r_sub : OpR X (binaryOp .Sub) (r2S X.K (binD .sub)) := by
  intro pins s σ H x y v u Q I rx ry h
  obtain ⟨F, a, b, r, sf, wa, wb, h, k⟩ := h
  have h : subD a b = some r := h
  unfold subD at h
  split at h
  all_goals first
    | (cases h; done)
    | skip
  cases h
  obtain rfl := wa.int
  obtain rfl := wb.int
  exact op_sub pins s σ H _ _ v u Q I rx ry ⟨_, _, rfl, rfl, k _ F H (.refl sf) (.fz (.int _)) newFz⟩
theorem r_fdiv : OpR X (binaryOp .FloorDiv) (r2S X.K (binD .fdiv)) := by
  intro pins s σ H x y v u Q I rx ry h
  obtain ⟨F, a, b, r, sf, wa, wb, h, k⟩ := h
  have h : fdivD a b = some r := h
  unfold fdivD at h
  split at h
  all_goals first
    | (cases h; done)
    | skip
  obtain ⟨⟨h1, h2⟩, rfl⟩ := itd h
  obtain rfl := wa.int
  obtain rfl := wb.int
  exact op_fdiv pins s σ H _ _ v u Q I rx ry ⟨_, _, rfl, rfl, ⟨h1, h2⟩, k _ F H (.refl sf) (.fz (.int _)) newFz⟩
theorem r_mod : OpR X (binaryOp .Mod) (r2S X.K (binD .mod)) := by
  intro pins s σ H x y v u Q I rx ry h
  obtain ⟨F, a, b, r, sf, wa, wb, h, k⟩ := h
  have h : modD a b = some r := h
  unfold modD at h
  split at h
  all_goals first
    | (cases h; done)
    | skip
  obtain ⟨h1, rfl⟩ := itd h
  obtain rfl := wa.int
  obtain rfl := wb.int
  exact op_mod pins s σ H _ _ v u Q I rx ry ⟨_, _, rfl, rfl, h1, k _ F H (.refl sf) (.fz (.int _)) newFz⟩
theorem r_pow : OpR X (binaryOp .Pow) (r2S X.K (binD .pow)) := by
  intro pins s σ H x y v u Q I rx ry h
  obtain ⟨F, a, b, r, sf, wa, wb, h, k⟩ := h
  have h : powD a b = some r := h
  unfold powD at h
  split at h
  all_goals first
    | (cases h; done)
    | skip
  obtain ⟨⟨h1, h2, h3⟩, rfl⟩ := itd h
  obtain rfl := wa.int
  obtain rfl := wb.int
  exact op_pow pins s σ H _ _ v u Q I rx ry ⟨_, _, rfl, rfl, ⟨h1, h2, by omega⟩, k _ F H (.refl sf) (.fz (.int _)) newFz⟩
def boO : Bo → Operator
  | .add => .Add
  | .sub => .Sub
  | .mul => .Mult
  | .fdiv => .FloorDiv
  | .mod => .Mod
  | .pow => .Pow
theorem r_bin : ∀ o : Bo, OpR X (binaryOp (boO o)) (r2S X.K (binD o))
  | .add => r_add
  | .sub => r_sub
  | .mul => r_mul
  | .fdiv => r_fdiv
  | .mod => r_mod
  | .pow => r_pow

def r2C (K : PySem.W.Frag) (f : PyData → PyData → Option Bool) : R2 := fun x y H Q => ∃ d e k, Rp K H x d ∧ Rp K H y e ∧ f d e = some k ∧ Q (.bl k) H
def coO : Co → CmpOp
  | .eq => .Eq
  | .ne => .NotEq
  | .lt => .Lt
  | .le => .LtE
  | .gt => .Gt
  | .ge => .GtE
  | .isN => .Is
  | .noN => .IsNot
  | .inn => .In
  | .nin => .NotIn
theorem shp {d : PyData} (h : SeqAt.shaped d = true) : d.canLay0 = true := SeqAt.canLay_of_shaped h
theorem r_eq (hu : X.A.units + 64 < cLine) : OpR X (compareOp .Eq) (r2C X.K (cmpD .eq)) := by
  intro pins s σ H x y v u Q I rx ry h
  obtain ⟨d, e, k, hd, he, h, q⟩ := h
  obtain ⟨hl, rfl⟩ := itd h
  rw [Bool.and_eq_true] at hl
  exact op_eqD hu pins s σ H _ _ v u Q I rx ry ⟨d, e, hd.dp (shp hl.1), he.dp (shp hl.2), hl.1, hl.2, q⟩
theorem r_ne (hu : X.A.units + 64 < cLine) : OpR X (compareOp .NotEq) (r2C X.K (cmpD .ne)) := by
  intro pins s σ H x y v u Q I rx ry h
  obtain ⟨d, e, k, hd, he, h, q⟩ := h
  obtain ⟨hl, rfl⟩ := itd h
  rw [Bool.and_eq_true] at hl
  exact op_neD hu pins s σ H _ _ v u Q I rx ry ⟨d, e, hd.dp (shp hl.1), he.dp (shp hl.2), hl.1, hl.2, q⟩
theorem intsOf_eq : ∀ {ds : List PyData} {ns : List Int}, intsOf ds = some ns → ds = ns.map PyData.int
  | [], ns, h => by cases h; rfl
  | d :: r, ns, h => by
    cases d <;> simp only [intsOf] at h <;> try cases h
    obtain ⟨m, hm, rfl⟩ := mpd h
    rw [intsOf_eq hm]; rfl
theorem boolsOf_eq : ∀ {ds : List PyData} {ns : List Bool}, boolsOf ds = some ns → ds = ns.map PyData.bool
  | [], ns, h => by cases h; rfl
  | d :: r, ns, h => by
    cases d <;> simp only [boolsOf] at h <;> try cases h
    obtain ⟨m, hm, rfl⟩ := mpd h
    rw [boolsOf_eq hm]; rfl
theorem strsOf_eq : ∀ {ds : List PyData} {ns : List Str}, strsOf ds = some ns → ds = ns.map PyData.str
  | [], ns, h => by cases h; rfl
  | d :: r, ns, h => by
    cases d <;> simp only [strsOf] at h <;> try cases h
    obtain ⟨m, hm, rfl⟩ := mpd h
    rw [strsOf_eq hm]; rfl
theorem r_lt (hu : X.A.units < cLine) : OpR X (compareOp .Lt) (r2C X.K (cmpD .lt)) := by
  intro pins s σ H x y v u Q I rx ry h
  obtain ⟨d, e, k, hd, he, h, q⟩ := h
  have h : ltD d e = some k := h
  unfold ltD at h
  split at h
  · cases h
    obtain rfl := hd.intv
    obtain rfl := he.intv
    exact op_lt pins s σ H _ _ v u Q I rx ry ⟨_, _, rfl, rfl, q⟩
  · obtain ⟨ns, h1, h⟩ := bnd h
    obtain ⟨ms, h2, h⟩ := bnd h
    cases h
    obtain rfl := intsOf_eq h1
    obtain rfl := intsOf_eq h2
    cases hd with
    | tup ta ra =>
      cases he with
      | tup tb rb =>
        obtain rfl := ra.ints
        obtain rfl := rb.ints
        exact op_ltT hu pins s σ H _ _ v u Q I rx ry ⟨_, _, _, _, rfl, rfl, ta.sqT, tb.sqT, q⟩
  · cases h
theorem ordD_int {f : Int → Int → Bool} {d e : PyData} {k : Bool} (h : ordD f d e = some k) : ∃ i j, d = .int i ∧ e = .int j ∧ f i j = k := by
  unfold ordD at h
  split at h
  · exact ⟨_, _, rfl, rfl, Option.some.inj h⟩
  · cases h
theorem r_le : OpR X (compareOp .LtE) (r2C X.K (cmpD .le)) := by
  intro pins s σ H x y v u Q I rx ry h
  obtain ⟨d, e, k, hd, he, h, q⟩ := h
  obtain ⟨i, j, rfl, rfl, rfl⟩ := ordD_int h
  obtain rfl := hd.intv
  obtain rfl := he.intv
  exact op_le pins s σ H _ _ v u Q I rx ry ⟨_, _, rfl, rfl, q⟩
theorem r_gt : OpR X (compareOp .Gt) (r2C X.K (cmpD .gt)) := by
  intro pins s σ H x y v u Q I rx ry h
  obtain ⟨d, e, k, hd, he, h, q⟩ := h
  obtain ⟨i, j, rfl, rfl, rfl⟩ := ordD_int h
  obtain rfl := hd.intv
  obtain rfl := he.intv
  exact op_gt pins s σ H _ _ v u Q I rx ry ⟨_, _, rfl, rfl, q⟩
theorem r_ge : OpR X (compareOp .GtE) (r2C X.K (cmpD .ge)) := by
  intro pins s σ H x y v u Q I rx ry h
  obtain ⟨d, e, k, hd, he, h, q⟩ := h
  obtain ⟨i, j, rfl, rfl, rfl⟩ := ordD_int h
  obtain rfl := hd.intv
  obtain rfl := he.intv
  exact op_ge pins s σ H _ _ v u Q I rx ry ⟨_, _, rfl, rfl, q⟩
theorem non_dec {K : PySem.W.Frag} {H : Hp} {x : V} {d : PyData} (h : Rp K H x d) : decide (x = .non) = isNone d := by
  cases h <;> simp [isNone]
theorem r_isN : OpR X (compareOp .Is) (r2C X.K (cmpD .isN)) := by
  intro pins s σ H x y v u Q I rx ry h
  obtain ⟨d, e, k, hd, he, h, q⟩ := h
  cases e <;> simp only [cmpD] at h <;> cases h
  obtain rfl := he.nonv
  exact op_isN pins s σ H _ _ v u Q I rx ry ⟨rfl, by rw [non_dec hd]; exact q⟩
theorem r_noN : OpR X (compareOp .IsNot) (r2C X.K (cmpD .noN)) := by
  intro pins s σ H x y v u Q I rx ry h
  obtain ⟨d, e, k, hd, he, h, q⟩ := h
  cases e <;> simp only [cmpD] at h <;> cases h
  obtain rfl := he.nonv
  exact op_notN pins s σ H _ _ v u Q I rx ry ⟨rfl, by rw [non_dec hd]; exact q⟩
theorem scal_flat {K : PySem.W.Frag} {H : Hp} {x : V} {d : PyData} (h : Rp K H x d) (s : scalD d = true) : flatV x = true := by
  cases h <;> first | rfl | simp [scalD] at s
theorem eqV_eqv {K : PySem.W.Frag} {H : Hp} {x y : V} {d e : PyData} (h : Rp K H x d) (h' : Rp K H y e) (s : scalD d = true) (s' : scalD e = true) : eqV x y = PyData.eqv d e := by
  cases h <;> first | (simp [scalD] at s; done) | (cases h' <;> first | (simp [scalD] at s'; done) | simp [eqV, PyData.eqv])
theorem inV_eq {K : PySem.W.Frag} {H : Hp} {x : V} {d : PyData} (h : Rp K H x d) (s : scalD d = true) : ∀ {vs : List V} {ds : List PyData}, RpAll K H vs ds → ds.all scalD = true → vs.all flatV = true ∧ inV x vs = ds.any fun z => PyData.eqv z d
  | _, _, .nil, _ => ⟨rfl, rfl⟩
  | _, _, .cons r t, e => by
    rw [List.all_cons, Bool.and_eq_true] at e
    obtain ⟨h1, h2⟩ := inV_eq h s t e.2
    refine ⟨by rw [List.all_cons, scal_flat r e.1, h1]; rfl, ?_⟩
    show ((_ :: _).any fun y => eqV y x) = _
    rw [List.any_cons, List.any_cons, eqV_eqv r h e.1 s]
    exact congrArg _ h2
theorem str1 {z : Str} (h : z.cps.size = 1) : z = ⟨#[z.cps.getD 0 0]⟩ := by
  obtain ⟨⟨l⟩⟩ := z
  match l, h with
  | [c], _ => rfl
theorem r_inn (hu : X.A.units + 65 < cLine) : OpR X (compareOp .In) (r2C X.K (cmpD .inn)) := by
  intro pins s σ H x y v u Q I rx ry h
  obtain ⟨d, e, k, hd, he, h, q⟩ := h
  have h : inD d e = some k := h
  unfold inD at h
  split at h
  · obtain ⟨hl, rfl⟩ := itd h
    obtain rfl := hd.strv
    obtain rfl := he.strv
    refine op_in_sign pins s σ H _ _ v u Q I rx ry ⟨_, _, ?_, rfl, q⟩
    exact congrArg _ (str1 hl)
  · obtain ⟨hl, rfl⟩ := itd h
    rw [Bool.and_eq_true] at hl
    exact op_inD hu pins s σ H _ _ v u Q I rx ry ⟨_, _, hd.dp (shp hl.1), he.dp (shp hl.2), hl.1, hl.2, q⟩
  · obtain ⟨hl, rfl⟩ := itd h
    rw [Bool.and_eq_true] at hl
    cases he with
    | tup ta ra =>
      obtain ⟨h1, h2⟩ := inV_eq hd hl.1 ra hl.2
      rw [← h2] at q
      exact op_in_seq pins s σ H _ _ v u Q I rx ry ⟨_, _, rfl, .inr ta.sqT, scal_flat hd hl.1, h1, q⟩
  · cases h
theorem r_nin (hu : X.A.units + 65 < cLine) : OpR X (compareOp .NotIn) (r2C X.K (cmpD .nin)) := by
  intro pins s σ H x y v u Q I rx ry h
  obtain ⟨d, e, k, hd, he, h, q⟩ := h
  have h : (inD d e).map not = some k := h
  obtain ⟨k', h', rfl⟩ := mpd h
  unfold inD at h'
  replace h := h'
  split at h
  · obtain ⟨hl, rfl⟩ := itd h
    obtain rfl := hd.strv
    obtain rfl := he.strv
    refine op_notIn_sign pins s σ H _ _ v u Q I rx ry ⟨_, _, ?_, rfl, q⟩
    exact congrArg _ (str1 hl)
  · obtain ⟨hl, rfl⟩ := itd h
    rw [Bool.and_eq_true] at hl
    exact op_notInD hu pins s σ H _ _ v u Q I rx ry ⟨_, _, hd.dp (shp hl.1), he.dp (shp hl.2), hl.1, hl.2, q⟩
  · obtain ⟨hl, rfl⟩ := itd h
    rw [Bool.and_eq_true] at hl
    cases he with
    | tup ta ra =>
      obtain ⟨h1, h2⟩ := inV_eq hd hl.1 ra hl.2
      rw [← h2] at q
      exact op_notIn_seq pins s σ H _ _ v u Q I rx ry ⟨_, _, rfl, .inr ta.sqT, scal_flat hd hl.1, h1, q⟩
  · cases h
theorem r_cmp (hu : X.A.units + 65 < cLine) : ∀ o : Co, OpR X (compareOp (coO o)) (r2C X.K (cmpD o))
  | .eq => r_eq (by omega)
  | .ne => r_ne (by omega)
  | .lt => r_lt (by omega)
  | .le => r_le
  | .gt => r_gt
  | .ge => r_ge
  | .isN => r_isN
  | .noN => r_noN
  | .inn => r_inn hu
  | .nin => r_nin hu

theorem atI_rp {K : PySem.W.Frag} {F : Hp} {vs : List V} {ds : List PyData} {i : Int} {d : PyData} (r : RpAll K F vs ds) (h : atI ds i = some d) : ∃ v, atI vs i = some v ∧ Rp K F v d := by
  unfold atI at h ⊢
  obtain ⟨j, h1, h2⟩ := bnd h
  rw [r.length, h1, Option.bind_some]
  exact r.getD h2
theorem r_ix : IxR X (r2S X.K idxD) := by
  intro a b pins s σ H x y v u Q I rx ry h
  obtain ⟨F, a', b', r, sf, wa, wb, h, k⟩ := h
  unfold idxD at h
  split at h
  · obtain ⟨hl, h⟩ := itd' h
    obtain ⟨c, hc, rfl⟩ := mpd h
    obtain rfl := wa.str
    obtain rfl := wb.int
    exact ix_str a b pins s σ H _ _ v u Q I rx ry ⟨_, _, c, rfl, rfl, LIM_ok hl, hc, k _ F H (.refl sf) (.fz (.str _)) newFz⟩
  · obtain ⟨ds, hds, h⟩ := bnd h
    obtain ⟨d, hd, rfl⟩ := mpd h
    obtain ⟨p, vs, rfl, hp, rp⟩ := wa.seqv sf hds
    obtain rfl := wb.int
    obtain ⟨w, hw, rw'⟩ := atI_rp rp hd
    have q := k w F H (.refl sf) (.fz rw') newFz
    rcases hp with hp | hp
    · exact ix_list a b pins s σ H _ _ v u Q I rx ry ⟨p, vs, _, w, rfl, rfl, hp, hw, q⟩
    · exact ix_tup a b pins s σ H _ _ v u Q I rx ry ⟨p, vs, _, w, rfl, rfl, hp, hw, q⟩
  · cases h
def rSS (K : PySem.W.Frag) : V → Option Int → Option Int → Hp → VK → Prop := fun x lo hi H Q => ∃ F a r, Same F H ∧ View K F H x a ∧ slcD a lo hi = some r ∧ ∀ v F' H', Ext F H F' H' → View K F' H' v r → New r v H H' → Q v H'
theorem RpAll.cut {K : PySem.W.Frag} {F : Hp} {vs : List V} {ds : List PyData} (r : RpAll K F vs ds) (lo hi : Option Int) : RpAll K F (cutV vs lo hi) (cutD ds lo hi) := by
  unfold cutV cutD
  rw [r.length]
  exact (r.drop _).take _
theorem r_sl : SlR X (rSS X.K) := by
  intro pins s σ H x v vl vu lo hi sl Q I rx hs pl pu h
  obtain ⟨F, a, r, sf, wa, h, k⟩ := h
  unfold slcD at h
  split at h
  · cases h
    obtain ⟨p, vs, rfl, hp, rp⟩ := wa.lstv sf rfl
    refine sl_list pins s σ H _ v vl vu lo hi sl Q I rx hs pl pu ⟨p, vs, rfl, SqL.of hp, fun q n => ?_⟩
    obtain ⟨x1, w1⟩ := viewNew (K := X.K) sf n (rp.cut lo hi)
    exact k _ _ _ x1 w1 (newOl n)
  · cases h
    obtain ⟨p, vs, rfl, hp, rp⟩ := wa.lstv sf rfl
    refine sl_list pins s σ H _ v vl vu lo hi sl Q I rx hs pl pu ⟨p, vs, rfl, SqL.of hp, fun q n => ?_⟩
    obtain ⟨x1, w1⟩ := viewNew (K := X.K) sf n (rp.cut lo hi)
    exact k _ _ _ x1 w1 (newOl n)
  · cases h
    cases wa.rpF with
    | tup ta ra =>
      refine sl_tupN pins s σ H _ v vl vu lo hi sl Q I rx hs pl pu ⟨_, _, rfl, Same.sqT sf ta.sqT, fun e => ?_, fun _ q o qo n => ?_⟩
      · have e2 := ra.cut lo hi
        unfold cutV at e2
        rw [e.1, e.2, Nat.sub_zero, List.drop_zero, List.take_length] at e2
        exact k _ F H (.refl sf) (.fz (.tup ta e2)) newFz
      · obtain ⟨x1, w1⟩ := viewTup (K := X.K) sf qo n (ra.cut lo hi)
        exact k _ _ _ x1 w1 newFz
  · obtain ⟨hl, rfl⟩ := itd h
    obtain rfl := wa.str
    exact sl_str pins s σ H _ v vl vu lo hi sl Q I rx hs pl pu ⟨_, rfl, LIM_ok hl, k _ F H (.refl sf) (.fz (.str _)) newFz⟩
  · cases h

def tyN : Ty → String
  | .int => "int"
  | .bool => "bool"
  | .str => "str"
  | .list => "list"
  | .tuple => "tuple"
  | .dict => "dict"
def dTy : PyData → String
  | .none => "NoneType"
  | .bool _ => "bool"
  | .int _ => "int"
  | .str _ => "str"
  | .list _ => "list"
  | .tuple _ => "tuple"
  | .dict _ => "dict"
theorem kit_isD (d : PyData) (t : Ty) : kitB (dTy d) (tyN t) = some (isD t d) := by
  cases d <;> cases t <;> (simp only [dTy, tyN, isD]; decide +kernel)
theorem rp_ty {K : PySem.W.Frag} {H : Hp} {x : V} {d : PyData} (h : Rp K H x d) (n : notScr d = true) : TyX K H x (.type (dTy d)) := by
  cases h with
  | non => exact .base .non
  | bl b => exact .base (.bl b)
  | int i => exact .base (.int i)
  | str z => exact .base (.str z)
  | lst a r => exact .base (.lst a)
  | scr a => simp [notScr] at n
  | xc0 _ _ => simp [notScr] at n
  | xc1 _ _ _ _ => simp [notScr] at n
  | tup a r =>
    rcases a.sqT with (a | ⟨o, a⟩) | ⟨o, its, m, a, c, _⟩
    · exact .base (.tup a)
    · exact .fTuple a
    · exact .kTuple a c
  | dK a r => exact .base (.dK a)
  | dT a r => exact .base (.dT a)
theorem minI_ok : ∀ {ns : List Int} {m : Int}, minI ns = some m → 0 < ns.length ∧ ∀ k, k ∈ ns → (∀ y, y ∈ ns → k ≤ y) → k = m
  | [], m, h => by cases h
  | [x], m, h => by
    cases h
    exact ⟨by simp, fun k hk _ => by simpa using hk⟩
  | x :: y :: r, m, h => by
    obtain ⟨m', h1, h2⟩ := mpd (show ((minI (y :: r)).map fun m => if m < x then m else x) = some m from h)
    have mm : ∀ {l : List Int} {m : Int}, minI l = some m → m ∈ l ∧ ∀ z ∈ l, m ≤ z := by
      intro l
      induction l with
      | nil => intro m h; cases h
      | cons a l ih =>
        intro m h
        cases l with
        | nil => cases h; exact ⟨by simp, fun z hz => by simp at hz; omega⟩
        | cons b l =>
          obtain ⟨m2, q1, q2⟩ := mpd (show ((minI (b :: l)).map fun m => if m < a then m else a) = some m from h)
          obtain ⟨i1, i2⟩ := ih q1
          by_cases c : m2 < a
          · rw [if_pos c] at q2
            subst q2
            exact ⟨List.mem_cons_of_mem _ i1, fun z hz => by
              rcases List.mem_cons.mp hz with rfl | hz
              · omega
              · exact i2 z hz⟩
          · rw [if_neg c] at q2
            subst q2
            exact ⟨by simp, fun z hz => by
              rcases List.mem_cons.mp hz with rfl | hz
              · omega
              · have := i2 z hz; omega⟩
    obtain ⟨i1, i2⟩ := mm h
    refine ⟨by simp, fun k hk hy => ?_⟩
    have a1 := hy m i1
    have a2 := i2 k hk
    omega
theorem maxI_ok {ns : List Int} {m : Int} (h : maxI ns = some m) : 0 < ns.length ∧ ∀ k, k ∈ ns → (∀ y, y ∈ ns → y ≤ k) → k = m := by
  have mm : ∀ {l : List Int} {m : Int}, maxI l = some m → m ∈ l ∧ ∀ z ∈ l, z ≤ m := by
    intro l
    induction l with
    | nil => intro m h; cases h
    | cons a l ih =>
      intro m h
      cases l with
      | nil => cases h; exact ⟨by simp, fun z hz => by simp at hz; omega⟩
      | cons b l =>
        obtain ⟨m2, q1, q2⟩ := mpd (show ((maxI (b :: l)).map fun m => if a < m then m else a) = some m from h)
        obtain ⟨i1, i2⟩ := ih q1
        by_cases c : a < m2
        · rw [if_pos c] at q2
          subst q2
          exact ⟨List.mem_cons_of_mem _ i1, fun z hz => by
            rcases List.mem_cons.mp hz with rfl | hz
            · omega
            · exact i2 z hz⟩
        · rw [if_neg c] at q2
          subst q2
          exact ⟨by simp, fun z hz => by
            rcases List.mem_cons.mp hz with rfl | hz
            · omega
            · have := i2 z hz; omega⟩
  obtain ⟨i1, i2⟩ := mm h
  refine ⟨List.length_pos_of_mem i1, fun k hk hy => ?_⟩
  have a1 := hy m i1
  have a2 := i2 k hk
  omega
theorem views1 {K : PySem.W.Frag} {F H : Hp} {xs : List V} {r : RV} (h : Views K F H xs [r]) : ∃ x, xs = [x] ∧ View K F H x r := by
  cases h with
  | cons a b => cases b; exact ⟨_, rfl, a⟩
theorem views2 {K : PySem.W.Frag} {F H : Hp} {xs : List V} {r r' : RV} (h : Views K F H xs [r, r']) : ∃ x y, xs = [x, y] ∧ View K F H x r ∧ View K F H y r' := by
  cases h with
  | cons a b => cases b with | cons c d => cases d; exact ⟨_, _, rfl, a, c⟩
def biV : Bi → Value
  | .len => .builtin "len"
  | .sum => .builtin "sum"
  | .min2 => .builtin "min"
  | .max2 => .builtin "max"
  | .minL => .builtin "min"
  | .maxL => .builtin "max"
  | .any => .builtin "any"
  | .all => .builtin "all"
  | .int => .type "int"
  | .str => .type "str"
  | .tup => .type "tuple"
  | .list => .type "list"
  | .sorted => .builtin "sorted"
  | .isI _ => .builtin "isinstance"
theorem b_len : CallR X (.builtin "len") (rnS X.K (biD .len)) := by
  intro pins s σ H xs us Q I rs h
  obtain ⟨F, rv, r, sf, ws, h, k⟩ := h
  unfold biD at h
  split at h <;> try (first | contradiction | (cases h; done) | (rename_i e; cases e; done))
  · obtain ⟨hl, rfl⟩ := itd h
    obtain ⟨x, rfl, w⟩ := views1 ws
    obtain rfl := w.str
    exact call_len_str pins s σ H _ us Q I rs ⟨_, rfl, LIM_ok hl, k _ F H (.refl sf) (.fz (.int _)) newFz⟩
  · obtain ⟨ds, hd, rfl⟩ := mpd h
    obtain ⟨x, rfl, w⟩ := views1 ws
    obtain ⟨p, vs, rfl, hp, rp⟩ := w.seqv sf hd
    exact call_len_seq pins s σ H _ us Q I rs ⟨p, vs, rfl, hp, by rw [rp.length]; exact k _ F H (.refl sf) (.fz (.int _)) newFz⟩
theorem sum_tupR {prog : Program} {w : World} {A : Around} {E : Value → Shared → Prop} {s : Shared} {l : Addr} {its : List Value} {ns : List Int} {Q : Value → Shared → Prop} (hh : A.handled = none) (hl : s.heap.IsTuple l its.toArray) (hi : IntsAre its ns)
    (h : ∀ h' tk t', (∀ b o, s.heap.get? b = some o → h'.get? b = some o) → Q (.int ns.sum t') { s with heap := h', toks := tk }) : wpAny (model prog w) A (call (.builtin "sum") [.ref l]) Q E s := by
  obtain ⟨xs, e⟩ := hi.allInts.items
  have hn : numsOf (intItems xs).toList = ns := by rw [← e]; exact hi.numsOf
  rw [nums_intItems] at hn
  rw [e] at hl
  refine PySem.W.ktm_sumG hh hl fun h' tk t' hk => ?_
  have := h h' tk t' hk
  rw [preSum_eq, List.take_of_length_le (by simp), hn]; exact this
theorem cr_sumT (hc : X.calm = true) : CallR X (.builtin "sum") (fun vs H Q => ∃ (a : Addr) (ns : List Int), vs = [V.ref a] ∧ (SqL X.K H a (ns.map V.int) ∨ SqT X.K H a (ns.map V.int)) ∧ Q (.int ns.sum) H) := by
  intro pins s σ H vs us Q I r h
  obtain ⟨a, ns, rfl, hs | hs, q⟩ := h
  · exact cr_sum hc pins s σ H _ us Q I r ⟨a, ns, rfl, hs, q⟩
  · obtain ⟨its, rv, hl, _⟩ := I.tuple hs
    rw [Vals.ref1 r]
    obtain ⟨o, ho, hcl, n, hd⟩ := hl
    exact sum_tupR (I.ok.hd hc) ⟨o, ho, hcl, n, hd⟩ rv.ints fun h' tk t' hk => ⟨.int _, H, I.kept hk, ⟨_, rfl⟩, q⟩
theorem b_sum (hc : X.calm = true) : CallR X (.builtin "sum") (rnS X.K (biD .sum)) := by
  intro pins s σ H xs us Q I rs h
  obtain ⟨F, rv, r, sf, ws, h, k⟩ := h
  unfold biD at h
  split at h <;> try (first | contradiction | (cases h; done) | (rename_i e; cases e; done))
  obtain ⟨ns, hn, rfl⟩ := mpd h
  obtain ⟨ds, hd, hn⟩ := bnd hn
  obtain rfl := intsOf_eq hn
  obtain ⟨x, rfl, w⟩ := views1 ws
  obtain ⟨p, vs, rfl, hp, rp⟩ := w.seqv sf hd
  obtain rfl := rp.ints
  exact cr_sumT hc pins s σ H _ us Q I rs ⟨p, ns, rfl, hp, k _ F H (.refl sf) (.fz (.int _)) newFz⟩
theorem b_min2 (hc : X.calm = true) : CallR X (.builtin "min") (rnS X.K (biD .min2)) := by
  intro pins s σ H xs us Q I rs h
  obtain ⟨F, rv, r, sf, ws, h, k⟩ := h
  unfold biD at h
  split at h <;> try (first | contradiction | (cases h; done) | (rename_i e; cases e; done))
  cases h
  obtain ⟨x, y, rfl, w, w'⟩ := views2 ws
  obtain rfl := w.int
  obtain rfl := w'.int
  exact call_min2 hc pins s σ H _ us Q I rs ⟨_, _, rfl, k _ F H (.refl sf) (.fz (.int _)) newFz⟩
theorem b_max2 (hc : X.calm = true) : CallR X (.builtin "max") (rnS X.K (biD .max2)) := by
  intro pins s σ H xs us Q I rs h
  obtain ⟨F, rv, r, sf, ws, h, k⟩ := h
  unfold biD at h
  split at h <;> try (first | contradiction | (cases h; done) | (rename_i e; cases e; done))
  cases h
  obtain ⟨x, y, rfl, w, w'⟩ := views2 ws
  obtain rfl := w.int
  obtain rfl := w'.int
  exact call_max2 hc pins s σ H _ us Q I rs ⟨_, _, rfl, k _ F H (.refl sf) (.fz (.int _)) newFz⟩
theorem b_minL (hc : X.calm = true) : CallR X (.builtin "min") (rnS X.K (biD .minL)) := by
  intro pins s σ H xs us Q I rs h
  obtain ⟨F, rv, r, sf, ws, h, k⟩ := h
  unfold biD at h
  split at h <;> try (first | contradiction | (cases h; done) | (rename_i e; cases e; done))
  obtain ⟨m, hm, rfl⟩ := mpd h
  obtain ⟨ns, hn, hm⟩ := bnd hm
  obtain ⟨ds, hd, hn⟩ := bnd hn
  obtain rfl := intsOf_eq hn
  obtain ⟨x, rfl, w⟩ := views1 ws
  obtain ⟨p, vs, rfl, hp, rp⟩ := w.lstv sf hd
  obtain rfl := rp.ints
  obtain ⟨h0, h1⟩ := minI_ok hm
  exact cr_min hc pins s σ H _ us Q I rs ⟨p, ns, rfl, SqL.of hp, h0, fun m' hm' hy => by rw [h1 m' hm' hy]; exact k _ F H (.refl sf) (.fz (.int _)) newFz⟩
theorem b_maxL (hc : X.calm = true) : CallR X (.builtin "max") (rnS X.K (biD .maxL)) := by
  intro pins s σ H xs us Q I rs h
  obtain ⟨F, rv, r, sf, ws, h, k⟩ := h
  unfold biD at h
  split at h <;> try (first | contradiction | (cases h; done) | (rename_i e; cases e; done))
  obtain ⟨m, hm, rfl⟩ := mpd h
  obtain ⟨ns, hn, hm⟩ := bnd hm
  obtain ⟨ds, hd, hn⟩ := bnd hn
  obtain rfl := intsOf_eq hn
  obtain ⟨x, rfl, w⟩ := views1 ws
  obtain ⟨p, vs, rfl, hp, rp⟩ := w.lstv sf hd
  obtain rfl := rp.ints
  obtain ⟨h0, h1⟩ := maxI_ok hm
  exact cr_max hc pins s σ H _ us Q I rs ⟨p, ns, rfl, SqL.of hp, h0, fun m' hm' hy => by rw [h1 m' hm' hy]; exact k _ F H (.refl sf) (.fz (.int _)) newFz⟩
theorem truth_ints {prog : Program} {w : World} {A : Around} {ns : List Int} {its : List Value} (e : IntsAre its ns) :
    TruthOf prog w A (fun i v => its.toArray[i]? = some v) (fun i => ns.getD i 0 != 0) := fun i v s Q E hv hq => by
  have hv' : its[i]? = some v := by simpa using hv
  obtain ⟨n, t, rfl, hn⟩ := e.at i v hv'
  have hg : (ns.getD i 0 != 0) = (n != 0) := by rw [List.getD_eq_getElem?_getD, hn]; rfl
  have hq' : Q (ns.getD i 0 != 0) s := hq
  rw [hg] at hq'
  exact PySem.P.truthy_int hq'
theorem any_rangeI : ∀ ns : List Int, (List.range ns.length).any (fun i => ns.getD i 0 != 0) = ns.any (fun i => i != 0)
  | [] => rfl
  | b :: bs => by
    rw [List.length_cons, List.range_succ_eq_map, List.any_cons, List.any_map, List.any_cons, ← any_rangeI bs]
    all_goals rfl
theorem cr_anyI (hc : X.calm = true) : CallR X (.builtin "any") (fun vs H Q => ∃ (a : Addr) (ns : List Int), vs = [V.ref a] ∧ (SqL X.K H a (ns.map V.int) ∨ SqT X.K H a (ns.map V.int)) ∧ Q (.bl (ns.any fun i => i != 0)) H) := by
  intro pins s σ H vs us Q I r h
  obtain ⟨a, ns, rfl, hs | hs, q⟩ := h
  · obtain ⟨its, rv, hl, _⟩ := I.list hs
    rw [Vals.ref1 r]
    have hi := rv.ints
    refine call_any_walk (iter_any hl.isList fun s₂ e2 st hne => ?_)
    subst e2
    refine ⟨_, _, _, _, _, _, _, rfl, Walks.list (A := X.A.in1) (I.ok.hd hc) _ a hne its.toArray, st, truth_ints hi, fun h' tk hk => ?_⟩
    refine ⟨.bl _, H, I.kept fun b o eo => hk b o (fun hmem => ?_) (Heap.get?_push_of_some _ eo), ?_, q⟩
    · rcases List.mem_cons.mp hmem with e1 | hmem
      · exact absurd (e1 ▸ Heap.lt_size eo) (Nat.lt_irrefl _)
      · cases hmem
    · show Value.bool _ = Value.bool _
      rw [← any_rangeI, List.size_toArray, ← rv.length, List.length_map]
  · obtain ⟨its, rv, hl, _⟩ := I.tuple hs
    rw [Vals.ref1 r]
    have hi := rv.ints
    obtain ⟨o, ho, hcl, n, hd⟩ := hl
    have ht : s.heap.IsTuple a its.toArray := ⟨o, ho, hcl, n, hd⟩
    have hne : a ≠ s.heap.objs.size := Nat.ne_of_lt (Heap.lt_size ho)
    refine call_any_walk (wpAny_pyIter_tuple ht ?_)
    refine ⟨s.heap.objs.size, _, _, _, _, _, _, rfl, Walks.tuple (A := X.A.in1) (I.ok.hd hc) _ a hne its.toArray, ⟨⟨_, Heap.get?_push_size _ rfl, rfl, rfl⟩, ht.at fun o e => Heap.get?_push_of_some _ e⟩, truth_ints hi, fun h' tk hk => ?_⟩
    refine ⟨.bl _, H, I.kept fun b o eo => hk b o (fun hmem => ?_) (Heap.get?_push_of_some _ eo), ?_, q⟩
    · rcases List.mem_cons.mp hmem with e1 | hmem
      · exact absurd (e1 ▸ Heap.lt_size eo) (Nat.lt_irrefl _)
      · cases hmem
    · show Value.bool _ = Value.bool _
      rw [← any_rangeI, List.size_toArray, ← rv.length, List.length_map]
theorem b_any (hc : X.calm = true) : CallR X (.builtin "any") (rnS X.K (biD .any)) := by
  intro pins s σ H xs us Q I rs h
  obtain ⟨F, rv, r, sf, ws, h, k⟩ := h
  unfold biD at h
  split at h <;> try (first | contradiction | (cases h; done) | (rename_i e; cases e; done))
  obtain ⟨x, rfl, w⟩ := views1 ws
  split at h
  · rename_i ns hn
    cases h
    obtain ⟨ds, hd, hn⟩ := bnd hn
    obtain rfl := boolsOf_eq hn
    obtain ⟨p, vs, rfl, hp, rp⟩ := w.lstv sf hd
    obtain rfl := rp.bools
    exact cr_any hc pins s σ H _ us Q I rs ⟨p, ns, rfl, SqL.of hp, k _ F H (.refl sf) (.fz (.bl _)) newFz⟩
  · obtain ⟨ns, hn, rfl⟩ := mpd h
    obtain ⟨ds, hd, hn⟩ := bnd hn
    obtain rfl := intsOf_eq hn
    obtain ⟨p, vs, rfl, hp, rp⟩ := w.seqv sf hd
    obtain rfl := rp.ints
    exact cr_anyI hc pins s σ H _ us Q I rs ⟨p, ns, rfl, hp, k _ F H (.refl sf) (.fz (.bl _)) newFz⟩
theorem b_all (hc : X.calm = true) : CallR X (.builtin "all") (rnS X.K (biD .all)) := by
  intro pins s σ H xs us Q I rs h
  obtain ⟨F, rv, r, sf, ws, h, k⟩ := h
  unfold biD at h
  split at h <;> try (first | contradiction | (cases h; done) | (rename_i e; cases e; done))
  obtain ⟨ns, hn, rfl⟩ := mpd h
  obtain ⟨ds, hd, hn⟩ := bnd hn
  obtain rfl := boolsOf_eq hn
  obtain ⟨x, rfl, w⟩ := views1 ws
  obtain ⟨p, vs, rfl, hp, rp⟩ := w.lstv sf hd
  obtain rfl := rp.bools
  exact cr_all hc pins s σ H _ us Q I rs ⟨p, ns, rfl, SqL.of hp, k _ F H (.refl sf) (.fz (.bl _)) newFz⟩
theorem b_int : CallR X (.type "int") (rnS X.K (biD .int)) := by
  intro pins s σ H xs us Q I rs h
  obtain ⟨F, rv, r, sf, ws, h, k⟩ := h
  unfold biD at h
  split at h <;> try (first | contradiction | (cases h; done) | (rename_i e; cases e; done))
  · cases h
    obtain ⟨x, rfl, w⟩ := views1 ws
    obtain rfl := w.int
    exact call_int1 pins s σ H _ us Q I rs (.inl ⟨_, rfl, k _ F H (.refl sf) (.fz (.int _)) newFz⟩)
  · cases h
    obtain ⟨x, rfl, w⟩ := views1 ws
    obtain rfl := w.bool
    exact call_int1 pins s σ H _ us Q I rs (.inr ⟨_, rfl, k _ F H (.refl sf) (.fz (.int _)) newFz⟩)
  · obtain ⟨hl, h⟩ := itd' h
    obtain ⟨n, hn, rfl⟩ := mpd h
    obtain ⟨x, rfl, w⟩ := views1 ws
    obtain rfl := w.str
    exact call_int_str pins s σ H _ us Q I rs ⟨_, n, rfl, hn, hl, k _ F H (.refl sf) (.fz (.int _)) newFz⟩
theorem b_str : CallR X (.type "str") (rnS X.K (biD .str)) := by
  intro pins s σ H xs us Q I rs h
  obtain ⟨F, rv, r, sf, ws, h, k⟩ := h
  unfold biD at h
  split at h <;> try (first | contradiction | (cases h; done) | (rename_i e; cases e; done))
  obtain ⟨hl, rfl⟩ := itd h
  obtain ⟨x, rfl, w⟩ := views1 ws
  obtain rfl := w.int
  exact call_str_int pins s σ H _ us Q I rs ⟨_, rfl, hl, k _ F H (.refl sf) (.fz (.str _)) newFz⟩
theorem b_tup : CallR X (.type "tuple") (rnS X.K (biD .tup)) := by
  intro pins s σ H xs us Q I rs h
  obtain ⟨F, rv, r, sf, ws, h, k⟩ := h
  unfold biD at h
  split at h <;> try (first | contradiction | (cases h; done) | (rename_i e; cases e; done))
  obtain ⟨ds, hd, rfl⟩ := mpd h
  obtain ⟨x, rfl, w⟩ := views1 ws
  have fin : ∀ {p : Addr} {vs : List V}, SqL X.K H p vs → RpAll X.K F vs ds → Vals [V.ref p] us → wpAny (model X.prog X.w) X.A (call (.type "tuple") us) (EP X pins σ Q) X.xe s := fun {p vs} hp rp rs => by
    refine call_tuple_ofN pins s σ H _ us Q I rs ⟨p, vs, rfl, .inl ⟨hp, fun l o qo n => ?_⟩⟩
    obtain ⟨x1, w1⟩ := viewTup (K := X.K) sf qo n rp
    exact k _ _ _ x1 w1 newFz
  cases w with
  | fz q =>
    cases q with
    | tup ta ra =>
      cases hd
      exact call_tuple_ofN pins s σ H _ us Q I rs ⟨_, _, rfl, .inr ⟨Same.sqT sf ta.sqT, k _ F H (.refl sf) (.fz (.tup ta ra)) newFz⟩⟩
    | lst ta ra =>
      cases hd
      exact fin (SqL.of (sf _ _ ta)) ra rs
    | scr ta =>
      cases hd
      exact fin (sf.seq ta) (.ofInts _) rs
    | dK ta ra =>
      obtain ⟨p, vs, e, hp, rp⟩ := (View.fz (H := H) (.dK ta ra)).seqv sf hd
      cases e
      rcases hp with hp | hp
      · exact fin hp rp rs
      · exact False.elim (by
          obtain ⟨its, _, ⟨o, e, c, _⟩, _⟩ := I.tuple hp
          obtain ⟨_, _, _, _, o', _, _, e', ex, _⟩ := I.hok _ _ (sf _ _ ta)
          rw [e] at e'; cases e'
          rw [ex.1] at c
          exact absurd c (by decide +kernel))
    | dT ta ra =>
      obtain ⟨p, vs, e, hp, rp⟩ := (View.fz (H := H) (.dT ta ra)).seqv sf hd
      cases e
      rcases hp with hp | hp
      · exact fin hp rp rs
      · exact False.elim (by
          obtain ⟨its, _, ⟨o, e, c, _⟩, _⟩ := I.tuple hp
          obtain ⟨_, _, _, _, o', _, _, e', ex, _⟩ := I.hok _ _ (sf _ _ ta)
          rw [e] at e'; cases e'
          rw [ex.1] at c
          exact absurd c (by decide +kernel))
    | _ => cases hd
  | own f h2 q =>
    cases q <;> cases hd
    exact fin (SqL.of h2) (by assumption) rs
theorem b_list : CallR X (.type "list") (rnS X.K (biD .list)) := by
  intro pins s σ H xs us Q I rs h
  obtain ⟨F, rv, r, sf, ws, h, k⟩ := h
  unfold biD at h
  split at h <;> try (first | contradiction | (cases h; done) | (rename_i e; cases e; done))
  obtain ⟨ds, hd, rfl⟩ := mpd h
  obtain ⟨x, rfl, w⟩ := views1 ws
  obtain ⟨p, vs, rfl, hp, rp⟩ := w.seqv sf hd
  refine call_list_of pins s σ H _ us Q I rs ⟨p, vs, rfl, hp, fun l n => ?_⟩
  obtain ⟨x1, w1⟩ := viewNew (K := X.K) sf n rp
  exact k _ _ _ x1 w1 (newOl n)
theorem insL_perm {α : Type} (le : α → α → Bool) (p : α) : ∀ l : List α, (insL le p l).Perm (p :: l)
  | [] => .refl _
  | q :: r => by
    unfold insL
    split
    · exact .refl _
    · exact ((insL_perm le p r).cons q).trans (.swap p q r)
theorem isort_perm {α : Type} (le : α → α → Bool) : ∀ l : List α, (isort le l).Perm l
  | [] => .refl _
  | p :: r => (insL_perm le p _).trans ((isort_perm le r).cons p)
theorem insL_srt {α : Type} {le : α → α → Bool} (tot : ∀ a b, le a b = false → le b a = true) (tr : ∀ a b c, le a b = true → le b c = true → le a c = true) (p : α) : ∀ l : List α, l.Pairwise (fun a b => le a b = true) → (insL le p l).Pairwise (fun a b => le a b = true)
  | [], _ => by unfold insL; exact List.pairwise_singleton _ _
  | q :: r, h => by
    unfold insL
    have hq := List.pairwise_cons.mp h
    split
    · rename_i e
      refine List.pairwise_cons.mpr ⟨fun x hx => ?_, h⟩
      rcases List.mem_cons.mp hx with rfl | hx
      · exact e
      · exact tr _ _ _ e (hq.1 x hx)
    · rename_i e
      refine List.pairwise_cons.mpr ⟨fun x hx => ?_, insL_srt tot tr p r hq.2⟩
      rcases List.mem_cons.mp ((insL_perm le p r).mem_iff.mp hx) with rfl | hx
      · exact tot _ _ (by simpa using e)
      · exact hq.1 x hx
theorem isort_srt {α : Type} {le : α → α → Bool} (tot : ∀ a b, le a b = false → le b a = true) (tr : ∀ a b c, le a b = true → le b c = true → le a c = true) : ∀ l : List α, (isort le l).Pairwise (fun a b => le a b = true)
  | [] => .nil
  | p :: r => insL_srt tot tr p _ (isort_srt tot tr r)
theorem leP_iff {p q : Int × Int} : leP p q = true ↔ p.1 < q.1 ∨ (p.1 = q.1 ∧ p.2 ≤ q.2) := by simp [leP]
theorem leP_tot (a b : Int × Int) (h : leP a b = false) : leP b a = true := by
  have : ¬ leP a b = true := by rw [h]; exact Bool.false_ne_true
  rw [leP_iff] at this ⊢
  omega
theorem leP_tr (a b c : Int × Int) (h : leP a b = true) (h' : leP b c = true) : leP a c = true := by
  rw [leP_iff] at *
  omega
theorem leP_anti (a b : Int × Int) (h : leP a b = true) (h' : leP b a = true) : a = b := by
  rw [leP_iff] at *
  exact Prod.ext (by omega) (by omega)
theorem leI_tot (a b : Int) (h : leI a b = false) : leI b a = true := by
  unfold leI at *
  simp at *
  omega
theorem leI_tr (a b c : Int) (h : leI a b = true) (h' : leI b c = true) : leI a c = true := by
  unfold leI at *
  simp at *
  omega
theorem isortP_eq {l m : List (Int × Int)} (h : l.Pairwise (fun a b => leP a b = true)) (p : l.Perm m) : l = isort leP m :=
  List.Perm.eq_of_pairwise (fun a b _ _ x y => leP_anti a b x y) h (isort_srt leP_tot leP_tr m) (p.trans (isort_perm leP m).symm)
theorem isortI_eq {l m : List Int} (h : l.Pairwise (· ≤ ·)) (p : l.Perm m) : l = isort leI m := by
  refine List.Perm.eq_of_pairwise (le := fun a b => leI a b = true) (fun a b _ _ x y => by unfold leI at x y; simp at x y; omega) ?_ (isort_srt leI_tot leI_tr m) (p.trans (isort_perm leI m).symm)
  exact h.imp fun {a b} x => by unfold leI; simpa using x
theorem pairsOf_eq : ∀ {ds : List PyData} {ps : List (Int × Int)}, pairsOf ds = some ps → ds = ps.map encP := by
  intro ds
  induction ds with
  | nil => intro ps h; cases h; rfl
  | cons d r ih =>
    intro ps h
    unfold pairsOf at h
    split at h
    · rename_i e; cases e
    · rename_i e
      cases e
      obtain ⟨q, h1, rfl⟩ := mpd h
      rw [ih h1]
      rfl
    · cases h
open Classical in
noncomputable def keyOf (K : PySem.W.Frag) (H : Hp) (x : V) : Int × Int := if h : ∃ p : Int × Int, ∃ t, x = .ref t ∧ SqT K H t [.int p.1, .int p.2] then h.choose else (0, 0)
theorem keyOf_eq {pins : List (Addr × Obj)} {s : Shared} {σ : L2.St} {H : Hp} (I : Inv X pins σ H s) {t : Addr} {p : Int × Int} (h : SqT X.K H t [.int p.1, .int p.2]) : keyOf X.K H (.ref t) = p := by
  unfold keyOf
  have e : ∃ p : Int × Int, ∃ t', V.ref t = .ref t' ∧ SqT X.K H t' [.int p.1, .int p.2] := ⟨p, t, rfl, h⟩
  rw [dif_pos e]
  obtain ⟨t', e1, e2⟩ := e.choose_spec
  cases e1
  have := I.tuple_inj e2 h
  cases q : e.choose with
  | mk a b =>
    rw [q] at this
    cases this
    rfl
theorem cr_sortedQ : CallR X (.builtin "sorted") (fun vs H Q => ∃ (a : Addr) (xs : List V) (k : V → Int × Int), vs = [V.ref a] ∧ SqL X.K H a xs ∧ (∀ x ∈ xs, ∃ t, x = V.ref t ∧ SqT X.K H t [.int (k x).1, .int (k x).2]) ∧
    ∀ ys p, SrtO.Srtd (ltP k) ys → SrtO.Stb (ltP k) ys xs → H p = none → Q (.ref p) (upd H p (.lst ys))) := by
  intro pins s σ H vs us Q I r h
  obtain ⟨a, xs, k, rfl, hs, hx, q⟩ := h
  obtain ⟨its, rv, hl, hz⟩ := I.list hs
  obtain ⟨u, rfl, ru⟩ := vals1 r
  obtain rfl : u = Value.ref a := ru
  obtain ⟨e1, e2⟩ := refs_back rv fun x m => by
    obtain ⟨t, e, _⟩ := hx x m
    exact ⟨t, e⟩
  refine SrtO.sorted_pairsO (k := fun u => k (backV u)) hl.isList (by rw [← rv.length]; exact hz) (fun v hv => ?_) fun h' d out h1 h2 kp hd hn => ?_
  · obtain ⟨t, rfl⟩ := e2 v hv
    have hm : V.ref t ∈ xs := by rw [e1]; exact List.mem_map.mpr ⟨_, hv, rfl⟩
    obtain ⟨t', e, ht⟩ := hx _ hm
    cases e
    obtain ⟨its2, r2, ⟨o, ho, hc, n, hd⟩, _⟩ := I.tuple ht
    obtain ⟨u1, u2, rfl, ri, rj⟩ := vals2 r2
    obtain ⟨t1, rfl⟩ := ri
    obtain ⟨t2, rfl⟩ := rj
    exact ⟨t, o, t1, t2, n, rfl, ho, hc, hd⟩
  · have h3 : ∀ u ∈ out, ∃ a, u = Value.ref a := fun u hu => e2 u (h2.perm.mem_iff.mp hu)
    obtain ⟨n, hn⟩ := hn
    have hb : SrtO.Stb (ltP k) (out.map backV) xs := by
      rw [e1]
      exact SrtO.Stb.map (ltP_swo k) backV h2
    refine ⟨.ref d, upd H d (.lst (out.map backV)), I.laid (t' := s.toks) kp hd ⟨?_, out, n, vals_back h3, hn⟩, rfl, q _ d (SrtO.srtd_map h1) hb (I.hok.fresh hd)⟩
    rw [hb.len]
    exact hz
def IsKd (h : Heap) (v : Value) (x : Int) : Prop := ∃ a o t b n, v = .ref a ∧ h.get? a = some o ∧ o.cls = .type "tuple" ∧ o.data = .seq #[.int x t, b] n
def ltKd (k : Value → Int) (v u : Value) : Bool := decide (k v < k u)
theorem swo_kd (k : Value → Int) : SrtO.Swo (ltKd k) := by
  refine ⟨fun x y h => ?_, fun x y z h1 h2 => ?_⟩
  · have a := of_decide_eq_true h
    exact decide_eq_false (by omega)
  · have a := of_decide_eq_false h1
    have b := of_decide_eq_false h2
    exact decide_eq_false (by omega)
theorem kd_cmp {prog : Program} {w : World} {A : Around} {s : Shared} {vs : List Value} {k : Value → Int} (hp : ∀ v ∈ vs, IsKd s.heap v (k v)) (inj : ∀ v ∈ vs, ∀ u ∈ vs, k v = k u → v = u) : SrtO.Cmp prog w A s (tuples' true) (fun p => p.1 ∈ vs) (SrtO.lt2 (ltKd k)) := by
  intro p q hm hm'
  have h1 := hp _ hm
  have h2 := hp _ hm'
  have hi := inj _ hm _ hm'
  show wpAny (model prog w) A (keyLt' (tuples' true) p.1 q.1) (fun r s' => s' = s ∧ r = ltKd k p.1 q.1) (fun _ _ => False) s
  unfold ltKd
  generalize k p.1 = x at h1 hi ⊢
  generalize k q.1 = x' at h2 hi ⊢
  obtain ⟨a, o, t, b, n, e, ho, hc, hd⟩ := h1
  obtain ⟨a', o', t', b', n', e', ho', hc', hd'⟩ := h2
  rw [e, e']
  by_cases ex : x = x'
  · have eq := hi ex
    rw [e, e'] at eq
    cases eq
    rw [ho] at ho'
    cases ho'
    rw [hd] at hd'
    injection hd' with q1 q2
    have q3 : [Value.int x t, b] = [Value.int x' t', b'] := congrArg Array.toList q1
    cases q3
    have e3 : decide (x < x) = false := decide_eq_false (by omega)
    rw [e3]
    refine PySem.W.kat_lt ho hd ho hd ?_
    show PySem.W.KatLex prog w A true (decide (2 < 2)) _ [(.int x t, .int x t), (b, b)] 0 s
    refine PySem.W.kat_cons (SeqAt.EqAt.same _ prog w _ _ ?_)
    refine PySem.W.kat_yes (PySem.W.kat_cons (SeqAt.EqAt.same _ prog w _ _ ?_))
    exact PySem.W.kat_yes (PySem.W.kat_nil ⟨rfl, rfl⟩)
  · refine PySem.W.kat_lt ho hd ho' hd' ?_
    show PySem.W.KatLex prog w A true (decide (2 < 2)) _ [(.int x t, .int x' t'), (b, b')] 0 s
    refine PySem.W.kat_cons (SeqAt.EqAt.int_int x t x' t' prog w _ _ ?_)
    refine PySem.W.kat_go (fun e1 => absurd (by simpa using e1) ex) (fun e1 => ?_)
    exact PySem.W.kat_no (oneLt_int ⟨rfl, rfl⟩)
theorem kd_firsts {h : Heap} : ∀ {vs : List Value}, (∀ v ∈ vs, ∃ x, IsKd h v x) → ∃ fs : List Value, PySem.W.KatTups h vs fs ∧ fs.length = vs.length ∧ ∀ f ∈ fs, ∃ x t, f = Value.int x t
  | [], _ => ⟨[], PySem.W.KatTups.nil, rfl, fun _ hm => by simp at hm⟩
  | v :: vs, hp => by
    obtain ⟨fs, h1, h2, h3⟩ := kd_firsts (vs := vs) fun v' hm => hp v' (List.mem_cons_of_mem _ hm)
    obtain ⟨x, a, o, t, b, n, rfl, ho, hc, hd⟩ := hp v (by simp)
    refine ⟨.int x t :: fs, PySem.W.KatTups.cons ho hc hd rfl h1, by simp [h2], fun f hm => ?_⟩
    rcases List.mem_cons.mp hm with rfl | hm
    · exact ⟨x, t, rfl⟩
    · exact h3 f hm
theorem kd_sortable {prog : Program} {w : World} {A : Around} {s : Shared} {a : Addr} {vs : List Value} {k : Value → Int} (h0 : 0 < vs.length) (hp : ∀ v ∈ vs, IsKd s.heap v (k v)) (inj : ∀ v ∈ vs, ∀ u ∈ vs, k v = k u → v = u) (ha : ∀ o, s.heap.get? a = some o → o.cls ≠ .type "tuple") : SrtO.SortableO prog w A s a vs (ltKd k) := by
  intro h' keep
  have hp' : ∀ v ∈ vs, IsKd h' v (k v) := fun v hm => by
    obtain ⟨b, o, t, c, n, e, ho, hc, hd⟩ := hp v hm
    exact ⟨b, o, t, c, n, e, keep b o (fun z => by subst z; exact ha o ho hc) ho, hc, hd⟩
  obtain ⟨fs, h1, h2, h3⟩ := kd_firsts fun v hm => ⟨_, hp' v hm⟩
  refine ⟨tuples' true, fun Q E hq => ?_, kd_cmp hp' inj⟩
  refine PySem.W.kat_kind (T := .type "int") h1 (by omega) (fun f hm => ?_) (by rfl) ?_
  · obtain ⟨x, t, rfl⟩ := h3 f hm
    exact PySem.W.Looks.now
  · have e : (Value.type "int" != Value.type "tuple") = true := by first | decide +kernel | rfl | decide
    rw [e]
    exact hq
theorem sorted_kd {prog : Program} {w : World} {A : Around} {s : Shared} {E : Value → Shared → Prop} {l : Addr} {vs : List Value} {k : Value → Int} {Q : Value → Shared → Prop} (hl : s.heap.IsList l vs.toArray) (hz : vs.length ≤ sizeLine) (hp : ∀ v ∈ vs, IsKd s.heap v (k v)) (inj : ∀ v ∈ vs, ∀ u ∈ vs, k v = k u → v = u)
    (h : ∀ (h' : Heap) (d : Addr) (out : List Value), SrtO.Srtd (ltKd k) out → SrtO.Stb (ltKd k) out vs → (∀ b o, s.heap.get? b = some o → h'.get? b = some o) → s.heap.objs.size ≤ d → (∃ n, h'.get? d = some (seqObj "list" out.toArray n)) → Q (.ref d) { s with heap := h' }) :
    wpAny (model prog w) A (call (.builtin "sorted") [.ref l]) Q E s := by
  refine SrtO.sorted_ord (swo_kd k) hl hz (fun h2 h₁ a ha kk => ?_) fun out hs hb => ?_
  · refine kd_sortable (s := { s with heap := h₁ }) (by omega) (fun v hm => ?_) inj fun o e => ?_
    · obtain ⟨b, o, t, c, n, e, ho, hc, hd⟩ := hp v hm
      exact ⟨b, o, t, c, n, e, (kk b o ho).2, hc, hd⟩
    · have e' : some o = some (seqObj "list" vs.toArray 0) := e.symm.trans ha
      cases e'
      intro c
      exact absurd (Value.type.inj c) (by decide)
  · exact h _ _ out hs hb (fun b o e => sortedAll_old e) (Nat.le_succ _) (sortedAll_at s.heap vs out.toArray)
def ltK (k : V → Int) (x y : V) : Bool := decide (k x < k y)
theorem ltK_swo (k : V → Int) : SrtO.Swo (ltK k) := by
  refine ⟨fun x y h => ?_, fun x y z h1 h2 => ?_⟩
  · have a := of_decide_eq_true h
    exact decide_eq_false (by omega)
  · have a := of_decide_eq_false h1
    have b := of_decide_eq_false h2
    exact decide_eq_false (by omega)
theorem cr_sortedKd : CallR X (.builtin "sorted") (fun vs H Q => ∃ (a : Addr) (xs : List V) (k : V → Int), vs = [V.ref a] ∧ SqL X.K H a xs ∧ (∀ x ∈ xs, ∃ t y, x = V.ref t ∧ SqT X.K H t [.int (k x), y]) ∧ (∀ x ∈ xs, ∀ y ∈ xs, k x = k y → x = y) ∧
    ∀ ys p, SrtO.Srtd (ltK k) ys → SrtO.Stb (ltK k) ys xs → H p = none → Q (.ref p) (upd H p (.lst ys))) := by
  intro pins s σ H vs us Q I r h
  obtain ⟨a, xs, k, rfl, hs, hx, inj, q⟩ := h
  obtain ⟨its, rv, hl, hz⟩ := I.list hs
  obtain ⟨u, rfl, ru⟩ := vals1 r
  obtain rfl : u = Value.ref a := ru
  obtain ⟨e1, e2⟩ := refs_back rv fun x m => by
    obtain ⟨t, _, e, _⟩ := hx x m
    exact ⟨t, e⟩
  refine sorted_kd (k := fun u => k (backV u)) hl.isList (by rw [← rv.length]; exact hz) (fun v hv => ?_) (fun v hv u hu e => ?_) fun h' d out h1 h2 kp hd hn => ?_
  · obtain ⟨t, rfl⟩ := e2 v hv
    have hm : V.ref t ∈ xs := by rw [e1]; exact List.mem_map.mpr ⟨_, hv, rfl⟩
    obtain ⟨t', y, e, ht⟩ := hx _ hm
    cases e
    obtain ⟨its2, r2, ⟨o, ho, hc, n, hd⟩, _⟩ := I.tuple ht
    obtain ⟨u1, u2, rfl, ri, rj⟩ := vals2 r2
    obtain ⟨t1, rfl⟩ := ri
    exact ⟨t, o, t1, u2, n, rfl, ho, hc, hd⟩
  · obtain ⟨t, rfl⟩ := e2 v hv
    obtain ⟨t', rfl⟩ := e2 u hu
    have hm : V.ref t ∈ xs := by rw [e1]; exact List.mem_map.mpr ⟨_, hv, rfl⟩
    have hm' : V.ref t' ∈ xs := by rw [e1]; exact List.mem_map.mpr ⟨_, hu, rfl⟩
    have := inj _ hm _ hm' e
    cases this
    rfl
  · have h3 : ∀ u ∈ out, ∃ a, u = Value.ref a := fun u hu => e2 u (h2.perm.mem_iff.mp hu)
    obtain ⟨n, hn⟩ := hn
    have hb : SrtO.Stb (ltK k) (out.map backV) xs := by
      rw [e1]
      exact SrtO.Stb.map (ltK_swo k) backV h2
    refine ⟨.ref d, upd H d (.lst (out.map backV)), I.laid (t' := s.toks) kp hd ⟨?_, out, n, vals_back h3, hn⟩, rfl, q _ d (SrtO.srtd_map h1) hb (I.hok.fresh hd)⟩
    rw [hb.len]
    exact hz
theorem keysOf_eq : ∀ {ds : List PyData} {ks : List (Int × PyData)}, keysOf ds = some ks → ds = ks.map encK := by
  intro ds
  induction ds with
  | nil => intro ps h; cases h; rfl
  | cons d r ih =>
    intro ps h
    unfold keysOf at h
    split at h
    · rename_i e; cases e
    · rename_i e
      cases e
      obtain ⟨q, h1, rfl⟩ := mpd h
      rw [ih h1]
      rfl
    · cases h
open Classical in
noncomputable def keyO1 (K : PySem.W.Frag) (H : Hp) (x : V) : Int := if h : ∃ k : Int, ∃ t y, x = .ref t ∧ SqT K H t [.int k, y] then h.choose else 0
theorem keyO1_eq {pins : List (Addr × Obj)} {s : Shared} {σ : L2.St} {H : Hp} (I : Inv X pins σ H s) {t : Addr} {k : Int} {y : V} (h : SqT X.K H t [.int k, y]) : keyO1 X.K H (.ref t) = k := by
  unfold keyO1
  have e : ∃ k : Int, ∃ t' y', V.ref t = .ref t' ∧ SqT X.K H t' [.int k, y'] := ⟨k, t, y, rfl, h⟩
  rw [dif_pos e]
  obtain ⟨t', y', e1, e2⟩ := e.choose_spec
  cases e1
  have := I.tuple_inj e2 h
  generalize e.choose = z at this
  cases this
  rfl
theorem leK_iff {p q : Int × PyData} : leK p q = true ↔ p.1 ≤ q.1 := by simp [leK]
theorem isortK_eq {l m : List (Int × PyData)} (nd : (m.map Prod.fst).Nodup) (h : l.Pairwise (fun a b => leK a b = true)) (p : l.Perm m) : l = isort leK m := by
  have inj : ∀ a ∈ m, ∀ b ∈ m, a.1 = b.1 → a = b := fun a ha b hb e => by
    obtain ⟨i, hi, rfl⟩ := List.getElem_of_mem ha
    obtain ⟨j, hj, rfl⟩ := List.getElem_of_mem hb
    have := (List.getElem_inj (h₀ := by rw [List.length_map]; exact hi) (h₁ := by rw [List.length_map]; exact hj) nd).mp (by rw [List.getElem_map, List.getElem_map]; exact e)
    subst this
    rfl
  have pm := isort_perm leK m
  refine List.Perm.eq_of_pairwise (le := fun a b => leK a b = true) (fun a b ha hb x y => inj a (p.mem_iff.mp ha) b (pm.mem_iff.mp hb) (by rw [leK_iff] at x y; omega)) h (isort_srt (fun a b e => ?_) (fun a b c x y => ?_) m) (p.trans pm.symm)
  · have : ¬ leK a b = true := by rw [e]; exact Bool.false_ne_true
    rw [leK_iff] at this ⊢
    omega
  · rw [leK_iff] at *
    omega
theorem perm_keys {ms ks : List (Int × PyData)} (nd : (ks.map Prod.fst).Nodup) (nm : (ms.map Prod.fst).Nodup) (p : (ms.map Prod.fst).Perm (ks.map Prod.fst)) (h : ∀ m ∈ ms, m ∈ ks) : ms.Perm ks := by
  have nd' : ks.Nodup := (List.pairwise_map.mp nd).imp fun {a b} h e => h (by rw [e])
  have nm' : ms.Nodup := (List.pairwise_map.mp nm).imp fun {a b} h e => h (by rw [e])
  refine (List.perm_ext_iff_of_nodup nm' nd').mpr fun a => ⟨h a, fun ha => ?_⟩
  have : a.1 ∈ ms.map Prod.fst := p.mem_iff.mpr (List.mem_map.mpr ⟨a, ha, rfl⟩)
  obtain ⟨b, hb, e⟩ := List.mem_map.mp this
  have hk := h b hb
  obtain ⟨i, hi, rfl⟩ := List.getElem_of_mem ha
  obtain ⟨j, hj, q⟩ := List.getElem_of_mem hk
  have := (List.getElem_inj (h₀ := by rw [List.length_map]; exact hj) (h₁ := by rw [List.length_map]; exact hi) nd).mp (by rw [List.getElem_map, List.getElem_map, q]; exact e)
  subst this
  rw [q]
  exact hb
theorem b_sorted : CallR X (.builtin "sorted") (rnS X.K (biD .sorted)) := by
  intro pins s σ H xs us Q I rs h
  obtain ⟨F, rv, r, sf, ws, h, k⟩ := h
  unfold biD at h
  split at h <;> try (first | contradiction | (cases h; done) | (rename_i e; cases e; done))
  obtain ⟨ds, hd, h⟩ := bnd h
  obtain ⟨x, rfl, w⟩ := views1 ws
  obtain ⟨p, vs, rfl, hp, rp⟩ := w.lstv sf hd
  unfold sortedD at h
  split at h
  · rename_i ps e
    cases h
    obtain rfl := pairsOf_eq e
    have key : ∀ {vs : List V} {ps : List (Int × Int)}, RpAll X.K F vs (ps.map encP) → vs.map (keyOf X.K H) = ps ∧ ∀ x ∈ vs, (∃ t, x = V.ref t ∧ SqT X.K H t [.int (keyOf X.K H x).1, .int (keyOf X.K H x).2]) ∧ Rp X.K F x (encP (keyOf X.K H x)) := by
      intro vs
      induction vs with
      | nil =>
        intro ps h
        cases ps with
        | nil => exact ⟨rfl, fun x hx => absurd hx (by simp)⟩
        | cons _ _ => cases h
      | cons x r ih =>
        intro ps h
        cases ps with
        | nil => cases h
        | cons q qs =>
          cases h with
          | cons a t =>
            obtain ⟨i1, i2⟩ := ih t
            cases a with
            | tup ht hr =>
              have e2 := RpAll.ints (ns := [q.1, q.2]) hr
              subst e2
              have hk : keyOf X.K H _ = q := keyOf_eq I (Same.sqT sf ht.sqT)
              refine ⟨by rw [List.map_cons, i1, hk], fun y hy => ?_⟩
              rcases List.mem_cons.mp hy with rfl | hy
              · rw [hk]
                exact ⟨⟨_, rfl, Same.sqT sf ht.sqT⟩, .tup ht hr⟩
              · exact i2 y hy
    obtain ⟨e1, e2⟩ := key rp
    refine cr_sortedQ pins s σ H _ us Q I rs ⟨p, vs, keyOf X.K H, rfl, SqL.of hp, fun x hx => (e2 x hx).1, fun ys a srt stb n => ?_⟩
    have pm : ys.Perm vs := stb.perm
    have ry : ∀ zs : List V, (∀ z ∈ zs, z ∈ vs) → RpAll X.K F zs ((zs.map (keyOf X.K H)).map encP) := by
      intro zs
      induction zs with
      | nil => intro _; exact .nil
      | cons z r ih => intro hz; exact .cons (e2 z (hz z (by simp))).2 (ih fun y hy => hz y (by simp [hy]))
    have r2 := ry ys fun z hz => pm.mem_iff.mp hz
    have srt2 : (ys.map (keyOf X.K H)).Pairwise (fun a b => leP a b = true) := by
      rw [List.pairwise_map]
      refine List.Pairwise.imp ?_ srt
      intro a b hab
      have := SrtO.lexB_no.mp hab
      rw [leP_iff]
      omega
    have pm2 : (ys.map (keyOf X.K H)).Perm ps := by
      have := pm.map (keyOf X.K H)
      rw [e1] at this
      exact this
    rw [isortP_eq srt2 pm2] at r2
    obtain ⟨x1, w1⟩ := viewNew (K := X.K) sf n r2
    exact k _ _ _ x1 w1 (newOl n)
  · split at h
    · rename_i ns hn
      cases h
      obtain rfl := intsOf_eq hn
      obtain rfl := rp.ints
      refine cr_sortedI pins s σ H _ us Q I rs ⟨p, ns, rfl, SqL.of hp, fun ms a pm srt n => ?_⟩
      rw [isortI_eq srt pm]
      obtain ⟨x1, w1⟩ := viewNew (K := X.K) sf n (RpAll.ofInts (K := X.K) (F := F) (isort leI ns))
      exact k _ _ _ x1 w1 (newOl n)
    · obtain ⟨ks, e, h⟩ := bnd h
      split at h
      · rename_i nd
        cases h
        obtain rfl := keysOf_eq e
        have key : ∀ {vs : List V} {ks : List (Int × PyData)}, RpAll X.K F vs (ks.map encK) → vs.map (keyO1 X.K H) = ks.map Prod.fst ∧ ∀ (i : Nat) (x : V) (q : Int × PyData), vs[i]? = some x → ks[i]? = some q → (∃ t y, x = V.ref t ∧ SqT X.K H t [.int (keyO1 X.K H x), y]) ∧ keyO1 X.K H x = q.1 ∧ Rp X.K F x (encK q) := by
          intro vs
          induction vs with
          | nil =>
            intro ks h
            cases ks with
            | nil => exact ⟨rfl, fun i x q hx => by simp at hx⟩
            | cons _ _ => cases h
          | cons x r ih =>
            intro ks h
            cases ks with
            | nil => cases h
            | cons q qs =>
              cases h with
              | cons a t =>
                obtain ⟨i1, i2⟩ := ih t
                cases a with
                | tup ht hr =>
                  cases hr with
                  | cons hr1 hr2 =>
                    cases hr1
                    cases hr2 with
                    | cons hr3 hr4 =>
                      cases hr4
                      have hk : keyO1 X.K H _ = q.1 := keyO1_eq I (Same.sqT sf ht.sqT)
                      refine ⟨by rw [List.map_cons, List.map_cons, i1, hk], fun i y z hy hz => ?_⟩
                      cases i with
                      | zero =>
                        simp only [List.getElem?_cons_zero, Option.some.injEq] at hy hz
                        subst hy; subst hz
                        rw [hk]
                        exact ⟨⟨_, _, rfl, Same.sqT sf ht.sqT⟩, rfl, .tup ht (.cons (.int _) (.cons hr3 .nil))⟩
                      | succ i => exact i2 i y z (by simpa using hy) (by simpa using hz)
        obtain ⟨e1, e2⟩ := key rp
        have len : vs.length = ks.length := by rw [← List.length_map (f := keyO1 X.K H), e1, List.length_map]
        have at2 : ∀ x ∈ vs, ∃ (i : Nat) (q : Int × PyData), vs[i]? = some x ∧ ks[i]? = some q := fun x hx => by
          obtain ⟨i, hi, rfl⟩ := List.getElem_of_mem hx
          exact ⟨i, ks[i]'(by omega), List.getElem?_eq_getElem hi, List.getElem?_eq_getElem (by omega)⟩
        have ndv : (vs.map (keyO1 X.K H)).Nodup := by rw [e1]; exact nd
        refine cr_sortedKd pins s σ H _ us Q I rs ⟨p, vs, keyO1 X.K H, rfl, SqL.of hp, fun x hx => ?_, fun x hx y hy e => ?_, fun ys a srt stb n => ?_⟩
        · obtain ⟨i, q, h1, h2⟩ := at2 x hx
          exact (e2 i x q h1 h2).1
        · obtain ⟨i, hi, rfl⟩ := List.getElem_of_mem hx
          obtain ⟨j, hj, rfl⟩ := List.getElem_of_mem hy
          have := (List.getElem_inj (h₀ := by rw [List.length_map]; exact hi) (h₁ := by rw [List.length_map]; exact hj) ndv).mp (by rw [List.getElem_map, List.getElem_map]; exact e)
          subst this
          rfl
        · have pm : ys.Perm vs := stb.perm
          -- what each sorted thing stands for
          have ry : ∀ zs : List V, (∀ z ∈ zs, z ∈ vs) → ∃ ms : List (Int × PyData), RpAll X.K F zs (ms.map encK) ∧ ms.map Prod.fst = zs.map (keyO1 X.K H) ∧ ∀ m ∈ ms, m ∈ ks := by
            intro zs
            induction zs with
            | nil => intro _; exact ⟨[], .nil, rfl, fun m hm => absurd hm (by simp)⟩
            | cons z r ih =>
              intro hz
              obtain ⟨ms, r1, r2, r3⟩ := ih fun y hy => hz y (by simp [hy])
              obtain ⟨i, q, h1, h2⟩ := at2 z (hz z (by simp))
              obtain ⟨_, g2, g3⟩ := e2 i z q h1 h2
              refine ⟨q :: ms, .cons g3 r1, by rw [List.map_cons, List.map_cons, r2, g2], fun m hm => ?_⟩
              rcases List.mem_cons.mp hm with rfl | hm
              · exact List.mem_of_getElem? h2
              · exact r3 m hm
          obtain ⟨ms, r1, r2, r3⟩ := ry ys fun z hz => pm.mem_iff.mp hz
          have pk : (ms.map Prod.fst).Perm (ks.map Prod.fst) := by
            rw [r2, ← e1]
            exact pm.map _
          have pm2 : ms.Perm ks := perm_keys nd (pk.symm.nodup nd) pk r3
          have srt2 : ms.Pairwise (fun a b => leK a b = true) := by
            have : (ms.map Prod.fst).Pairwise (· ≤ ·) := by
              rw [r2, List.pairwise_map]
              refine List.Pairwise.imp ?_ srt
              intro a b hab
              have := of_decide_eq_false hab
              omega
            rw [List.pairwise_map] at this
            exact this.imp fun {a b} x => leK_iff.mpr x
          rw [isortK_eq nd srt2 pm2] at r1
          obtain ⟨x1, w1⟩ := viewNew (K := X.K) sf n r1
          exact k _ _ _ x1 w1 (newOl n)
      · cases h
theorem bad {f : Value} {g : List RV → Option RV} (h : ∀ l, g l = none) : CallR X f (rnS X.K g) := by
  intro pins s σ H xs us Q I rs q
  obtain ⟨F, rv, r, sf, ws, q, k⟩ := q
  rw [h] at q
  cases q
def isIsI : Bi → Bool
  | .isI _ => true
  | _ => false
theorem r_bi (hc : X.calm = true) : ∀ b : Bi, isIsI b = false → CallR X (biV b) (rnS X.K (biD b))
  | .len, _ => b_len
  | .sum, _ => b_sum hc
  | .min2, _ => b_min2 hc
  | .max2, _ => b_max2 hc
  | .minL, _ => b_minL hc
  | .maxL, _ => b_maxL hc
  | .any, _ => b_any hc
  | .all, _ => b_all hc
  | .int, _ => b_int
  | .str, _ => b_str
  | .tup, _ => b_tup
  | .list, _ => b_list
  | .sorted, _ => b_sorted
  | .isI t, h => by cases h
/-- isinstance(x, T) -/
def rIS (K : PySem.W.Frag) (t : Ty) : List V → Hp → VK → Prop := fun xs H Q => ∃ x d, xs = [x, .ty (tyN t)] ∧ Rp K H x d ∧ notScr d = true ∧ Q (.bl (isD t d)) H
theorem r_isI (t : Ty) : CallR X (.builtin "isinstance") (rIS X.K t) := by
  refine CallR.imp call_isi fun xs H Q ⟨x, d, e, h, n, q⟩ => ?_
  exact ⟨x, .ty (tyN t), _, _, isD t d, e, .ty _, rp_ty h n, kit_ty (kit_isD d t), q⟩

theorem m_join : MtR X "str.join" (fun x xs H Q => ∃ F a rs r, Same F H ∧ View X.K F H x a ∧ Views X.K F H xs rs ∧ mtD .join a rs = some r ∧ ∀ v F' H', Ext F H F' H' → View X.K F' H' v r → New r v H H' → Q v H') := by
  intro pins s σ H x xs v us Q I rx rxs h
  obtain ⟨F, a, rs, r, sf, wa, ws, h, k⟩ := h
  obtain ⟨y', rfl, h⟩ := mt1_of h
  obtain ⟨a', ys, rfl, hy, hl, rfl⟩ := join_eq h
  obtain ⟨ds, hd, hy⟩ := bnd hy
  obtain rfl := strsOf_eq hy
  obtain ⟨x', rfl, w⟩ := views1 ws
  obtain ⟨p, vs, rfl, hp, rp⟩ := w.seqv sf hd
  obtain rfl := rp.strs
  obtain rfl := wa.str
  exact mt_join pins s σ H _ _ v us Q I rx rxs ⟨_, p, ys, rfl, rfl, hp, hl, k _ F H (.refl sf) (.fz (.str _)) newFz⟩
end
end Mn

namespace Mn
open PySem PySem.Spec PyProof.Rows L2
theorem exC_ok {P : Program} {w : World} {H : Hp} {h : Heap} {a : Addr} {cls : Value} {d : Option Addr} {ox : Obj} {vs : Array Value} (e : h.get? a = some ox) (z : Zc cls d ox) (q : ox.data = .fields vs) : ObjOk P w H h a (ExC cls d a) :=
  ⟨⟨ox, vs, e, z, q⟩, ⟨ox, e⟩, fun _ _ ⟨o, v, e1, e2, e3⟩ k => ⟨o, v, k o e1, e2, e3⟩⟩
section
variable {X : Cx} {pins : List (Addr × Obj)} {σ : L2.St} {H : Hp} {sI s : Shared} {a : Addr} {o : HO}
/-- what stands there untold is told from here on; sI: the state that has not got it -/
theorem track (J : Inv X pins σ H sI) (I : Inv X pins σ H s) (n : sI.heap.get? a = none) (nL : a ≠ X.env.locals) (na : H a = none) (ok : ObjOk X.prog X.w (upd H a o) s.heap a o) : Inv X pins σ (upd H a o) s := by
  have off : ∀ b u, sI.heap.get? b = some u → b ≠ a := fun b u e z => by rw [z, n] at e; cases e
  have nn : ∀ b u, H b = some u → b ≠ a := fun b u e z => by rw [z, na] at e; cases e
  have cn : ∀ x c, X.env.cells.lookup x = some c → c ≠ a := fun x c e => by
    obtain ⟨v, u, q, _⟩ := J.cell x c e
    exact off c u q
  refine ⟨I.ok, I.os, I.bare, ⟨I.base.keep, I.base.slot, fun b u e q hx => ?_, I.base.there, fun b xs e => ?_, fun b u y e => ?_, fun b ps e => ?_⟩, I.loc, I.cell, ?_, fun x c e => ?_, fun p hp => ?_, fun b u e => ?_, I.len⟩
  · obtain ⟨u', q'⟩ := J.base.there b u e hx
    rw [upd_ne (off b u' q')]
    exact I.base.free b u e q hx
  · have q := I.base.tups b xs e
    rw [upd_ne (nn b _ q)]; exact q
  · have q := I.base.frzs b u y e
    rw [upd_ne (nn b _ q)]; exact q
  · obtain ⟨m, q⟩ := I.base.tbls b ps e
    exact ⟨m, by rw [upd_ne (nn b _ q)]; exact q⟩
  · rw [upd_ne (Ne.symm nL)]; exact I.free
  · rw [upd_ne (cn x c e)]; exact I.freeC x c e
  · obtain ⟨e1, e2, e3⟩ := I.pin p hp
    exact ⟨e1, by rw [upd_ne (off p.1 p.2 (J.pin p hp).1)]; exact e2, e3⟩
  · by_cases hb : b = a
    · subst hb
      rw [upd_same] at e; cases e
      exact ok
    · rw [upd_ne hb] at e
      exact (I.hok b u e).stay (fun c v _ q => q) (fun c q => by rw [upd_ne (nn c _ q)]; exact q) (fun c xs q => by rw [upd_ne (nn c _ q)]; exact q)
theorem inS (I : Inv X pins σ H s) (a : Addr) : Inv (X.suite a (X.pn ++ pins)) [] σ H s :=
  ⟨I.ok.suite _ _, I.os, I.bare, I.base, I.loc, I.cell, I.free, I.freeC, fun p hp => I.pin p (by simpa using hp), I.hok, I.len⟩
theorem outS {pn : List (Addr × Obj)} (ok : X.Ok) (I : Inv (X.suite a (X.pn ++ pins)) pn σ H s) : Inv X pins σ H s :=
  ⟨ok, I.os, I.bare, I.base, I.loc, I.cell, I.free, I.freeC, fun z hz => I.pin z (List.mem_append_left _ hz), I.hok, I.len⟩
end
/-- what the clause wishes: the caught one is told, in slot i while the suite runs -/
def wKept (K : PySem.W.Frag) (c : Value) (i : Nat) (ts : TS) (W0 : WX) (D : Ends) : WX := fun cls d σ H => ∃ b, PySem.W.exmOne K cls c = some b ∧
  (b = true → ∀ a, H a = none → ts ⟨fun σ' H' => D.nx (σ'.set i none) H', D.rt, fun σ' H' => D.bk (σ'.set i none) H', fun σ' H' => D.ct (σ'.set i none) H'⟩ (σ.set i (some (.ref a))) (upd H a (ExC cls d a))) ∧ (b = false → W0 cls d σ H)
section
variable {X : Cx} {x n : Str} {c : Value} {i : Nat} {body rest : List Stmt} {st0 : Stmt} {q1 q2 q3 : Pos} {tb : WX → TS} {ts : TS} {W0 : WX}
theorem ps_try_kept (hs : X.stack = X.env :: X.outer) (hf : X.env.frame = some X.env.locals) (nd : X.N.Nodup) (hi : X.N[i]? = some n) (hl : X.env.kindOf n = some .local) (nm : Names X x c) (tk : Takes X W0)
    (hb : ∀ (W : WX) (pn : List (Addr × Obj)) (xe : Value → Shared → Prop), Takes (X.tr pn xe) W → PassesOwn (model X.prog X.w) X.A X.env xe → PSs (X.tr pn xe) body (tb W)) (hz : ∀ (a : Addr) (pn : List (Addr × Obj)), PSs (X.suite a pn) (st0 :: rest) ts) :
    PS X (.Try body [.ExceptHandler (some (.Name x q1)) (some n) (st0 :: rest) q2] [] [] q3) (fun D σ H => tb (wKept X.K c i ts W0 D) D σ H) := by
  refine ⟨fun pins s σ H D I h => ?_⟩
  have okX := I.ok
  have fr : X.A.frames = some (X.env :: X.outer) := okX.frames.trans (congrArg some hs)
  have lc : Loc X.env.scope n := Or.inl hl
  let land : Value → Shared → Prop := fun e s1 => wpAny (model X.prog X.w) X.A (noteFrame e X.env) (fun _ s2 => wpAny (model X.prog X.w) X.A (setFlight e none) (fun _ s3 => wpAny (model X.prog X.w) X.A (handleBy e X.env [.ExceptHandler (some (.Name x q1)) (some n) (st0 :: rest) q2]) (SP X pins D) X.xe s3) X.xe s2) X.xe s1
  have step : ∀ u s', XE (X.tr (X.pn ++ pins) land) (wKept X.K c i ts W0 D) u s' → land u s' := fun u s' xx => by
    obtain ⟨a, B, sI, pins', σ1, H1, cls, d, rfl, J0, nb, up, sky, na, os, ag, b, hb1, yes, no⟩ := xx
    have J : Inv X pins σ1 H1 sI := Inv.ofTry J0 okX
    have sk : Sky B (X.env :: X.outer) a (Zc cls d) X.env.locals s'.heap := by rw [← hs]; exact sky
    unfold land
    refine Sky.land Zc.steady fr hf sk fun h3 fl3 up3 => ?_
    have J3 : Inv X pins σ1 H1 { s' with heap := h3 } := Inv.landed J nb fl3.1 (up.trans up3) os ag
    obtain ⟨ox, vx, e3, z3, d3⟩ := fl3.there
    have away : a ∉ frs (X.env :: X.outer) := fun hm => by
      obtain ⟨_, o', e', no'⟩ := fl3.2.2.1.mem hm
      rw [e3] at e'; cases e'
      exact no' _ d3
    have nL : a ≠ X.env.locals := fun e => away (List.mem_filterMap.mpr ⟨X.env, by simp, by rw [hf, e]⟩)
    have n0 : sI.heap.get? a = none := by
      cases q : sI.heap.get? a with
      | none => rfl
      | some o' =>
        have y := nb a o' q (by rw [hs]; exact away)
        rw [fl3.2.1] at y; cases y
    refine wpAny_handleBy_cons (codeAny_handlers_test ?_) (fun q => nomatch q)
    have lt : PySem.W.Looks (model X.prog X.w) h3 (typeOf (.ref a)) cls := fun _ _ _ _ k q => wpAny_typeOf_ref (k _ _ e3) (by rw [z3.1]; exact q)
    have lm := PySem.W.exm_one (M := model X.prog X.w) J3.kIn lt hb1
    have name : ∀ {Q : Value → Shared → Prop} {E : Value → Shared → Prop}, Q c { s' with heap := h3 } → wpAny (model X.prog X.w) (X.A.mark (some (.ref a))) (eval (.Name x q1) X.env) Q E { s' with heap := h3 } := fun {Q E} q => by
      rcases nm with ⟨g1, g2, g3 | ⟨g3, g4, g5⟩⟩
      · exact ld_glob (X := X.suite a (X.pn ++ pins)) (inS J3 a) g1 g3 q g2
      · exact ld_blt (X := X.suite a (X.pn ++ pins)) (inS J3 a) g1 g3 g4 q g5 g2
    refine name (lm.here ?_)
    cases b with
    | true =>
      refine codeAny_handlers_suite_as (HandSPX.lands_againZ fl3 fun h4 fl4 up4 => ?_)
      have J4 : Inv X pins σ1 H1 { s' with heap := h4 } := Inv.landed J nb fl4.1 ((up.trans up3).trans up4) os ag
      obtain ⟨oy, vy, e4, z4, d4⟩ := fl4.there
      have J5 := inS (track (o := ExC cls d a) J J4 n0 nL na (exC_ok e4 z4 d4)) a
      refine store_ok (X := X.suite a (X.pn ++ pins)) (v := .ref a) J5 nd hi lc rfl (fun s5 J6 => ?_) (.inr hl)
      refine wpAny_mono ((hz a (X.pn ++ pins)).run [] s5 _ _ _ J6 (yes rfl a na)) (fun f s6 sp => ?_) (fun _ _ z => z.elim)
      have last : ∀ {σ6 : L2.St} {H6 : Hp} {Q : Shared → Prop}, Inv (X.suite a (X.pn ++ pins)) [] σ6 H6 s6 → (∀ s7, Inv X pins (σ6.set i none) H6 s7 → Q s7) →
          wpAny (model X.prog X.w) X.A (do bindName X.env n .none; unbindBehindTheSuite X.env n q2) (fun _ s7 => Q s7) X.xe s6 := fun {_ _ _} S k => gone_ok (outS okX S) nd hi hl k
      cases f with
      | next => obtain ⟨σ6, H6, S, k⟩ := sp; exact last S fun s7 S7 => ⟨_, _, S7, k⟩
      | brk => obtain ⟨σ6, H6, S, k⟩ := sp; exact last S fun s7 S7 => ⟨_, _, S7, k⟩
      | cont => obtain ⟨σ6, H6, S, k⟩ := sp; exact last S fun s7 S7 => ⟨_, _, S7, k⟩
      | ret u => obtain ⟨v6, σ6, H6, S, r6, k⟩ := sp; exact last S fun s7 S7 => ⟨_, _, _, S7, r6, k⟩
    | false =>
      refine wpAny_handleBy_nil (?_ : wpAny (model X.prog X.w) X.A _ _ _ _)
      obtain ⟨_, _, _, oe, vs, T, _, _, he, _, hd, h1, _⟩ := id fl3
      unfold PySem.passOn
      refine wpAny_bind (wpAny_field he hd h1 ?_)
      rw [if_neg (show ¬ ((Value.ref T == Value.none) = true) by simp)]
      have fin : wpAny (model X.prog X.w) X.A (setFlight (.ref a) X.env.frame) (fun _ s9 => wpAny (model X.prog X.w) X.A (throw (.ref a) : Sem Flow) (SP X pins D) X.xe s9) X.xe { s' with heap := h3 } := by
        rw [hf]
        refine HandSPX.setFlight_upZ fl3 fun h4 hh up4 => wpAny_throw (tk _ _ ?_)
        exact ⟨a, B, sI, pins, σ1, H1, cls, d, rfl, J, nb, (up.trans up3).trans up4, .inr (.inr (by rw [hs]; exact hh)), na, os, ag, no rfl⟩
      first
        | exact wpAny_bind fin
        | exact wpAny_bind (wpAny_pure (wpAny_bind fin))
  refine wpAny_Try_except (wpAny_mono ((hb (wKept X.K c i ts W0 D) (X.pn ++ pins) land step PassesOwn.looking).run [] s σ H D (Inv.toTry I _) h) (fun f s1 sp => ?_) fun e s1 he => he)
  cases f with
  | next => obtain ⟨σ1, H1, J, q⟩ := sp; exact wpAny_execs_nil ⟨σ1, H1, J.ofTry okX, q⟩
  | brk => obtain ⟨σ1, H1, J, q⟩ := sp; exact ⟨σ1, H1, J.ofTry okX, q⟩
  | cont => obtain ⟨σ1, H1, J, q⟩ := sp; exact ⟨σ1, H1, J.ofTry okX, q⟩
  | ret u => obtain ⟨v, σ1, H1, J, r, q⟩ := sp; exact ⟨v, σ1, H1, J.ofTry okX, r, q⟩
end
end Mn

namespace Mn
open PySem PySem.Spec PyProof.Rows L2
/-- an exception that is in the air: its class, its dict, the data it stands for -/
inductive Xat (K : PySem.W.Frag) (F : Hp) : Value → Option Addr → PyData → Prop
  | x0 {C : Addr} {nm : Str} : ClsAt K nm C → Xat K F (.ref C) none (xd0 nm)
  | x1 {C dx : Addr} {nm f : Str} {v : V} {e : PyData} : ClsAt K nm C → F dx = some (.xd [(f, v)]) → Rp K F v e → Xat K F (.ref C) (some dx) (xd1 nm f e)
/-- an exception class as it must stand, so that its objects may be looked at -/
structure XcK (K : PySem.W.Frag) (C : Addr) : Prop where
  cl : PySem.W.isClsIn K C = true
  ga : PySem.W.findIn K (.ref C) "__getattribute__" = some (some (.builtin "BaseException.__getattribute__"))
  gt : PySem.W.findIn K (.ref C) "__getattr__" = some none
  sb : PySem.W.subIn K (.ref C) (.type "BaseException") = some true
  ca : PySem.W.findIn K (.ref C) "__class__" = some (some (.builtin "object.__class__"))
  mo : PySem.W.mroIn K C (.type "object") = some true
  hd : PySem.W.hasDictIn K C = true
  ty : PySem.W.typeIn K (.ref C) = some (.type "type")
  kp : PySem.W.keepIn K (.ref C) = true
  ve : PySem.W.subIn K (.ref C) (.type "ValueError") = some true
/-- a class that is asked for -/
structure XcD (K : PySem.W.Frag) (C : Addr) : Prop where
  cl : PySem.W.isClsIn K C = true
  ty : PySem.W.typeIn K (.ref C) = some (.type "type")
  sb : PySem.W.subIn K (.ref C) (.type "BaseException") = some true
structure XcOk (K : PySem.W.Frag) (mg : Str → Option Value) (rzs cls fls m0s : List Str) : Prop where
  rz : ∀ nm ∈ rzs, ∃ C, ClsAt K nm C ∧ XcK K C ∧ ∀ f ∈ fls, PySem.W.findIn K (.ref C) f = some none
  ds : ∀ nm ∈ cls, ∃ C, ClsAt K nm C ∧ mg nm = some (.ref C) ∧ XcD K C
  pr : ∀ nm ∈ rzs, ∀ D ∈ cls, ∀ C E, ClsAt K nm C → ClsAt K D E → PySem.W.kitOne K (.ref C) (.ref E) = some (subX nm D) ∧ PySem.W.exmOne K (.ref C) (.ref E) = some (subX nm D)
  m0 : ∀ nm ∈ m0s, ∃ C, ClsAt K nm C ∧ mg nm = some (.ref C) ∧ XcK K C ∧ PySem.W.excIn K C [.type "ValueError", .type "Exception", .type "BaseException", .type "object"] "ValueError.__new__" = true
  nv : rzs ≠ [] → mg "ValueError" = none
  sp : rzs ≠ [] → PySem.W.specialIn K (.builtin "object.__class__") "__get__" = some (some (.builtin "getset_descriptor.__get__")) ∧ PySem.W.takesIn K (.builtin "object.__class__") = some true
theorem XcOk.none {K : PySem.W.Frag} {mg : Str → Option Value} : XcOk K mg [] [] [] [] :=
  ⟨fun _ h => by simp at h, fun _ h => by simp at h, fun _ h => by simp at h, fun _ h => by simp at h, fun h => absurd rfl h, fun h => absurd rfl h⟩
theorem ClsAt.eq {K : PySem.W.Frag} {nm : Str} {C E : Addr} (a : ClsAt K nm C) (b : ClsAt K nm E) : C = E := by
  have := a.symm.trans b
  cases this; rfl
section
variable {K : PySem.W.Frag} {F H : Hp} {v : V} {r : RV} {nm : Str}
/-- what is told of an exception that is data -/
theorem Rp.exc {d : PyData} (h : Rp K F v d) (x : xnm (.fz d) = some nm) : ∃ a C dd, v = .ref a ∧ F a = some (ExC (.ref C) dd a) ∧ ClsAt K nm C ∧ ∀ d, dd = some d → ∃ fs, F d = some (.xd fs) := by
  cases h with
  | xc0 h q => cases x; exact ⟨_, _, _, rfl, h, q, fun d e => nomatch e⟩
  | xc1 h q g r => cases x; exact ⟨_, _, _, rfl, h, q, fun d e => by cases e; exact ⟨_, g⟩⟩
  | dK h r =>
    rename_i kvs ds
    cases kvs with
    | nil => simp [xnm] at x
    | cons p kvs =>
      obtain ⟨k, w⟩ := p
      cases ds with
      | nil => simp [xnm] at x
      | cons d ds => cases k <;> simp [xnm, keyD] at x
  | dT h r =>
    rename_i kvs ds
    cases kvs with
    | nil => simp [xnm] at x
    | cons p kvs =>
      obtain ⟨k, w⟩ := p
      cases ds with
      | nil => simp [xnm] at x
      | cons d ds => simp [xnm, keysD] at x
  | _ => simp [xnm] at x
theorem Rp.fld {d e : PyData} {f : Str} (h : Rp K F v d) (x : xfl f (.fz d) = some (nm, e)) : ∃ a C dx w, v = .ref a ∧ F a = some (ExC (.ref C) (some dx) a) ∧ ClsAt K nm C ∧ F dx = some (.xd [(f, w)]) ∧ Rp K F w e := by
  cases h with
  | xc1 h q g r =>
    unfold xfl at x
    dsimp only at x
    split at x
    · rename_i hf
      cases x
      subst hf
      exact ⟨_, _, _, _, rfl, h, q, g, r⟩
    · cases x
  | dK h r =>
    rename_i kvs ds
    cases kvs with
    | nil => simp [xfl] at x
    | cons p kvs =>
      obtain ⟨k, w⟩ := p
      cases ds with
      | nil => simp [xfl] at x
      | cons d ds => cases k <;> simp [xfl, keyD] at x
  | dT h r =>
    rename_i kvs ds
    cases kvs with
    | nil => simp [xfl] at x
    | cons p kvs =>
      obtain ⟨k, w⟩ := p
      cases ds with
      | nil => simp [xfl] at x
      | cons d ds => simp [xfl, keysD] at x
  | _ => simp [xfl] at x
theorem xnm_fz {r : RV} (x : xnm r = some nm) : ∃ d, r = .fz d := by
  cases r with
  | fz d => exact ⟨d, rfl⟩
  | _ => simp [xnm] at x
theorem xfl_fz {r : RV} {f : Str} {p : Str × PyData} (x : xfl f r = some p) : ∃ d, r = .fz d := by
  cases r with
  | fz d => exact ⟨d, rfl⟩
  | _ => simp [xfl] at x
/-- the one in the air, kept at a -/
theorem Xat.rp {cv : Value} {dd : Option Addr} {d : PyData} (x : Xat K F cv dd d) {a : Addr} (n : F a = none) : Rp K (upd F a (ExC cv dd a)) (.ref a) d := by
  cases x with
  | x0 q => exact .xc0 upd_same q
  | x1 q g r => exact .xc1 upd_same q (by rw [upd_ne (ne_of_none g n)]; exact g) (r.mono (Same.upd n))
theorem Xat.name {cv : Value} {dd : Option Addr} {d : PyData} (x : Xat K F cv dd d) (e : xnm (.fz d) = some nm) : ∃ C, cv = .ref C ∧ ClsAt K nm C := by
  cases x with
  | x0 q => cases e; exact ⟨_, rfl, q⟩
  | x1 q _ _ => cases e; exact ⟨_, rfl, q⟩
theorem Xat.mono {F' : Hp} {cv : Value} {dd : Option Addr} {d : PyData} (e : Same F F') (x : Xat K F cv dd d) : Xat K F' cv dd d := by
  cases x with
  | x0 q => exact .x0 q
  | x1 q g r => exact .x1 q (e _ _ g) (r.mono e)
theorem kit_of {C E : Addr} {b : Bool} (c : PySem.W.isClsIn K E = true) (t : PySem.W.typeIn K (.ref E) = some (.type "type")) (s : PySem.W.subIn K (.ref C) (.ref E) = some b) (ref : C = E → b = true) : PySem.W.kitOne K (.ref C) (.ref E) = some b := by
  unfold PySem.W.kitOne
  by_cases h : (Value.ref C == Value.ref E) = true
  · rw [if_pos h, ref (Value.ref.inj (beq_iff_eq.mp h))]
  · rw [if_neg h]
    have c' : (PySem.W.clsIn K E).isSome = true := c
    unfold PySem.W.kitCls
    dsimp only
    rw [if_pos (by rw [c', t]; rfl)]
    exact s
theorem kit_ve {C : Addr} (s : PySem.W.subIn K (.ref C) (.type "ValueError") = some true) : PySem.W.kitOne K (.ref C) (.type "ValueError") = some true := by
  unfold PySem.W.kitOne
  rw [if_neg (fun h => by cases beq_iff_eq.mp h)]
  unfold PySem.W.kitCls
  dsimp only
  rw [if_pos (by decide +kernel)]
  exact s
theorem exm_of' {C E : Addr} {b : Bool} (c : XcD K E) (s : PySem.W.subIn K (.ref C) (.ref E) = some b) : PySem.W.exmOne K (.ref C) (.ref E) = some b := by
  have c' : (PySem.W.clsIn K E).isSome = true := c.cl
  unfold PySem.W.exmOne PySem.W.kitCls
  rw [if_pos (by rw [c.sb]; rfl)]
  dsimp only
  rw [if_pos (by rw [c', c.ty]; rfl)]
  exact s
end
section
variable {X : Cx}
theorem isxD_eq {c : Cl} {nm D : Str} {b : Bool} (h : isxD c nm D = some b) : nm ∈ c.rzs ∧ (D = "ValueError" ∧ b = true ∨ D ≠ "ValueError" ∧ D ∈ c.cls ∧ b = subX nm D) := by
  unfold isxD at h
  split at h
  · rename_i h1
    refine ⟨by simpa using h1, ?_⟩
    split at h
    · rename_i h2
      cases h
      exact .inl ⟨h2, rfl⟩
    · rename_i h2
      split at h
      · rename_i h3
        cases h
        exact .inr ⟨h2, by simpa using h3, rfl⟩
      · cases h
  · cases h
/-- isinstance(e, c), e an exception that was kept -/
def rKept (K : PySem.W.Frag) : List V → Hp → VK → Prop := fun xs H Q => ∃ (a C : Addr) (dd : Option Addr) (c : V) (cv : Value) (b : Bool), xs = [.ref a, c] ∧ H a = some (ExC (.ref C) dd a) ∧ (∀ d, dd = some d → ∃ fs, H d = some (.xd fs)) ∧ XcK K C ∧ (∀ u, RelV c u → u = cv) ∧ PySem.W.kitOne K (.ref C) cv = some b ∧ Q (.bl b) H
theorem inst_kept {pins : List (Addr × Obj)} {s : Shared} {σ : L2.St} {H : Hp} {a C : Addr} {dd : Option Addr} (I : Inv X pins σ H s) (h : H a = some (ExC (.ref C) dd a)) (hd : ∀ d, dd = some d → ∃ fs, H d = some (.xd fs)) : ∃ ox od, PySem.W.InstAt s.heap a ox C od := by
  obtain ⟨⟨ox, vs, e, ⟨z1, z2⟩, q⟩, _, _⟩ := I.hok a _ h
  cases dd with
  | none =>
    exact ⟨ox, none, e, z1, by unfold PySem.W.notCls; rw [q], by rw [z2]; trivial⟩
  | some d =>
    obtain ⟨fs, hf⟩ := hd d rfl
    obtain ⟨_, ⟨od, _, _, e2, _⟩, _⟩ := I.hok d _ hf
    exact ⟨ox, some od, e, z1, by unfold PySem.W.notCls; rw [q], by rw [z2]; exact e2⟩
theorem call_kept (sp : PySem.W.specialIn X.K (.builtin "object.__class__") "__get__" = some (some (.builtin "getset_descriptor.__get__")) ∧ PySem.W.takesIn X.K (.builtin "object.__class__") = some true) : CallR X (.builtin "isinstance") (rKept X.K) := by
  intro pins s σ H xs us Q I r ⟨a, C, dd, c, cv, b, e1, h1, h2, k, h3, h4, q⟩
  subst e1
  cases r with
  | cons rx rr =>
    cases rr with
    | cons rt rr =>
      cases rr
      cases rx
      rw [h3 _ rt]
      obtain ⟨ox, od, J⟩ := inst_kept I h1 h2
      have cl : (PySem.W.clsIn X.K C).isSome = true := k.cl
      exact PySem.W.kia_one (PySem.W.kitx_exc (od := od) cl k.ga k.gt k.sb k.ca sp.1 sp.2 k.mo) I.kIn J h4 (fun z => nomatch z) fun tk => ⟨.bl b, H, I.kept (t' := tk) fun _ _ z => z, rfl, q⟩
/-- e.f -/
def tKeptF (K : PySem.W.Frag) (f : Str) (te : TE) : TE := fun σ H Q => te σ H fun x H1 => ∃ (a C d : Addr) (w : V), x = .ref a ∧ H1 a = some (ExC (.ref C) (some d) a) ∧ H1 d = some (.xd [(f, w)]) ∧ XcK K C ∧ PySem.W.findIn K (.ref C) f = some none ∧ Q w H1
theorem pe_keptF {e : Expr} {te : TE} {f : Str} {pos : Pos} (he : PE X e te) (hb : attributeBase e f X.env (eval e X.env) = eval e X.env) : PE X (.Attribute e f pos) (tKeptF X.K f te) := by
  refine ⟨fun pins s σ H Q I h => attr_of hb (thn (he.run pins s σ H _ I h) fun u s1 hh => ?_)⟩
  obtain ⟨x, H1, I1, rx, a, C, d, w, ex, h1, h2, k, hno, q⟩ := hh
  subst ex
  obtain rfl : u = Value.ref a := rx
  obtain ⟨⟨ox, vs, e1, ⟨z1, z2⟩, q1⟩, _, _⟩ := I1.hok a _ h1
  have hx : ObjOk X.prog X.w H1 s1.heap d (.xd [(f, w)]) := I1.hok d _ h2
  obtain ⟨mA, hns, hr⟩ := hx
  obtain ⟨od, ho, hl⟩ := lookIn_ns hns
  have hw : ([(f, w)] : List (Str × V)).lookup f = some w := by simp [List.lookup]
  obtain ⟨u, hu, ru⟩ := RelO.some_of (v := w) (o := mA f) (by rw [← hw]; exact hr f)
  have J : PySem.W.InstAt s1.heap a ox C (some od) := ⟨e1, z1, by unfold PySem.W.notCls; rw [q1], by rw [z2]; exact ho⟩
  exact HandSPX.exc_get I1.kIn J k.ga k.gt k.sb (PySem.W.findObj_own k.hd hno rfl (by rw [hl, hu])) (handed_of ru) ⟨w, H1, I1.tok _, ru, q⟩
end
end Mn

namespace Mn
open PySem PySem.Spec PyProof.Rows L2
/-- the base's __init__, read off the base -/
structure SeI (K : PySem.W.Frag) (mg : Str → Option Value) (S : Addr) : Prop where
  gS : mg "SplitError" = some (.ref S)
  rd : PySem.W.readsIn K S (.type "type") = true
  ga : PySem.W.specialIn K (.ref S) "__getattribute__" = some (some (.builtin "type.__getattribute__"))
  at_ : PySem.W.findCls K (.ref S) (.type "type") "__init__" = some (.val (.builtin "ValueError.__init__"))
section
variable {X : Cx} {S : Addr} {e : Expr} {es : List Expr} {ta : TA} {p1 p2 pos : Pos}
theorem pe_seinit {pl : Sem Bool} (T : SeI X.K X.mg S) (hg : Gl X "SplitError") (ha : PA X (e :: es) ta)
    (hc : eval (.Call (.Attribute (.Name "SplitError" p1) "__init__" p2) (e :: es) [] pos) X.env = (do
      let ov ← eval (.Name "SplitError" p1) X.env
      standAt p2.atName
      let (f, first) ← holding [ov] (getMethod ov "__init__" pl)
      callWith pos f first (backTo pos (starEach (e :: es) X.env)) (backToKw pos (keywordEach [] X.env))) := by rfl)
    (he : starEach (e :: es) X.env = (false, eval e X.env) :: starEach es X.env := by rfl) (hpl : (backTo pos (starEach es X.env)).any (·.1) = false := by rfl) :
    PE X (.Call (.Attribute (.Name "SplitError" p1) "__init__" p2) (e :: es) [] pos) (tVeI X.K ta) := by
  refine ⟨fun pins s σ H Q I h => PySem.W.methodCall_KW (ld_glob I hg T.gS ?_ (by decide +kernel)) hc⟩
  refine PySem.W.method_cls I.kIn T.ga (PySem.W.cls_value I.kIn T.rd T.at_ (by decide +kernel) ?_)
  refine PyProof.Rows.callWith_method1 (thn (ha.run pos pins _ σ H _ (I.tok _) h) fun us s1 hh => ?_) he hpl
  obtain ⟨vs, H1, I1, r1, a, C, ws, ev, hl, To, ea, q⟩ := hh
  subst ev
  cases r1 with
  | @cons _ u0 _ ur ra rw' =>
    obtain rfl : u0 = Value.ref a := ra
    exact oinit_ok To I1 ea (by rw [← Paired.length rw', sizeLine_eq]; omega) fun s' J => ⟨.non, H1, J, rfl, q⟩
end
/-- what such an __init__ promises -/
def spI (C : Addr) (f : Str) : Sp := fun vs H Q _ => ∃ a v, vs = [.ref a, v] ∧ H a = some (exo a C none) ∧ ∀ dx, H dx = none → dx ≠ a → Q .non (upd (upd H dx (exd dx [(f, v)])) a (exo a C (some dx)))
/-- a class of exceptions with a field -/
structure X1 (P : Program) (w : World) (K : PySem.W.Frag) (mg : Str → Option Value) (base : Heap) (nm f : Str) : Prop where
  ex : ∃ (C fI : Addr) (fd : FuncData) (ps : List Str), ClsAt K nm C ∧ mg nm = some (.ref C) ∧ OexC K C ∧ PySem.W.findIn K (.ref C) "__init__" = some (some (.ref fI)) ∧ PySem.W.typeIn K (.ref fI) = some (.type "function") ∧ Binds K fd ps [] ∧ FnOk P w K mg base CX0 1 fI fd ps (spI C f)
theorem upd_del {H : Hp} {a dx : Addr} {f : Str} {v : V} {C : Addr} (na : H a = none) (ne : dx ≠ a) : upd (del (upd (upd (upd H a (exo a C none)) dx (exd dx [(f, v)])) a (exo a C (some dx))) a) dx (.xd [(f, v)]) = upd H dx (.xd [(f, v)]) := by
  funext b
  by_cases h1 : b = dx
  · subst h1; rw [upd_same, upd_same]
  · rw [upd_ne h1, upd_ne h1]
    by_cases h2 : b = a
    · subst h2; rw [del_same, na]
    · rw [del_ne h2, upd_ne h2, upd_ne h1, upd_ne h2]
section
variable {X : Cx} {Wx : WX} {e : Expr} {te : TE} {nm f : Str} {p pos pos2 : Pos}
theorem ps_rs1 (hc : X.calm = true) (tk : Takes X Wx) (h : X1 X.prog X.w X.K X.mg X.base nm f) (hr : Room 2 X.A) (hg : Gl X nm) (hd : (nm == ("__debug__" : Str)) = false) (he : PE X e te) (hs : starEach (e :: []) X.env = (false, eval e X.env) :: starEach [] X.env) :
    ∃ C, ClsAt X.K nm C ∧ PS X (.Raise (some (.Call (.Name nm p) [e] [] pos)) none pos2) (fun _ σ H => tMkO C (spI C f) [] (tCons te tNil) σ H fun cls d H' => Wx cls d σ H') := by
  obtain ⟨C, fI, fd, ps, h1, h2, h3, h4, h5, h6, h7⟩ := h.ex
  exact ⟨C, h1, ps_raise hc tk (pmk_oex (X := X) (x := nm) (e := e) (es := []) (ta := tCons te tNil) (p := p) (pos := pos) (ds := []) (dvs := []) h3 h4 h5 h7 hr h6 .nil (fun _ _ _ _ _ _ _ q => q.elim) hg h2 (pa_cons he pa_nil hs) hd hs (by rfl))⟩
theorem mk_go {C : Addr} {v : V} {H1 : Hp} {Q : XK} {E : XK} (h : ∀ dx, H1 dx = none → Q (.ref C) (some dx) (upd H1 dx (.xd [(f, v)]))) :
    [v].length ≤ 1000 ∧ ∀ a, H1 a = none → spI C f (.ref a :: ([v] ++ [])) (upd H1 a (exo a C none)) (fun u H2 => u = .non ∧ ∃ (d : Addr) (fs : List (Str × V)), H2 a = some (exo a C (some d)) ∧ H2 d = some (exd d fs) ∧ H1 d = none ∧ Q (.ref C) (some d) (upd (del H2 a) d (.xd fs))) E :=
  ⟨by simp, fun a na => ⟨a, v, rfl, upd_same, fun dx nd ne => by
    rw [upd_ne ne] at nd
    exact ⟨rfl, dx, [(f, v)], upd_same, by rw [upd_ne ne, upd_same], nd, by rw [upd_del na ne]; exact h dx nd⟩⟩⟩
end
/-- an exception that is made and kept -/
theorem pe_of_pmk {X : Cx} {e : Expr} {t : L2.St → Hp → XK → Prop} (h : PMk X e t) : PE X e (fun σ H Q => t σ H fun cls d H' => ∀ a, H' a = none → Q (.ref a) (upd H' a (ExC cls d a))) := by
  refine ⟨fun pins s σ H Q I hq => wpAny_mono (h pins s σ H _ I hq) (fun u s1 hu => ?_) fun _ _ x => x⟩
  obtain ⟨a, oe, vs, sI, H', cls, d, rfl, J, k, hne, ha, hz, hd, h1, na, os, ag, r, q⟩ := hu
  have I1 : Inv X pins σ H' s1 := Inv.landed (B := sI.heap) J (fun b o e _ => e) k (fun b o e _ => ⟨o.slots, k b o e⟩) os ag
  have nL : a ≠ X.env.locals := fun e => by
    obtain ⟨m, hn, _⟩ := J.loc
    obtain ⟨o, _, _, q1, _⟩ := hn
    rw [e, q1] at hne
    cases hne
  exact ⟨.ref a, _, track J I1 hne nL na (exC_ok ha hz hd), rfl, q a na⟩
/-- what a module's dict of texts holds -/
def GdAt (K : PySem.W.Frag) (mg : Str → Option Value) (w : World) (gds : List (Str × List (Str × Str))) : Prop := ∀ x kvs, gds.lookup x = some kvs → ∃ a, mg x = some (.ref a) ∧ ∀ z v, kvs.lookup z = some v → KDct K w a z (.str v)
theorem GdAt.none {K : PySem.W.Frag} {mg : Str → Option Value} {w : World} : GdAt K mg w [] := fun _ _ h => by cases h
end Mn

namespace Mn
open PySem PySem.Spec PyProof.Rows L2

structure Sx where
  sc : Scope
  N : List Str
  fn : Str → Bool
  fns : List Str
  gls : List Str
  /-- defs that may raise -/
  xns : List Str := []
def Sx.vis (s : Sx) (x : Str) : Bool := match s.sc.names.lookup x with
  | some .local => true
  | some .cell => true
  | some .free => true
  | _ => false
def Sx.glo (s : Sx) (x : Str) : Bool := decide (s.sc.names.lookup x = some .globalImplicit)
def Sx.loc (s : Sx) (x : Str) : Bool := match s.sc.names.lookup x with
  | some .local => true
  | some .cell => s.fn x
  | _ => false
def okN (x : Str) : Bool := !(x == ("__debug__" : Str)) && !(x == ("__classdict__" : Str))
def boIs : Bo → Operator → Bool
  | .add, .Add => true
  | .sub, .Sub => true
  | .mul, .Mult => true
  | .fdiv, .FloorDiv => true
  | .mod, .Mod => true
  | .pow, .Pow => true
  | _, _ => false
def coIs : Co → CmpOp → Bool
  | .eq, .Eq => true
  | .ne, .NotEq => true
  | .lt, .Lt => true
  | .le, .LtE => true
  | .gt, .Gt => true
  | .ge, .GtE => true
  | .isN, .Is => true
  | .noN, .IsNot => true
  | .inn, .In => true
  | .nin, .NotIn => true
  | _, _ => false
def biN : Bi → Str
  | .len => "len"
  | .sum => "sum"
  | .min2 => "min"
  | .max2 => "max"
  | .minL => "min"
  | .maxL => "max"
  | .any => "any"
  | .all => "all"
  | .int => "int"
  | .str => "str"
  | .tup => "tuple"
  | .list => "list"
  | .sorted => "sorted"
  | .isI _ => "isinstance"
def tyS (t : Ty) : Str := (tyN t : String)
def biT : Bi → Ty
  | .isI t => t
  | _ => .int
def bnames : List Str := ["len", "sum", "min", "max", "any", "all", "int", "str", "tuple", "list", "sorted", "isinstance", "bool", "dict", "range", "zip", "enumerate", "reversed"]
def baseOk : Expr → Bool
  | .Call (.Name _ _) [] [] _ => false
  | _ => true
def Sx.blk (s : Sx) (scope : Scope) : Sx := { s with sc := relS scope s.sc, fn := fun x => scope.names.lookup x == some .cell }
def tgIn : Tg → List Nat → Bool
  | .nm i, own => own.contains i
  | .tp is, own => is.all own.contains
def chkNs (s : Sx) : List Nat → List Expr → Bool
  | [], [] => true
  | i :: is, .Name x _ :: es => decide (s.N[i]? = some x) && s.loc x && chkNs s is es
  | _, _ => false
def chkTg (s : Sx) : Tg → Expr → Bool
  | .nm i, .Name x _ => decide (s.N[i]? = some x) && s.loc x
  | .tp is, .Tuple es _ _ => chkNs s is es
  | _, _ => false
def isTup : Expr → Bool
  | .Tuple _ _ _ => true
  | _ => false
def chkKv : List (Str × Str) → List (Option Expr) → List Expr → Bool
  | [], [], [] => true
  | (a, b) :: r, some (.Constant (.str x) _ _) :: ks, .Constant (.str y) _ _ :: vs => decide (a = x) && decide (b = y) && chkKv r ks vs
  | _, _, _ => false
def ownN (s : Sx) (own : List Nat) : List (Str × Nat) := own.map fun i => (s.N.getD i ⟨#[]⟩, i)
mutual
def chkE : Ex → Sx → Expr → Bool
  | .var i, s, e => match e with
    | .Name x _ => decide (s.N[i]? = some x) && s.vis x && okN x
    | _ => false
  | .int i, s, e => match e with
    | .Constant (.int j) _ _ => decide (i = j)
    | _ => false
  | .str x, s, e => match e with
    | .Constant (.str y) _ _ => decide (x = y)
    | _ => false
  | .bl x, s, e => match e with
    | .Constant (.bool y) _ _ => decide (x = y)
    | _ => false
  | .non, s, e => match e with
    | .Constant .none _ _ => true
    | _ => false
  | .glb g, s, e => match e with
    | .Name x _ => decide (s.gls[g]? = some x) && s.glo x && okN x
    | _ => false
  | .bin o a b, s, e => match e with
    | .BinOp l op r _ => boIs o op && chkE a s l && chkE b s r
    | _ => false
  | .neg a, s, e => match e with
    | .UnaryOp .USub x _ => chkE a s x
    | _ => false
  | .not a, s, e => match e with
    | .UnaryOp .Not x _ => chkE a s x
    | _ => false
  | .one a, s, e => match e with
    | .BoolOp _ [x] _ => chkE a s x
    | _ => false
  | .and a b, s, e => match e with
    | .BoolOp .And (x :: y :: r) pos => chkE a s x && chkE b s (.BoolOp .And (y :: r) pos)
    | _ => false
  | .or a b, s, e => match e with
    | .BoolOp .Or (x :: y :: r) pos => chkE a s x && chkE b s (.BoolOp .Or (y :: r) pos)
    | _ => false
  | .cmp o a b, s, e => match e with
    | .Compare l [op] [r] _ => coIs o op && chkE a s l && chkE b s r && !behindInMarks op r
    | _ => false
  | .chn o o' a b c, s, e => match e with
    | .Compare l [op, op'] [m, r] _ => coIs o op && coIs o' op' && chkE a s l && chkE b s m && chkE c s r && !lastMarks [op, op'] [m, r]
    | _ => false
  | .chn3 o o' o2 a b c d, s, e => match e with
    | .Compare l [op, op', op2] [m, n, r] _ => coIs o op && coIs o' op' && coIs o2 op2 && chkE a s l && chkE b s m && chkE c s n && chkE d s r && !lastMarks [op, op', op2] [m, n, r]
    | _ => false
  | .dsx kvs k, s, e => match e with
    | .Subscript (.Dict ks vs _) y _ => chkKv kvs ks vs && decide (kvs.length ≤ 15) && !kvs.isEmpty && chkE k s y
    | _ => false
  | .dsv k1 k2 a b k, s, e => match e with
    | .Subscript (.Dict [some (.Constant (.str x) _ _), some (.Constant (.str z) _ _)] [v, w] _) y _ => decide (x = k1) && decide (z = k2) && chkE a s v && chkE b s w && chkE k s y
    | _ => false
  | .isx a D, s, e => match e with
    | .Call (.Name x _) [y, .Name z _] [] _ => decide (x = "isinstance") && s.glo x && decide (z = D) && s.glo z && okN z && chkE a s y
    | _ => false
  | .fld a f, s, e => match e with
    | .Attribute o nm _ => decide (nm = f) && baseOk o && chkE a s o
    | _ => false
  | .mkx C a, s, e => match e with
    | .Call (.Name x _) [v] [] _ => decide (x = C) && s.glo x && okN x && chkE a s v
    | _ => false
  | .gdx g k, s, e => match e with
    | .Subscript (.Name x _) y _ => decide (x = g) && s.glo x && okN x && chkE k s y
    | _ => false
  | .lenD i, s, e => match e with
    | .Call (.Name y _) [.Name x _] [] _ => decide (y = "len") && s.glo y && decide (s.N[i]? = some x) && s.vis x && okN x
    | _ => false
  | .lenI i k, s, e => match e with
    | .Call (.Name y _) [.Subscript (.Name x _) ix _] [] _ => decide (y = "len") && s.glo y && decide (s.N[i]? = some x) && s.vis x && okN x && chkE k s ix
    | _ => false
  | .rvt a, s, e => match e with
    | .Call (.Name y _) [.Call (.Name z _) [v] [] _] [] _ => decide (y = "tuple") && s.glo y && decide (z = "reversed") && s.glo z && chkE a s v
    | _ => false
  | .rvl a, s, e => match e with
    | .Call (.Name y _) [.Call (.Name z _) [v] [] _] [] _ => decide (y = "list") && s.glo y && decide (z = "reversed") && s.glo z && chkE a s v
    | _ => false
  | .sls a lo st, s, e => match e with
    | .Subscript x (.Slice (some (.Constant (.int l) _ _)) none (some (.Constant (.int k) _ _)) _) _ => decide (l = lo) && decide (k = st) && chkE a s x
    | _ => false
  | .ite t a b, s, e => match e with
    | .IfExp x y z _ => chkE t s x && chkE a s y && chkE b s z
    | _ => false
  | .tup es, s, e => match e with
    | .Tuple xs _ _ => chkEs es s xs
    | _ => false
  | .lst es, s, e => match e with
    | .List xs _ => chkEs es s xs
    | _ => false
  | .call f es, s, e => match e with
    | .Call (.Name x _) xs [] _ => decide (s.fns[f]? = some x) && s.glo x && okN x && chkEs es s xs
    | _ => false
  | .bi b es, s, e => match e with
    | .Call (.Name x _) xs [] _ => decide (x = biN b) && s.glo x && (if isIsI b then (match xs with
      | [y, .Name z _] => decide (z = tyS (biT b)) && s.glo z && chkEs es s [y]
      | _ => false) else !xs.isEmpty && chkEs es s xs)
    | _ => false
  | .mt m a es, s, e => match e with
    | .Call (.Attribute o nm apos) [x] [] cpos => (match m with
      | .join => decide (nm = "join")
      | .index => decide (nm = "index")
      | .count => decide (nm = "count")
      | .split => decide (nm = "split")
      | _ => false) && (apos.endLine == cpos.line) && baseOk o && chkE a s o && chkEs es s [x]
    | _ => false
  | .idx a i, s, e => match e with
    | .Subscript x y _ => chkE a s x && chkE i s y
    | _ => false
  | .slc a lo hi, s, e => match e with
    | .Subscript x (.Slice l h none _) _ => chkE a s x && chkO lo s l && chkO hi s h
    | _ => false
  | .emp, s, e => false
  | .comp e tg it t own, s, p => match p with
    | .ListComp elt [⟨tg', iter, ifs, k⟩] scope _ => decide (k = 0) && blkC s.N s.sc scope (ownN s own) && tgIn tg own && chkI it s tg' iter && chkTg (s.blk scope) tg tg' && chkE e (s.blk scope) elt && chkT t (s.blk scope) ifs
    | _ => false
def chkO : Ex → Sx → Option Expr → Bool
  | .emp, _, e => match e with
    | none => true
    | _ => false
  | .one a, s, e => match e with
    | some x => chkE a s x
    | _ => false
  | _, _, _ => false
def chkT : Ex → Sx → List Expr → Bool
  | .emp, _, e => match e with
    | [] => true
    | _ => false
  | .one a, s, e => match e with
    | [x] => chkE a s x
    | _ => false
  | _, _, _ => false
def chkEs : Exs → Sx → List Expr → Bool
  | .nil, _, e => match e with
    | [] => true
    | _ => false
  | .cons a as, s, e => match e with
    | x :: xs => chkE a s x && chkEs as s xs
    | _ => false
def chkI : Itr → Sx → Expr → Expr → Bool
  | .ex a, s, _, e => chkE a s e
  | .r1 a, s, _, e => match e with
    | .Call (.Name x _) [y] [] _ => decide (x = "range") && s.glo x && chkE a s y
    | _ => false
  | .r2 a b, s, _, e => match e with
    | .Call (.Name x _) [y, z] [] _ => decide (x = "range") && s.glo x && chkE a s y && chkE b s z
    | _ => false
  | .r3 a b c, s, _, e => match e with
    | .Call (.Name x _) [y, z, w] [] _ => decide (x = "range") && s.glo x && chkE a s y && chkE b s z && chkE c s w
    | _ => false
  | .zip a b, s, tg, e => match e with
    | .Call (.Name x _) [y, z] [] _ => decide (x = "zip") && s.glo x && isTup tg && chkE a s y && chkE b s z
    | _ => false
  | .zip3 a b c, s, tg, e => match e with
    | .Call (.Name x _) [y, z, w] [] _ => decide (x = "zip") && s.glo x && isTup tg && chkE a s y && chkE b s z && chkE c s w
    | _ => false
  | .en a, s, tg, e => match e with
    | .Call (.Name x _) [y] [] _ => decide (x = "enumerate") && s.glo x && isTup tg && chkE a s y
    | _ => false
  | .rv a, s, tg, e => match e with
    | .Call (.Name x _) [y] [] _ => decide (x = "reversed") && s.glo x && chkE a s y
    | _ => false
  | .exD i k, s, tg, e => match e with
    | .Subscript (.Name x _) ix _ => decide (s.N[i]? = some x) && s.vis x && okN x && chkE k s ix
    | _ => false
  | .zipD i k j l, s, tg, e => match e with
    | .Call (.Name z _) [.Subscript (.Name x _) ix p, .Subscript (.Name y _) iy q] [] _ => decide (z = "zip") && s.glo z && isTup tg && (decide (s.N[i]? = some x) && s.vis x && okN x && chkE k s ix) && (decide (s.N[j]? = some y) && s.vis y && okN y && chkE l s iy)
    | _ => false
end

def plainX : Expr → Bool
  | .Starred _ _ => false
  | .Slice _ _ _ _ => false
  | .Set _ _ _ => false
  | _ => true
theorem chk_plain {a : Ex} {s : Sx} {e : Expr} (h : chkE a s e = true) : plainX e = true := by
  cases e with
  | Starred _ _ => cases a <;> simp [chkE] at h
  | Slice _ _ _ _ => cases a <;> simp [chkE] at h
  | Set _ _ _ => cases a <;> simp [chkE] at h
  | _ => rfl
theorem star_of {e : Expr} (h : plainX e = true) (es : List Expr) (env : Env) : starEach (e :: es) env = (false, eval e env) :: starEach es env := by
  cases e with
  | Starred _ _ => cases h
  | _ => rfl
theorem set_of {e : Expr} (h : plainX e = true) (env : Env) (x : Value) : foldedSetIterable e env x = pure x := by
  cases e with
  | Set _ _ _ => cases h
  | _ => rfl
theorem ix_of {e : Expr} (h : plainX e = true) : PlainIx e := by
  intro o i
  cases e with
  | Slice _ _ _ _ => cases h
  | _ => rfl
theorem chks_plain : ∀ {as : Exs} {s : Sx} {es : List Expr}, chkEs as s es = true → ∀ e ∈ es, plainX e = true
  | .nil, s, [], _, e, he => by simp at he
  | .nil, s, _ :: _, h, _, _ => by simp [chkEs] at h
  | .cons a as, s, [], h, _, _ => by simp [chkEs] at h
  | .cons a as, s, x :: xs, h, e, he => by
    simp only [chkEs, Bool.and_eq_true] at h
    rcases List.mem_cons.mp he with rfl | he
    · exact chk_plain h.1
    · exact chks_plain h.2 e he
theorem plain_any {env : Env} {pos : Pos} : ∀ {es : List Expr}, (∀ e ∈ es, plainX e = true) → (backTo pos (starEach es env)).any (·.1) = false
  | [], _ => rfl
  | e :: es, h => by
    rw [star_of (h e (by simp)) es env]
    show (false || (backTo pos (starEach es env)).any (·.1)) = false
    rw [plain_any fun x hx => h x (List.mem_cons_of_mem _ hx)]
    rfl
theorem base_of {o : Expr} (h : baseOk o = true) (nm : Str) (env : Env) (w : Sem Value) : attributeBase o nm env w = w := by
  unfold attributeBase
  split
  · cases h
  · rfl

structure Callee (X : Cx) (nm : Str) (np : Nat) (sem : List PyData → Option RV) : Prop where
  ex : ∃ (CX : CXT) (k : Nat) (f : Addr) (fd : FuncData) (ps : List Str), Room k X.A ∧ X.mg nm = some (.ref f) ∧ PySem.W.keepIn X.K (.ref f) = true ∧ Binds X.K fd ps [] ∧
    FnOk X.prog X.w X.K X.mg X.base CX k f fd ps (fun vs H Q _ => ∃ F ds r, Same F H ∧ RpAll X.K F vs ds ∧ ds.length = np ∧ sem ds = some r ∧ ∀ v F' H', Ext F H F' H' → View X.K F' H' v r → New r v H H' → Q v H') ∧
    ∀ outer H s e s', CX outer H s E0 e s' → False
/-- a def that may raise -/
structure CalleeX (X : Cx) (nm : Str) (np : Nat) (sem : List PyData → Option RV) : Prop where
  ex : ∃ (k : Nat) (f : Addr) (fd : FuncData) (ps : List Str), Room k X.A ∧ X.mg nm = some (.ref f) ∧ PySem.W.keepIn X.K (.ref f) = true ∧ Binds X.K fd ps [] ∧
    FnOk X.prog X.w X.K X.mg X.base (L2.CX X.prog X.w) k f fd ps (fun vs H Q E => ∃ F ds r, Same F H ∧ RpAll X.K F vs ds ∧ ds.length = np ∧ sem ds = some r ∧ (∀ v F' H', Ext F H F' H' → View X.K F' H' v r → New r v H H' → Q v H') ∧
      ∀ d, r = .xr d → ∀ F' H' cv dd, Ext F H F' H' → Xat X.K F' cv dd d → E cv dd H')
structure CO (X : Cx) (s : Sx) (c : Cl) : Prop where
  sc : X.env.scope = s.sc
  N : X.N = s.N
  nd : X.N.Nodup
  fn : X.fn = s.fn
  calm : X.calm = true
  un : X.A.units + 200 < cLine
  bn : ∀ x ∈ bnames, X.mg x = none
  fns : ∀ f x, s.fns[f]? = some x → ∃ np, (∀ ds r, c.call f ds = some r → ds.length = np) ∧ Callee X x np (c.call f)
  gls : ∀ g x d, s.gls[g]? = some x → c.glb g = some d → ∃ u v, X.mg x = some u ∧ RelV v u ∧ ∀ F, Rp X.K F v d
  xfn : ∀ f x, s.xns[f]? = some x → ∃ np, (∀ ds r, c.callx f ds = some r → ds.length = np) ∧ CalleeX X x np (c.callx f)
  xc : XcOk X.K X.mg c.rzs c.cls c.fls c.m0s
  x1 : ∀ nm f, c.m1s.lookup nm = some f → X1 X.prog X.w X.K X.mg X.base nm f ∧ Room 2 X.A
  gd : GdAt X.K X.mg X.w c.gds
structure EnvOk (K : PySem.W.Frag) (F H : Hp) (env : Ev) (σ : L2.St) : Prop where
  sub : Same F H
  len : env.length = σ.length
  at_ : ∀ (i : Nat) r, env[i]? = some (some r) → ∃ v, σ[i]? = some (some v) ∧ View K F H v r
theorem EnvOk.ext {K : PySem.W.Frag} {F H F' H' : Hp} {env : Ev} {σ : L2.St} (ok : EnvOk K F H env σ) (x : Ext F H F' H') : EnvOk K F' H' env σ :=
  ⟨x.sub, ok.len, fun i r h => let ⟨v, h1, h2⟩ := ok.at_ i r h; ⟨v, h1, h2.ext x⟩⟩
def tE (K : PySem.W.Frag) (c : Cl) (e : Ex) : TE := fun σ H Q => ∃ F env r, EnvOk K F H env σ ∧ ev c env e = some r ∧ ∀ v F' H', Ext F H F' H' → View K F' H' v r → (isVar e = false → New r v H H') → Q v H'
def tT (K : PySem.W.Frag) (c : Cl) (e : Ex) : TT := fun σ H Q => ∃ F env b, EnvOk K F H env σ ∧ ev c env e = some (.fz (.bool b)) ∧ ∀ F' H', Ext F H F' H' → Q b H'
def tA (K : PySem.W.Frag) (c : Cl) (es : Exs) : TA := fun σ H Q => ∃ F env rs, EnvOk K F H env σ ∧ evr c env es = some rs ∧ ∀ vs F' H', Ext F H F' H' → Views K F' H' vs rs → Q vs H'
section
variable {X : Cx} {s : Sx} {c : Cl}
theorem CO.glo (C : CO X s c) {x : Str} (h : s.glo x = true) : Gl X x := by
  show X.env.scope.names.lookup x = some .globalImplicit
  rw [C.sc]
  exact of_decide_eq_true h
theorem CO.vis (C : CO X s c) {x : Str} (h : s.vis x = true) : Vis X.env.scope x := by
  unfold Vis
  rw [C.sc]
  unfold Sx.vis at h
  split at h <;> first | (cases h; done) | simp [*]
theorem okN1 {x : Str} (h : okN x = true) : (x == ("__debug__" : Str)) = false ∧ (x == ("__classdict__" : Str)) = false := by
  simp only [okN, Bool.and_eq_true, Bool.not_eq_true'] at h
  exact h
theorem CO.blk (C : CO X s c) {s1 : Shared} {H : Hp} {scope : Scope} {cl : List (Str × Addr)} {a : Addr} {fp : List Addr} : CO (X.blk s1 H scope (compEnvC scope cl a X.env) fp) (s.blk scope) c where
  sc := by
    show relabel scope X.env = relS scope s.sc
    rw [← C.sc]
    rfl
  N := C.N
  nd := C.nd
  fn := rfl
  calm := C.calm
  un := C.un
  bn := C.bn
  fns := fun f x h => by
    obtain ⟨np, h1, h2⟩ := C.fns f x h
    exact ⟨np, h1, ⟨h2.ex⟩⟩
  gls := C.gls
  xfn := fun f x h => by
    obtain ⟨np, h1, h2⟩ := C.xfn f x h
    exact ⟨np, h1, ⟨h2.ex⟩⟩
  xc := C.xc
  x1 := C.x1
  gd := C.gd
end
end Mn

namespace Mn
open PySem PySem.Spec PyProof.Rows L2

def tAs (K : PySem.W.Frag) (c : Cl) (es : Exs) : TA := fun σ H Q => ∃ F env ds, EnvOk K F H env σ ∧ evs c env es = some ds ∧ ∀ vs F' H', Ext F H F' H' → RpAll K F' vs ds → Q vs H'
def tAb (K : PySem.W.Frag) (c : Cl) (es : Exs) : TA := fun σ H Q => ∃ F env ds b, EnvOk K F H env σ ∧ evb c env es = some (ds, b) ∧ ∀ vs F' H', Ext F H F' H' → (∃ F1, Same F' F1 ∧ Same F1 H' ∧ NoTu F' F1 ∧ RpAll K F1 vs ds) → (b = false → RpAll K F' vs ds) → Q vs H'
/-- what may be walked: Fg guards it, F holds the items -/
def WalkD (K : PySem.W.Frag) (F Fg : Hp) (J : It) (items : List PyData) : Prop :=
  ∀ H2 F2, Same Fg H2 → Same F F2 → Same F2 H2 → J.stop items.length H2 ∧ ∀ (i : Nat) d, items[i]? = some d → J.go i H2 ∧ ∀ x H3, J.yld i H2 x H3 → ∃ F3, Ext F2 H2 F3 H3 ∧ Rp K F3 x d
def tI (K : PySem.W.Frag) (c : Cl) (it : Itr) : TI := fun σ H R => ∃ F env items, EnvOk K F H env σ ∧ evi c env it = some items ∧ ∀ J F' H', Ext F H F' H' → WalkD K F' H' J items → (borI c env it = false → ∃ F2, Ext F H F2 H' ∧ WalkD K F2 F2 J items) → R J H'
theorem own_rp {K : PySem.W.Frag} {F H F1 H1 : Hp} {e : Ex} {r : RV} {d : PyData} {v : V} (h : ownD e r = some d) (x : Ext F H F1 H1) (w : View K F1 H1 v r) (n : isVar e = false → New r v H H1) : d = r.d ∧ ∃ F2, Ext F H F2 H1 ∧ Rp K F2 v d := by
  unfold ownD at h
  split at h
  · cases h
  · rename_i hb
    cases h
    refine ⟨rfl, ?_⟩
    by_cases hv : isVar e = true
    · rw [hv, Bool.true_and] at hb
      cases w with
      | fz q => exact ⟨F1, x, q⟩
      | own f h2 q => exact absurd q.isOwn hb
    · exact w.freeze x (n (by simpa using hv))
theorem asInt_eq {r : RV} {i : Int} (h : asInt r = some i) : r = .fz (.int i) := by
  unfold asInt at h
  split at h
  · cases h; rfl
  · cases h
theorem asBool_eq {r : RV} {i : Bool} (h : asBool r = some i) : r = .fz (.bool i) := by
  unfold asBool at h
  split at h
  · cases h; rfl
  · cases h
theorem pt_no {X : Cx} {e : Expr} : PT X e (fun _ _ _ => False) := ⟨fun _ _ _ _ _ _ h => h.elim⟩
theorem cmpIs {o : Co} {op : CmpOp} (h : coIs o op = true) : op = coO o := by cases o <;> cases op <;> first | rfl | cases h
theorem boEq {o : Bo} {op : Operator} (h : boIs o op = true) : op = boO o := by cases o <;> cases op <;> first | rfl | cases h
/-- a test whose expression has no test form of its own -/
def plainT : Expr → Bool
  | .UnaryOp .Not _ _ => false
  | .BoolOp _ _ _ => false
  | .IfExp _ _ _ _ => false
  | .Compare _ _ _ _ => false
  | _ => true
theorem true_of {e : Expr} (h : plainT e = true) (env : Env) : ∀ whole, isTrue e env whole = (do let v ← whole; standAt e.pos; holding [v] (truthy v)) := by
  intro whole
  cases e with
  | UnaryOp op x pos => cases op <;> first | (cases h; done) | rfl
  | BoolOp _ _ _ => cases h
  | IfExp _ _ _ _ => cases h
  | Compare _ _ _ _ => cases h
  | _ => rfl
theorem pt_ifExp {X : Cx} {c a b : Expr} {tc ta tb : TT} {pos : Pos} (hc : PT X c tc) (ha : PT X a ta) (hb : PT X b tb) : PT X (.IfExp c a b pos) (fun σ H Q => tc σ H fun k H1 => if k = true then ta σ H1 Q else tb σ H1 Q) := by
  refine ⟨fun pins s σ H Q I h => ?_⟩
  show wpAny _ _ (do if ← isTrue c X.env (eval c X.env) then isTrue a X.env (eval a X.env) else isTrue b X.env (eval b X.env)) _ _ _
  refine wpAny_bind (thn (hc.run pins s σ H _ I h) fun d s1 ⟨H1, I1, q1⟩ => ?_)
  cases d with
  | true => exact ha.run pins s1 σ H1 Q I1 q1
  | false => exact hb.run pins s1 σ H1 Q I1 q1
theorem biB (b : Bi) (h : isIsI b = false) : (∃ id, biV b = .builtin id ∧ bootBuiltins (biN b) = some (.builtin id)) ∨ ∃ T, biV b = .type T ∧ bootBuiltins (biN b) = some (.type T) := by
  cases b with
  | isI t => cases h
  | len => exact .inl ⟨_, rfl, by decide +kernel⟩
  | sum => exact .inl ⟨_, rfl, by decide +kernel⟩
  | min2 => exact .inl ⟨_, rfl, by decide +kernel⟩
  | max2 => exact .inl ⟨_, rfl, by decide +kernel⟩
  | minL => exact .inl ⟨_, rfl, by decide +kernel⟩
  | maxL => exact .inl ⟨_, rfl, by decide +kernel⟩
  | any => exact .inl ⟨_, rfl, by decide +kernel⟩
  | all => exact .inl ⟨_, rfl, by decide +kernel⟩
  | int => exact .inr ⟨_, rfl, by decide +kernel⟩
  | str => exact .inr ⟨_, rfl, by decide +kernel⟩
  | tup => exact .inr ⟨_, rfl, by decide +kernel⟩
  | list => exact .inr ⟨_, rfl, by decide +kernel⟩
  | sorted => exact .inl ⟨_, rfl, by decide +kernel⟩
theorem bi_mem (b : Bi) : biN b ∈ bnames := by cases b <;> first | decide +kernel | exact (by decide +kernel : ("isinstance" : Str) ∈ bnames)
theorem biN_ok (b : Bi) : biN b ≠ "__name__" ∧ (biN b == ("__debug__" : Str)) = false := by cases b <;> first | decide +kernel | exact (by decide +kernel : ("isinstance" : Str) ≠ "__name__" ∧ (("isinstance" : Str) == ("__debug__" : Str)) = false)
theorem ty_mem (t : Ty) : tyS t ∈ bnames := by cases t <;> decide +kernel
theorem ty_boot (t : Ty) : bootBuiltins (tyS t) = some (.type (tyN t)) := by cases t <;> decide +kernel
theorem tyS_ok (t : Ty) : tyS t ≠ "__name__" ∧ (tyS t == ("__debug__" : Str)) = false := by cases t <;> decide +kernel

theorem callD_eq {r : Option RV} {b : Bool} {v : RV} (h : callD r b = some v) : r = some v ∧ (b = true → ∃ d, v = .fz d ∧ flatD d = true) := by
  unfold callD at h
  obtain ⟨w, rfl, h2⟩ := bnd h
  cases b with
  | false => cases h2; exact ⟨rfl, fun e => by cases e⟩
  | true =>
    rw [if_pos rfl] at h2
    split at h2
    · obtain ⟨h1, rfl⟩ := itd h2
      exact ⟨rfl, fun _ => ⟨_, rfl, h1⟩⟩
    · cases h2
theorem views_rp {K : PySem.W.Frag} {F H F' H' : Hp} (x : Ext F H F' H') : ∀ {vs : List V} {rs : List RV}, Views K F H vs rs → Views K F' H' vs rs
  | _, _, .nil => .nil
  | _, _, .cons a b => .cons (a.ext x) (views_rp x b)
theorem setAll_len : ∀ (is : List Nat) (ds : List PyData) (env : Ev), (setAll env is ds).length = env.length
  | [], _, env => by simp [setAll]
  | i :: is, [], env => by simp [setAll]
  | i :: is, d :: ds, env => by simp [setAll, setAll_len is ds]
section
variable {X : Cx} {s : Sx} {c : Cl}
theorem EnvOk.set {K : PySem.W.Frag} {F H : Hp} {env : Ev} {σ : L2.St} (ok : EnvOk K F H env σ) {i : Nat} {v : V} {r : RV} (hi : i < env.length) (w : View K F H v r) : EnvOk K F H (env.set i (some r)) (σ.set i (some v)) := by
  refine ⟨ok.sub, by rw [List.length_set, List.length_set]; exact ok.len, fun j r' h => ?_⟩
  by_cases e : i = j
  · subst e
    rw [List.getElem?_set_self hi] at h
    cases h
    exact ⟨v, List.getElem?_set_self (by rw [← ok.len]; exact hi), w⟩
  · rw [List.getElem?_set_ne e] at h
    obtain ⟨u, h1, h2⟩ := ok.at_ j r' h
    exact ⟨u, by rw [List.getElem?_set_ne e]; exact h1, h2⟩
/-- slot i holds an owned object, at p -/
def OwnAt (H : Hp) (env : Ev) (σ : L2.St) (i : Nat) (p : Addr) : Prop := ∃ r v, env[i]? = some (some r) ∧ σ[i]? = some (some v) ∧ Foot H r v p
theorem ownAt_fz {H : Hp} {env : Ev} {σ : L2.St} {i : Nat} {d : PyData} {v : V} {j : Nat} {p : Addr} (h : OwnAt H (env.set i (some (.fz d))) (σ.set i (some v)) j p) : OwnAt H env σ j p := by
  obtain ⟨r, u, h1, h2, h3⟩ := h
  by_cases e : i = j
  · subst e
    by_cases hi : i < env.length
    · rw [List.getElem?_set_self hi] at h1
      cases h1
      exact h3.elim
    · rw [List.getElem?_eq_none (by simpa using hi)] at h1; cases h1
  · rw [List.getElem?_set_ne e] at h1 h2
    exact ⟨r, u, h1, h2, h3⟩
theorem EnvOk.wipe {K : PySem.W.Frag} {F H : Hp} {env : Ev} {σ : L2.St} (ok : EnvOk K F H env σ) : ∀ own : List Nat, EnvOk K F H (wipeE env own) (wipe σ own)
  | [] => ok
  | i :: is => by
    have q := EnvOk.wipe ok is
    refine ⟨q.sub, by unfold wipeE L2.wipe; rw [List.length_set, List.length_set]; exact q.len, fun j r' h => ?_⟩
    unfold wipeE at h
    unfold L2.wipe
    by_cases e : i = j
    · subst e
      by_cases hi : i < (wipeE env is).length
      · rw [List.getElem?_set_self hi] at h; cases h
      · rw [List.getElem?_eq_none (by simpa using hi)] at h; cases h
    · rw [List.getElem?_set_ne e] at h ⊢
      exact q.at_ j r' h
/-- a target's reading by the evaluator -/
def gS (K : PySem.W.Frag) (tg : Tg) : TG := fun v σ H Q => ∃ F env d env', EnvOk K F H env σ ∧ Rp K F v d ∧ bindT tg env d = some env' ∧ ∀ σ', (∀ own, tgIn tg own = true → wipe σ' own = wipe σ own) → EnvOk K F H env' σ' → (∀ j p, OwnAt H env' σ' j p → OwnAt H env σ j p) → Q σ' H
theorem PG.imp {e : Expr} {t t' : TG} (h : PG X e t) (f : ∀ v σ H Q, t' v σ H Q → t v σ H Q) : PG X e t' := ⟨fun pins s σ H v u Q I r q => h.run pins s σ H v u Q I r (f v σ H Q q)⟩
theorem CO.locv (C : CO X s c) {x : Str} (h : s.loc x = true) : L2.Loc X.env.scope x ∧ (X.fn x = true ∨ X.env.scope.names.lookup x = some .local) := by
  unfold L2.Loc
  rw [C.sc, C.fn]
  unfold Sx.loc at h
  split at h
  · exact ⟨.inl (by assumption), .inr (by assumption)⟩
  · exact ⟨.inr (by assumption), .inl h⟩
  · cases h
theorem wipe_set {i : Nat} {v : Option V} : ∀ {own : List Nat} {σ : L2.St}, own.contains i = true → wipe (σ.set i v) own = wipe σ own
  | [], σ, h => by simp at h
  | j :: r, σ, h => by
    unfold L2.wipe
    by_cases e : i = j
    · subst e
      by_cases hr : r.contains i = true
      · rw [wipe_set hr]
      · have q : wipe (σ.set i v) r = (wipe σ r).set i v := by
          clear h
          induction r with
          | nil => rfl
          | cons k r ih =>
            simp only [List.contains_cons, Bool.or_eq_true, beq_iff_eq, not_or] at hr
            unfold L2.wipe
            rw [ih (by simpa using hr.2), List.set_comm _ _ hr.1]
        rw [q, List.set_set]
    · have hr : r.contains i = true := by
        simp only [List.contains_cons, Bool.or_eq_true, beq_iff_eq] at h
        exact h.resolve_left e
      rw [wipe_set hr]
def gNs (K : PySem.W.Frag) (is : List Nat) : TGs := fun vs σ H Q => ∃ F env ds, EnvOk K F H env σ ∧ RpAll K F vs ds ∧ ds.length = is.length ∧ ∀ σ', (∀ own : List Nat, is.all own.contains = true → wipe σ' own = wipe σ own) → EnvOk K F H (setAll env is ds) σ' → (∀ j p, OwnAt H (setAll env is ds) σ' j p → OwnAt H env σ j p) → Q σ' H
theorem pgs_ns (C : CO X s c) : ∀ {is : List Nat} {es : List Expr}, chkNs s is es = true → PGs X es (gNs X.K is) ∧ (assignEach es X.env).length = is.length ∧ (assignEach es X.env).findIdx? (·.1) = none
  | [], [], _ => by
    refine ⟨⟨fun pins s' σ H vs us Q I rv h => ?_⟩, rfl, rfl⟩
    obtain ⟨F, env, ds, ok, rp, hl, k⟩ := h
    cases ds with
    | cons _ _ => simp at hl
    | nil =>
      cases rp
      exact pgs_nil.run pins s' σ H _ us Q I rv ⟨rfl, k σ (fun _ _ => rfl) (by simpa [setAll] using ok) (fun j p h => by simpa [setAll] using h)⟩
  | [], _ :: _, h => by simp [chkNs] at h
  | _ :: _, [], h => by simp [chkNs] at h
  | i :: is, e :: es, h => by
    cases e with
    | Name x pos =>
      simp only [chkNs, Bool.and_eq_true, decide_eq_true_eq] at h
      obtain ⟨⟨h1, h2⟩, h3⟩ := h
      obtain ⟨q1, q2, q3⟩ := pgs_ns C h3
      obtain ⟨l1, l2⟩ := C.locv h2
      have hi : X.N[i]? = some x := by rw [C.N]; exact h1
      have base := pgs_cons (es := es) (pg_name (pos := pos) C.nd hi l1 l2) q1 (by rfl)
      refine ⟨⟨fun pins s' σ H vs us Q I rv h => ?_⟩, by show (assignEach es X.env).length + 1 = is.length + 1; rw [q2], ?_⟩
      · obtain ⟨F, env, ds, ok, rp, hl, k⟩ := h
        cases rp with
        | nil => simp at hl
        | cons r t =>
          rename_i v vs d ds
          refine base.run pins s' σ H _ us Q I rv ⟨_, _, rfl, ?_⟩
          have hlt : i < env.length := by
            rw [ok.len, I.len]
            exact (List.getElem?_eq_some_iff.mp hi).1
          refine ⟨F, _, ds, ok.set hlt (.fz r), t, by simpa using hl, fun σ' hw ok' ho' => k σ' (fun own ho => ?_) ok' fun j p h => ownAt_fz (ho' j p h)⟩
          rw [List.all_cons, Bool.and_eq_true] at ho
          rw [hw own ho.2, wipe_set ho.1]
      · show List.findIdx? _ ((false, assign (.Name x pos) X.env) :: assignEach es X.env) = none
        rw [List.findIdx?_cons, if_neg (by simp), q3]
        rfl
    | _ => simp [chkNs] at h
theorem pg_tg (C : CO X s c) {tg : Tg} {e : Expr} (h : chkTg s tg e = true) : PG X e (gS X.K tg) := by
  cases tg with
  | nm i =>
    cases e with
    | Name x pos =>
      simp only [chkTg, Bool.and_eq_true, decide_eq_true_eq] at h
      obtain ⟨l1, l2⟩ := C.locv h.2
      have hi : X.N[i]? = some x := by rw [C.N]; exact h.1
      refine ⟨fun pins s' σ H v u Q I rv q => ?_⟩
      obtain ⟨F, env, d, env', ok, rp, hb, k⟩ := q
      cases hb
      have hlt : i < env.length := by
        rw [ok.len, I.len]
        exact (List.getElem?_eq_some_iff.mp hi).1
      exact (pg_name (pos := pos) C.nd hi l1 l2).run pins s' σ H v u Q I rv (k _ (fun own ho => wipe_set ho) (ok.set hlt (.fz rp)) fun j p h => ownAt_fz h)
    | _ => simp [chkTg] at h
  | tp is =>
    cases e with
    | Tuple es kk pos =>
      have h : chkNs s is es = true := h
      obtain ⟨q1, q2, q3⟩ := pgs_ns C h
      refine ⟨fun pins s' σ H v u Q I rv q => ?_⟩
      obtain ⟨F, env, d, env', ok, rp, hb, k⟩ := q
      cases rp with
      | tup ta ra =>
        obtain ⟨hl, rfl⟩ := itd (show (if _ then some (setAll env is _) else none) = some env' from hb)
        exact (pg_tup C.calm q1 rfl q3).run pins s' σ H _ u Q I rv ⟨_, _, rfl, Same.sqT ok.sub ta.sqT, by rw [q2, ra.length, hl], F, env, _, ok, ra, hl, fun σ' hw ok' ho => k σ' hw ok' ho⟩
      | lst ta ra =>
        obtain ⟨hl, rfl⟩ := itd (show (if _ then some (setAll env is _) else none) = some env' from hb)
        exact (pg_lst C.calm q1 rfl q3).run pins s' σ H _ u Q I rv ⟨_, _, rfl, SqL.of (ok.sub _ _ ta), by rw [q2, ra.length, hl], F, env, _, ok, ra, hl, fun σ' hw ok' ho => k σ' hw ok' ho⟩
      | _ => cases hb
    | _ => simp [chkTg] at h
end
end Mn

namespace Mn
open PySem PySem.Spec PyProof.Rows L2

/-- a list (true) or a tuple (false) -/
def Sq (K : PySem.W.Frag) (k : Bool) (H : Hp) (a : Addr) (xs : List V) : Prop := match k with
  | true => SqL K H a xs
  | false => SqT K H a xs
def IsIt (h : Heap) (k : Bool) (it a : Addr) (i : Nat) : Prop := match k with
  | true => h.IsListIter it a i
  | false => h.IsTupleIter it a i
def IsSq (h : Heap) (k : Bool) (a : Addr) (its : Array Value) : Prop := match k with
  | true => h.IsList a its
  | false => h.IsTuple a its
def itObj (k : Bool) (a : Addr) : Obj := match k with
  | true => { cls := .type "list_iterator", data := .fields #[.ref a, .int 0 0] }
  | false => { cls := .type "tuple_iterator", data := .fields #[.ref a, .int 0 0] }
theorem begins (k : Bool) (a : Addr) (its : Array Value) : Begins (.ref a) (itObj k a) (fun h => IsSq h k a its) := by
  cases k
  · exact begins_tuple a its
  · exact begins_list a its
theorem isIt0 {h : Heap} {k : Bool} {it a : Addr} (e : h.get? it = some (itObj k a)) : IsIt h k it a 0 := by
  cases k
  · exact ⟨_, e, rfl, rfl⟩
  · exact ⟨_, e, rfl, rfl⟩
theorem IsIt.obj {h : Heap} {k : Bool} {it a : Addr} {i : Nat} (x : IsIt h k it a i) : ∃ o, h.get? it = some o ∧ ∀ v, o.data ≠ .cell v := by
  cases k
  · obtain ⟨o, e, _, d⟩ := x
    exact ⟨o, e, fun v q => by rw [d] at q; cases q⟩
  · obtain ⟨o, e, _, d⟩ := x
    exact ⟨o, e, fun v q => by rw [d] at q; cases q⟩
theorem IsIt.at_ {h h' : Heap} {k : Bool} {it a : Addr} {i : Nat} (x : IsIt h k it a i) (q : ∀ o, h.get? it = some o → h'.get? it = some o) : IsIt h' k it a i := by
  cases k
  · exact Heap.IsTupleIter.at x q
  · exact Heap.IsListIter.at x q
theorem draws {prog : Program} {w : World} {A : Around} (hh : A.handled = none) (k : Bool) (it a : Addr) (hne : a ≠ it) (its : Array Value) :
    Draws prog w A it [it, a] its.size (fun i v => its[i]? = some v) (fun i h => IsIt h k it a i ∧ IsSq h k a its) := by
  cases k
  · exact Draws.tuple hh it a hne its
  · exact Draws.list hh it a hne its
section
variable {X : Cx} {pins : List (Addr × Obj)} {σ : L2.St} {H : Hp} {s : Shared} {a : Addr} {xs ys : List V} {k : Bool}
theorem sq_is (I : Inv X pins σ H s) (h : Sq X.K k H a xs) : ∃ its : List Value, Vals xs its ∧ IsSq s.heap k a its.toArray ∧ a < s.heap.objs.size := by
  cases k
  · obtain ⟨its, r, p, _⟩ := I.tuple h
    obtain ⟨o, e, _⟩ := id p
    exact ⟨its, r, p, Heap.lt_size e⟩
  · obtain ⟨its, r, p, _⟩ := I.list h
    exact ⟨its, r, p.isList, p.lt⟩
theorem sq_inj (I : Inv X pins σ H s) (h : Sq X.K k H a xs) (h' : Sq X.K k H a ys) : xs = ys := by
  cases k
  · exact I.tuple_inj h h'
  · exact I.list_inj h h'
end
/-- v is a new known tuple of xs -/
def NewP (H : Hp) (v : V) (H' : Hp) (T : Addr) (xs : List V) : Prop := ∃ o, TupO o ∧ v = .ref T ∧ H T = none ∧ H' = upd H T (.frz o (.tup xs))
def YPairN (f g : Nat → Option V) : Nat → Hp → V → Hp → Prop := fun i H v H' => ∃ T x y, NewP H v H' T [x, y] ∧ f i = some x ∧ g i = some y
def IteQ (K : PySem.W.Frag) (k : Bool) (a : Addr) : It :=
  ⟨fun i H => ∃ (xs : List V) (x : V), Sq K k H a xs ∧ xs[i]? = some x, fun i H v H' => ∃ T x, NewP H v H' T [.int (i : Nat), x] ∧ ∀ xs, Sq K k H a xs → xs[i]? = some x, fun i H => ∃ xs : List V, Sq K k H a xs ∧ xs.length = i⟩
theorem turn_enumQ {P : Program} {w : World} {K : PySem.W.Frag} {elts : List Expr} {kk : Nat} {tpos : Pos} (k : Bool) (a e it : Addr) :
    Turn P w K (.Tuple elts kk tpos) (IteQ K k a) [e, it] e (fun i h => (∃ old, IsEnum h e it ((i : Nat) : Int) old) ∧ IsIt h k it a i ∧ e ≠ it ∧ a ≠ it ∧ a ≠ e) where
  mem := by simp
  obj := fun i h st b hb => by
    obtain ⟨⟨old, he⟩, hi, _⟩ := st
    have e' : b = e ∨ b = it := by simpa using hb
    rcases e' with z | z
    · rw [z]; exact ⟨_, he, fun v q => nomatch q⟩
    · rw [z]; exact hi.obj
  keep := fun i h h' st q => let ⟨⟨old, he⟩, hi, hne⟩ := st; ⟨⟨old, q e (by simp) _ he⟩, hi.at_ fun o z => q it (by simp) o z, hne⟩
  item := by
    intro X hP hw hK hc i pins s σ H E I hf st hg
    subst hP hw hK
    obtain ⟨⟨old, he⟩, hit, hne, hai, hae⟩ := st
    obtain ⟨xs, x, hq, hx⟩ := hg
    obtain ⟨its, rv, p, _⟩ := sq_is I hq
    obtain ⟨u, hu, ru⟩ := rv.get hx
    have hel : e < s.heap.objs.size := Heap.lt_size he
    have hil : it < s.heap.objs.size := by obtain ⟨_, q, _⟩ := hit.obj; exact Heap.lt_size q
    have D := draws (prog := X.prog) (w := X.w) (A := X.A.in1) (I.ok.hd hc) k it a hai its.toArray
    have hi : i < its.toArray.size := by
      have := (List.getElem?_eq_some_iff.mp hu).1
      simpa using this
    refine wpAny_pyNext_enum_itemD D he ⟨hit, p⟩ hi hne (by simp [hne, Ne.symm hae]) fun u' h' tk hP ho hst hT hsz hk => ?_
    obtain rfl : u' = u := by
      have : its.toArray[i]? = some u := by simpa using hu
      rw [this] at hP
      exact (Option.some.inj hP).symm
    refine ⟨_, rfl, wpAny_letOwnedTupleGo_enum (s := { s with heap := h', toks := tk + 1 }) ho fun h'' he' sb => ?_⟩
    have hT2 : h''.get? s.heap.objs.size = some { cls := .type "tuple", data := .seq #[.int i tk, u'] } := (sb.2 _ (Nat.ne_of_gt hel)).trans hT
    obtain ⟨ob, hob, hT3, n3, hd3⟩ : ∃ ob : Obj, TupO ob ∧ h''.get? s.heap.objs.size = some ob ∧ ∃ n, ob.data = .seq #[.int i tk, u'] n := ⟨_, ⟨rfl, rfl⟩, hT2, _, rfl⟩
    have new : ObjOk X.prog X.w (upd H s.heap.objs.size (.frz ob (.tup [.int (i : Nat), x]))) h'' s.heap.objs.size (.frz ob (.tup [.int (i : Nat), x])) :=
      ⟨hT3, by show 2 ≤ sizeLine; decide, [.int i tk, u'], .cons ⟨_, rfl⟩ (.cons ru .nil), ⟨ob, hT3, hob.1, n3, hd3⟩⟩
    have I1 : Inv X pins σ (upd H s.heap.objs.size (.frz ob (.tup [.int (i : Nat), x]))) { s with heap := h'', toks := tk + 1 } :=
      I.turnedNew (ch := [e, it]) (fun b ob hb q => (sb.2 b (fun z => hb (by simp [z]))).trans (hk b ob (fun z => hb (by simp [z])) (fun z => hb (by simp [z])) q)) hf (Nat.le_refl _) new
    refine ⟨.ref s.heap.objs.size, _, I1, rfl, ⟨_, x, ⟨ob, hob, rfl, I.hok.fresh (Nat.le_refl _), rfl⟩, fun ys hy => by rw [sq_inj I hy hq]; exact hx⟩, ⟨⟨u', ?_⟩, hst.1.at_ fun o q => (sb.2 it (Ne.symm hne)).trans q, hne, hai, hae⟩, fun b hb => ?_⟩
    · have e1 : ((i + 1 : Nat) : Int) = (i : Int) + 1 := by omega
      rw [e1]; exact he'
    · have hb' : b < s.heap.objs.size := by
        have e' : b = e ∨ b = it := by simpa using hb
        rcases e' with z | z
        · rw [z]; exact hel
        · rw [z]; exact hil
      rw [upd_ne (Nat.ne_of_lt hb')]
      exact (hf b hb).1
  done := by
    intro X hP hw hK hc i pins s σ H E I hf st hg
    subst hP hw hK
    obtain ⟨⟨old, he⟩, hit, hne, hai, hae⟩ := st
    obtain ⟨xs, hq, hx⟩ := hg
    obtain ⟨its, rv, p, _⟩ := sq_is I hq
    obtain ⟨f0, f1, f2, f3, f4, f5⟩ := hf it (by simp)
    have hl := rv.length
    have D := draws (prog := X.prog) (w := X.w) (A := X.A.in1) (I.ok.hd hc) k it a hai its.toArray
    have hi : its.toArray.size = i := by simp; omega
    exact wpAny_pyNext_enum_endD D he (by rw [hi]; exact ⟨hit, p⟩) fun h' eb => ⟨rfl, I.turned (t' := s.toks) (fun b o hb q => eb b o hb q) f0 f1 f3 f4 f5⟩
  self := fun A i s Q E st h => let ⟨⟨_, he⟩, _⟩ := st; wpAny_pyIter_enum he h

def IteT (z : Str) : It :=
  ⟨fun i _ => i < z.cps.size, fun i H v H' => ∃ T c, NewP H v H' T [.int (i : Nat), .str ⟨#[c]⟩] ∧ z.cps[i]? = some c, fun i _ => i = z.cps.size⟩
theorem turn_enumT {P : Program} {w : World} {K : PySem.W.Frag} {elts : List Expr} {kk : Nat} {tpos : Pos} (z : Str) (t : Tok) (e it : Addr) :
    Turn P w K (.Tuple elts kk tpos) (IteT z) [e, it] e (fun i h => (∃ old, IsEnum h e it ((i : Nat) : Int) old) ∧ h.IsStrIter it (strIterType z) z t i ∧ e ≠ it) where
  mem := by simp
  obj := fun i h st b hb => by
    obtain ⟨⟨old, he⟩, hi, _⟩ := st
    have e' : b = e ∨ b = it := by simpa using hb
    rcases e' with z | z
    · rw [z]; exact ⟨_, he, fun v q => nomatch q⟩
    · rw [z]
      obtain ⟨o, h1, _, h3⟩ := hi
      exact ⟨o, h1, fun v q => by rw [h3] at q; cases q⟩
  keep := fun i h h' st q => let ⟨⟨old, he⟩, ⟨o, h1, h2⟩, hne⟩ := st; ⟨⟨old, q e (by simp) _ he⟩, ⟨o, q it (by simp) o h1, h2⟩, hne⟩
  item := by
    intro X hP hw hK hc i pins s σ H E I hf st hg
    subst hP hw hK
    obtain ⟨⟨old, he⟩, hit, hne⟩ := st
    have hi : i < z.cps.size := hg
    have hel : e < s.heap.objs.size := Heap.lt_size he
    have hil : it < s.heap.objs.size := by obtain ⟨_, q, _⟩ := hit; exact Heap.lt_size q
    have D := Draws.text (prog := X.prog) (w := X.w) (A := X.A.in1) (I.ok.hd hc) it z t
    refine wpAny_pyNext_enum_itemD D he hit hi hne (by simp [hne, Ne.symm hne]) fun u' h' tk hP ho hst hT hsz hk => ?_
    obtain ⟨c, tu, hcz, rfl⟩ := hP
    refine ⟨_, rfl, wpAny_letOwnedTupleGo_enum (s := { s with heap := h', toks := tk + 1 }) ho fun h'' he' sb => ?_⟩
    have hT2 : h''.get? s.heap.objs.size = some { cls := .type "tuple", data := .seq #[.int i tk, .str ⟨#[c]⟩ tu] } := (sb.2 _ (Nat.ne_of_gt hel)).trans hT
    obtain ⟨ob, hob, hT3, n3, hd3⟩ : ∃ ob : Obj, TupO ob ∧ h''.get? s.heap.objs.size = some ob ∧ ∃ n, ob.data = .seq #[.int i tk, .str ⟨#[c]⟩ tu] n := ⟨_, ⟨rfl, rfl⟩, hT2, _, rfl⟩
    have new : ObjOk X.prog X.w (upd H s.heap.objs.size (.frz ob (.tup [.int (i : Nat), .str ⟨#[c]⟩]))) h'' s.heap.objs.size (.frz ob (.tup [.int (i : Nat), .str ⟨#[c]⟩])) :=
      ⟨hT3, by show 2 ≤ sizeLine; decide, [.int i tk, .str ⟨#[c]⟩ tu], .cons ⟨_, rfl⟩ (.cons ⟨_, rfl⟩ .nil), ⟨ob, hT3, hob.1, n3, hd3⟩⟩
    have I1 : Inv X pins σ (upd H s.heap.objs.size (.frz ob (.tup [.int (i : Nat), .str ⟨#[c]⟩]))) { s with heap := h'', toks := tk + 1 } :=
      I.turnedNew (ch := [e, it]) (fun b ob hb q => (sb.2 b (fun z => hb (by simp [z]))).trans (hk b ob (fun z => hb (by simp [z])) (fun z => hb (by simp [z])) q)) hf (Nat.le_refl _) new
    refine ⟨.ref s.heap.objs.size, _, I1, rfl, ⟨_, c, ⟨ob, hob, rfl, I.hok.fresh (Nat.le_refl _), rfl⟩, hcz⟩, ⟨⟨.str ⟨#[c]⟩ tu, ?_⟩, ?_, hne⟩, fun b hb => ?_⟩
    · have e1 : ((i + 1 : Nat) : Int) = (i : Int) + 1 := by omega
      rw [e1]; exact he'
    · obtain ⟨o, h1, h2⟩ := hst
      exact ⟨o, (sb.2 it (Ne.symm hne)).trans h1, h2⟩
    · have hb' : b < s.heap.objs.size := by
        have e' : b = e ∨ b = it := by simpa using hb
        rcases e' with z | z
        · rw [z]; exact hel
        · rw [z]; exact hil
      rw [upd_ne (Nat.ne_of_lt hb')]
      exact (hf b hb).1
  done := by
    intro X hP hw hK hc i pins s σ H E I hf st hg
    subst hP hw hK
    obtain ⟨⟨old, he⟩, hit, hne⟩ := st
    obtain ⟨f0, f1, f2, f3, f4, f5⟩ := hf it (by simp)
    have D := Draws.text (prog := X.prog) (w := X.w) (A := X.A.in1) (I.ok.hd hc) it z t
    have hi : z.cps.size = i := Eq.symm hg
    exact wpAny_pyNext_enum_endD D he (by rw [hi]; exact hit) fun h' eb => ⟨rfl, I.turned (t' := s.toks) (fun b o hb q => eb b o hb q) f0 f1 f3 f4 f5⟩
  self := fun A i s Q E st h => let ⟨⟨_, he⟩, _⟩ := st; wpAny_pyIter_enum he h
set_option maxHeartbeats 1000000 in
theorem meets_enum1 {v : Value} {o : Obj} {H : Heap → Prop} (B : Begins v o H) :
    Meets (Builtin.«enumerate.__new__» ⟨[.type "enumerate", v], []⟩) (fun _ R s => H s.heap ∧
      R (.ok (.ret (.ref (s.heap.push o).objs.size))) { s with heap := (s.heap.push o).push { cls := .type "enumerate", data := .fields #[.none, .bool false, .ref s.heap.objs.size, rawInt 0, .none, .none] } }) :=
  .of_wp fun prog w A R s h => by
    obtain ⟨hp, g, d, tk, os⟩ := s; obtain ⟨h1, h⟩ := h
    have hsub := sub_enumerate
    have q1 : ∀ {A' : Around} {E : Value → Shared → Prop} {Q : Value → Shared → Prop}, Q (.ref hp.objs.size) ⟨hp.push o, g, d, tk, os⟩ → wpAny (model prog w) A' (pyIter v) Q E ⟨hp, g, d, tk, os⟩ :=
      fun q => B.iter prog w _ _ ⟨hp, g, d, tk, os⟩ _ h1 q
    wp_walk using q1
    refine wpAny_stack_any fun st => wpAny_pure ?_
    split
    · rename_i c _ _ _ _ _
      cases (c == Value.type "enumerate")
      · wp_walk using q1
        exact ⟨_, rfl, h⟩
      · wp_walk using q1
        exact ⟨_, rfl, h⟩
    · wp_walk using q1
      exact ⟨_, rfl, h⟩
theorem call_enum1 {prog : Program} {w : World} {A : Around} {E : Value → Shared → Prop} {s : Shared} {v : Value} {o : Obj} {H : Heap → Prop} {Q : Value → Shared → Prop} (B : Begins v o H) (h1 : H s.heap)
    (h : ∀ h', IsEnum h' (s.heap.objs.size + 1) s.heap.objs.size 0 .none → h'.get? s.heap.objs.size = some o → h'.objs.size = s.heap.objs.size + 2 →
      (∀ b o, s.heap.get? b = some o → h'.get? b = some o) → Q (.ref (s.heap.objs.size + 1)) { s with heap := h' }) :
    wpAny (model prog w) A (call (.type "enumerate") [v]) Q E s := by
  refine callType_new F.called_enumerate (by decide) (F.typeCall_enumerate_1 _) (F.newCall_enumerate_1 _) (fun obj => F.args_object_init_2 obj _) F.entry_enumerate_new
    (meets_enum1 B) ⟨h1, ?_⟩
  have hz : (s.heap.push o).objs.size = s.heap.objs.size + 1 := Heap.size_push ..
  show _ ∧ _
  rw [hz]
  have he : IsEnum ((s.heap.push o).push { cls := .type "enumerate", data := .fields #[.none, .bool false, .ref s.heap.objs.size, rawInt 0, .none, .none] }) (s.heap.objs.size + 1) s.heap.objs.size 0 .none := by
    have := Heap.get?_push_size (s.heap.push o) (o := { cls := .type "enumerate", data := .fields #[.none, .bool false, .ref s.heap.objs.size, rawInt 0, .none, .none] }) rfl
    rw [hz] at this; exact this
  refine ⟨⟨_, he, rfl⟩, h _ he (Heap.get?_push_of_some _ (Heap.get?_push_size _ B.free)) (by rw [Heap.size_push, hz]) fun b o x => Heap.get?_push_of_some _ (Heap.get?_push_of_some _ x)⟩
def iEnumQ (K : PySem.W.Frag) (te : TE) : TI := fun σ H R => te σ H fun v H1 => ∃ (k : Bool) (a : Addr) (xs : List V), v = .ref a ∧ Sq K k H1 a xs ∧ R (IteQ K k a) H1
theorem pi_enumQ {X : Cx} {e : Expr} {te : TE} {p pos tpos : Pos} {elts : List Expr} {kk : Nat} (hg : Gl X "enumerate") (hm : X.mg "enumerate" = none) (he : PE X e te) (hs : starEach [e] X.env = (false, eval e X.env) :: starEach [] X.env) :
    PI X (.Tuple elts kk tpos) (.Call (.Name "enumerate" p) [e] [] pos) (iEnumQ X.K te) := by
  refine ⟨fun pins s σ H R I h => ?_⟩
  refine Call_ (ld_blt I hg hm boot_enumerate (PyProof.Rows.callWith_type1 (args_cons (thn (he.run pins s σ H _ I h) fun u s1 ⟨v, H1, I1, r1, q1⟩ => args_nil ?_) hs) hs rfl))
  obtain ⟨k, a, xs, rfl, hq, q⟩ := q1
  cases r1
  obtain ⟨its, rv, p', hlt⟩ := sq_is I1 hq
  refine call_enum1 (begins k a its.toArray) p' fun h' he' hit hsz hk => wpAny_pyIter_enum he' ?_
  have I2 : Inv X pins σ H1 { s1 with heap := h' } := I1.kept (t' := s1.toks) hk
  refine ⟨s1.heap.objs.size + 1, [s1.heap.objs.size + 1, s1.heap.objs.size], _, _, H1, rfl, I2, turn_enumQ k a (s1.heap.objs.size + 1) s1.heap.objs.size, ⟨⟨.none, he'⟩, isIt0 hit, Nat.succ_ne_self _, Nat.ne_of_lt hlt, Nat.ne_of_lt (Nat.lt_succ_of_lt hlt)⟩, fun b hb => ?_, q⟩
  have e' : b = s1.heap.objs.size + 1 ∨ b = s1.heap.objs.size := by simpa using hb
  have hle : s1.heap.objs.size ≤ b := by
    rcases e' with z | z
    · rw [z]; exact Nat.le_add_right _ _
    · rw [z]; exact Nat.le_refl _
  exact I1.fpOk hle (I1.hok.fresh hle)

def iEnumT (te : TE) : TI := fun σ H R => te σ H fun v H1 => ∃ (z : Str), v = .str z ∧ R (IteT z) H1
theorem pi_enumT {X : Cx} {e : Expr} {te : TE} {p pos tpos : Pos} {elts : List Expr} {kk : Nat} (hg : Gl X "enumerate") (hm : X.mg "enumerate" = none) (he : PE X e te) (hs : starEach [e] X.env = (false, eval e X.env) :: starEach [] X.env) :
    PI X (.Tuple elts kk tpos) (.Call (.Name "enumerate" p) [e] [] pos) (iEnumT te) := by
  refine ⟨fun pins s σ H R I h => ?_⟩
  refine Call_ (ld_blt I hg hm boot_enumerate (PyProof.Rows.callWith_type1 (args_cons (thn (he.run pins s σ H _ I h) fun u s1 ⟨v, H1, I1, r1, q1⟩ => args_nil ?_) hs) hs rfl))
  obtain ⟨z, rfl, q⟩ := q1
  obtain ⟨t, rfl⟩ := r1
  refine call_enum1 (begins_text z t) trivial fun h' he' hit hsz hk => wpAny_pyIter_enum he' ?_
  have I2 : Inv X pins σ H1 { s1 with heap := h' } := I1.kept (t' := s1.toks) hk
  refine ⟨s1.heap.objs.size + 1, [s1.heap.objs.size + 1, s1.heap.objs.size], _, _, H1, rfl, I2, turn_enumT z t (s1.heap.objs.size + 1) s1.heap.objs.size, ⟨⟨.none, he'⟩, ⟨_, hit, rfl, rfl⟩, Nat.succ_ne_self _⟩, fun b hb => ?_, q⟩
  have e' : b = s1.heap.objs.size + 1 ∨ b = s1.heap.objs.size := by simpa using hb
  have hle : s1.heap.objs.size ≤ b := by
    rcases e' with z | z
    · rw [z]; exact Nat.le_add_right _ _
    · rw [z]; exact Nat.le_refl _
  exact I1.fpOk hle (I1.hok.fresh hle)
theorem walk_enumT {z : Str} : Walk (IteT z) z.cps.size (fun _ => True) (YPairN (fun i => some (.int (i : Nat))) (fun i => z.cps[i]?.map fun c => .str ⟨#[c]⟩)) := by
  refine ⟨fun _ _ hi _ => hi, fun _ _ => rfl, fun i H v H' _ _ y => ?_⟩
  obtain ⟨T, c, h1, h4⟩ := y
  exact ⟨T, .int (i : Nat), .str ⟨#[c]⟩, h1, rfl, by
    show Option.map _ z.cps[i]? = _
    rw [h4]
    rfl⟩

def ItzQ (K : PySem.W.Frag) (k1 k2 : Bool) (a b : Addr) : It :=
  ⟨fun i H => ∃ (xs ys : List V) (x y : V), Sq K k1 H a xs ∧ Sq K k2 H b ys ∧ xs[i]? = some x ∧ ys[i]? = some y,
    fun i H v H' => ∃ T x y, NewP H v H' T [x, y] ∧ (∀ xs, Sq K k1 H a xs → xs[i]? = some x) ∧ ∀ ys, Sq K k2 H b ys → ys[i]? = some y,
    fun i H => ∃ xs ys : List V, Sq K k1 H a xs ∧ Sq K k2 H b ys ∧ i ≤ xs.length ∧ i ≤ ys.length ∧ (i = xs.length ∨ i = ys.length)⟩
theorem turn_zipQ {P : Program} {w : World} {K : PySem.W.Frag} {elts : List Expr} {kk : Nat} {tpos : Pos} (k1 k2 : Bool) {a b z TI TO i1 i2 : Addr} (S : ZipSep2 z TI TO i1 i2 [i1, a] [i2, b]) (n1 : a ≠ i1) (n2 : b ≠ i2) :
    Turn P w K (.Tuple elts kk tpos) (ItzQ K k1 k2 a b) [z, TI, TO, i1, i2] z (fun i h => IsZip h z TI TO .none ∧ IsTupOf2 h TI (.ref i1) (.ref i2) ∧ (∃ x y, IsTupOf2 h TO x y) ∧ IsIt h k1 i1 a i ∧ IsIt h k2 i2 b i) where
  mem := by simp
  obj := fun i h st c hc => by
    obtain ⟨hz, hTI, ⟨x, y, hTO⟩, h1, h2⟩ := st
    have e' : c = z ∨ c = TI ∨ c = TO ∨ c = i1 ∨ c = i2 := by simpa using hc
    rcases e' with q | q | q | q | q
    · rw [q]; exact ⟨_, hz, fun v q => nomatch q⟩
    · rw [q]; exact ⟨_, hTI, fun v q => nomatch q⟩
    · rw [q]; exact ⟨_, hTO, fun v q => nomatch q⟩
    · rw [q]; exact h1.obj
    · rw [q]; exact h2.obj
  keep := fun i h h' st k => by
    obtain ⟨hz, hTI, ⟨x, y, hTO⟩, h1, h2⟩ := st
    exact ⟨k z (by simp) _ hz, k TI (by simp) _ hTI, ⟨x, y, k TO (by simp) _ hTO⟩, h1.at_ fun o q => k i1 (by simp) o q, h2.at_ fun o q => k i2 (by simp) o q⟩
  item := by
    intro X hP hw hK hc i pins s σ H E I hf st hg
    subst hP hw hK
    obtain ⟨hz, hTI, ⟨x0, y0, hTO⟩, h1, h2⟩ := st
    obtain ⟨xs, ys, x, y, hqx, hqy, hx, hy⟩ := hg
    obtain ⟨its, rv, p, _⟩ := sq_is I hqx
    obtain ⟨its2, rv2, p2, _⟩ := sq_is I hqy
    obtain ⟨u, hu, ru⟩ := rv.get hx
    obtain ⟨u2, hu2, ru2⟩ := rv2.get hy
    have hzl : z < s.heap.objs.size := Heap.lt_size hz
    have D1 := draws (prog := X.prog) (w := X.w) (A := X.A.in1) (I.ok.hd hc) k1 i1 a n1 its.toArray
    have D2 := draws (prog := X.prog) (w := X.w) (A := X.A.in1) (I.ok.hd hc) k2 i2 b n2 its2.toArray
    have l1 : i < its.toArray.size := by
      have := (List.getElem?_eq_some_iff.mp hu).1
      simpa using this
    have l2 : i < its2.toArray.size := by
      have := (List.getElem?_eq_some_iff.mp hu2).1
      simpa using this
    refine wpAny_pyNext_zipD2_item S D1 D2 hz hTI hTO ⟨h1, p⟩ ⟨h2, p2⟩ l1 l2 fun v1 v2 h' tk hP1 hP2 z' TO' st1 st2 hT hsz hk => ?_
    obtain rfl : v1 = u := by
      have : its.toArray[i]? = some u := by simpa using hu
      rw [this] at hP1
      exact (Option.some.inj hP1).symm
    obtain rfl : v2 = u2 := by
      have : its2.toArray[i]? = some u2 := by simpa using hu2
      rw [this] at hP2
      exact (Option.some.inj hP2).symm
    refine ⟨_, rfl, wpAny_letOwnedTupleGo_zip (s := { s with heap := h', toks := tk }) z' fun h'' z'' sb => ?_⟩
    have hT2 : h''.get? s.heap.objs.size = some { cls := .type "tuple", data := .seq #[v1, v2] } := (sb.2 _ (Nat.ne_of_gt hzl)).trans hT
    obtain ⟨ob, hob, hT3, n3, hd3⟩ : ∃ ob : Obj, TupO ob ∧ h''.get? s.heap.objs.size = some ob ∧ ∃ n, ob.data = .seq #[v1, v2] n := ⟨_, ⟨rfl, rfl⟩, hT2, _, rfl⟩
    have new : ObjOk X.prog X.w (upd H s.heap.objs.size (.frz ob (.tup [x, y]))) h'' s.heap.objs.size (.frz ob (.tup [x, y])) :=
      ⟨hT3, by show 2 ≤ sizeLine; decide, [v1, v2], .cons ru (.cons ru2 .nil), ⟨ob, hT3, hob.1, n3, hd3⟩⟩
    have I1 : Inv X pins σ (upd H s.heap.objs.size (.frz ob (.tup [x, y]))) { s with heap := h'', toks := tk } :=
      I.turnedNew (t' := tk) (ch := [z, TI, TO, i1, i2]) (fun c o hb q => (sb.2 c (fun q' => hb (by simp [q']))).trans (hk c o (fun q' => hb (by simp [q'])) (fun q' => hb (by simp [q'])) (fun q' => hb (by simp [q'])) (fun q' => hb (by simp [q'])) q)) hf (Nat.le_refl _) new
    refine ⟨.ref s.heap.objs.size, _, I1, rfl, ⟨_, x, y, ⟨ob, hob, rfl, I.hok.fresh (Nat.le_refl _), rfl⟩, fun l hl => by rw [sq_inj I hl hqx]; exact hx, fun l hl => by rw [sq_inj I hl hqy]; exact hy⟩, ⟨z'', ?_, ⟨v1, v2, ?_⟩, ?_, ?_⟩, fun c hcm => ?_⟩
    · exact (sb.2 _ S.TIz).trans (hk _ _ S.TIz S.TITO S.TIi1 S.TIi2 hTI)
    · exact (sb.2 _ S.TOz).trans TO'
    · exact st1.1.at_ fun o q => (sb.2 _ S.zi1.symm).trans q
    · exact st2.1.at_ fun o q => (sb.2 _ S.zi2.symm).trans q
    · have hlt : c < s.heap.objs.size := by
        have e' : c = z ∨ c = TI ∨ c = TO ∨ c = i1 ∨ c = i2 := by simpa using hcm
        rcases e' with q | q | q | q | q
        · rw [q]; exact hzl
        · rw [q]; exact Heap.lt_size hTI
        · rw [q]; exact Heap.lt_size hTO
        · rw [q]; obtain ⟨_, e1, _⟩ := h1.obj; exact Heap.lt_size e1
        · rw [q]; obtain ⟨_, e2, _⟩ := h2.obj; exact Heap.lt_size e2
      rw [upd_ne (Nat.ne_of_lt hlt)]
      exact (hf c hcm).1
  done := by
    intro X hP hw hK hc i pins s σ H E I hf st hg
    subst hP hw hK
    obtain ⟨hz, hTI, ⟨x0, y0, hTO⟩, h1, h2⟩ := st
    obtain ⟨xs, ys, hqx, hqy, l1, l2, hend⟩ := hg
    obtain ⟨its, rv, p, _⟩ := sq_is I hqx
    obtain ⟨its2, rv2, p2, _⟩ := sq_is I hqy
    have e1 := rv.length
    have e2 := rv2.length
    have D1 := draws (prog := X.prog) (w := X.w) (A := X.A.in1) (I.ok.hd hc) k1 i1 a n1 its.toArray
    have D2 := draws (prog := X.prog) (w := X.w) (A := X.A.in1) (I.ok.hd hc) k2 i2 b n2 its2.toArray
    exact wpAny_pyNext_zipD2_end S D1 D2 hz hTI hTO ⟨h1, p⟩ ⟨h2, p2⟩ (by simp; omega) (by simp; omega) (by simp; omega) fun h' tk hk => ⟨rfl, I.turnedL (t' := tk) (ch := [z, TI, TO, i1, i2]) (fun c o hb q =>
      hk c o (fun q' => hb (by simp [q'])) (fun q' => hb (by simp [q'])) (fun q' => hb (by simp [q'])) (fun q' => hb (by simp [q'])) q) hf⟩
  self := fun A i s Q E st h => wpAny_pyIter_zip st.1 h
def iZipQ (K : PySem.W.Frag) (ta : TA) : TI := fun σ H R => ta σ H fun vs H1 => ∃ k1 k2 a b xs ys, vs = [.ref a, .ref b] ∧ Sq K k1 H1 a xs ∧ Sq K k2 H1 b ys ∧ R (ItzQ K k1 k2 a b) H1
theorem pi_zipQ {X : Cx} {e e2 : Expr} {ta : TA} {p pos tpos : Pos} {elts : List Expr} {kk : Nat} (hg : Gl X "zip") (hm : X.mg "zip" = none) (ha : PA X [e, e2] ta)
    (hs : starEach [e, e2] X.env = (false, eval e X.env) :: starEach [e2] X.env) (hpl : (backTo pos (starEach [e2] X.env)).any (·.1) = false) :
    PI X (.Tuple elts kk tpos) (.Call (.Name "zip" p) [e, e2] [] pos) (iZipQ X.K ta) := by
  refine ⟨fun pins s σ H R I h => ?_⟩
  refine Call_ (ld_blt I hg hm PyProof.Rows.boot_zip (PyProof.Rows.callWith_type1 (thn (ha.run pos pins s σ H _ I h) fun us s1 ⟨vs, H1, I1, r1, q1⟩ => ?_) hs hpl))
  obtain ⟨k1, k2, a, b, xs, ys, ex, hqx, hqy, q⟩ := q1
  subst ex
  cases r1 with
  | cons r rr =>
    cases rr with
    | cons r' rr =>
      cases rr
      cases r
      cases r'
      obtain ⟨its, rv, p1, la⟩ := sq_is I1 hqx
      obtain ⟨its2, rv2, p2, lb⟩ := sq_is I1 hqy
      refine zip_begins2 (begins k1 a its.toArray) (begins k2 b its2.toArray) p1 p2 fun h' hz hTI hTO h1 h2 hsz hk => wpAny_pyIter_zip hz ?_
      have I2 : Inv X pins σ H1 { s1 with heap := h' } := I1.kept (t' := s1.toks) hk
      have S : ZipSep2 (s1.heap.objs.size + 4) (s1.heap.objs.size + 2) (s1.heap.objs.size + 3) s1.heap.objs.size (s1.heap.objs.size + 1) [s1.heap.objs.size, a] [s1.heap.objs.size + 1, b] :=
        zip_sep2 (fp1 := [a]) (fp2 := [b]) (fun c hc => by simpa using (by simpa using hc : c = a) ▸ la) (fun c hc => by simpa using (by simpa using hc : c = b) ▸ lb)
      refine ⟨s1.heap.objs.size + 4, [s1.heap.objs.size + 4, s1.heap.objs.size + 2, s1.heap.objs.size + 3, s1.heap.objs.size, s1.heap.objs.size + 1], _, _, H1, rfl, I2, turn_zipQ k1 k2 S (Nat.ne_of_lt la) (Nat.ne_of_lt (Nat.lt_succ_of_lt lb)), ⟨hz, hTI, ⟨_, _, hTO⟩, isIt0 h1, isIt0 h2⟩, fun c hcm => ?_, q⟩
      have e' : c = s1.heap.objs.size + 4 ∨ c = s1.heap.objs.size + 2 ∨ c = s1.heap.objs.size + 3 ∨ c = s1.heap.objs.size ∨ c = s1.heap.objs.size + 1 := by simpa using hcm
      have hle : s1.heap.objs.size ≤ c := by
        rcases e' with z | z | z | z | z
        · rw [z]; exact Nat.le_add_right _ _
        · rw [z]; exact Nat.le_add_right _ _
        · rw [z]; exact Nat.le_add_right _ _
        · rw [z]; exact Nat.le_refl _
        · rw [z]; exact Nat.le_add_right _ _
      exact I1.fpOk hle (I1.hok.fresh hle)
end Mn

namespace Mn
open PySem PySem.Spec PyProof.Rows L2
def ItzR (K : PySem.W.Frag) (k1 k2 k3 : Bool) (a b d : Addr) : It :=
  ⟨fun i H => ∃ (xs ys zs : List V) (x y z : V), Sq K k1 H a xs ∧ Sq K k2 H b ys ∧ Sq K k3 H d zs ∧ xs[i]? = some x ∧ ys[i]? = some y ∧ zs[i]? = some z,
    fun i H v H' => ∃ T x y z, NewP H v H' T [x, y, z] ∧ (∀ xs, Sq K k1 H a xs → xs[i]? = some x) ∧ (∀ ys, Sq K k2 H b ys → ys[i]? = some y) ∧ ∀ zs, Sq K k3 H d zs → zs[i]? = some z,
    fun i H => ∃ xs ys zs : List V, Sq K k1 H a xs ∧ Sq K k2 H b ys ∧ Sq K k3 H d zs ∧ i ≤ xs.length ∧ i ≤ ys.length ∧ i ≤ zs.length ∧ (i = xs.length ∨ i = ys.length ∨ i = zs.length)⟩
theorem turn_zipR {P : Program} {w : World} {K : PySem.W.Frag} {elts : List Expr} {kk : Nat} {tpos : Pos} (k1 k2 k3 : Bool) {a b d z TI TO i1 i2 i3 : Addr} (S : ZipSep3 z TI TO i1 i2 i3 [i1, a] [i2, b] [i3, d]) (n1 : a ≠ i1) (n2 : b ≠ i2) (n3 : d ≠ i3) :
    Turn P w K (.Tuple elts kk tpos) (ItzR K k1 k2 k3 a b d) [z, TI, TO, i1, i2, i3] z (fun i h => IsZip h z TI TO .none ∧ IsTupOf3 h TI (.ref i1) (.ref i2) (.ref i3) ∧ (∃ x y u, IsTupOf3 h TO x y u) ∧ IsIt h k1 i1 a i ∧ IsIt h k2 i2 b i ∧ IsIt h k3 i3 d i) where
  mem := by simp
  obj := fun i h st c hc => by
    obtain ⟨hz, hTI, ⟨x, y, u, hTO⟩, h1, h2, h3⟩ := st
    have e' : c = z ∨ c = TI ∨ c = TO ∨ c = i1 ∨ c = i2 ∨ c = i3 := by simpa using hc
    rcases e' with q | q | q | q | q | q
    · rw [q]; exact ⟨_, hz, fun v q => nomatch q⟩
    · rw [q]; exact ⟨_, hTI, fun v q => nomatch q⟩
    · rw [q]; exact ⟨_, hTO, fun v q => nomatch q⟩
    · rw [q]; exact h1.obj
    · rw [q]; exact h2.obj
    · rw [q]; exact h3.obj
  keep := fun i h h' st k => by
    obtain ⟨hz, hTI, ⟨x, y, u, hTO⟩, h1, h2, h3⟩ := st
    exact ⟨k z (by simp) _ hz, k TI (by simp) _ hTI, ⟨x, y, u, k TO (by simp) _ hTO⟩, h1.at_ fun o q => k i1 (by simp) o q, h2.at_ fun o q => k i2 (by simp) o q, h3.at_ fun o q => k i3 (by simp) o q⟩
  item := by
    intro X hP hw hK hc i pins s σ H E I hf st hg
    subst hP hw hK
    obtain ⟨hz, hTI, ⟨x0, y0, u0, hTO⟩, h1, h2, h3⟩ := st
    obtain ⟨xs, ys, zs, x, y, y3, hqx, hqy, hqz, hx, hy, hy3⟩ := hg
    obtain ⟨its, rv, p, _⟩ := sq_is I hqx
    obtain ⟨its2, rv2, p2, _⟩ := sq_is I hqy
    obtain ⟨its3, rv3, p3, _⟩ := sq_is I hqz
    obtain ⟨u, hu, ru⟩ := rv.get hx
    obtain ⟨u2, hu2, ru2⟩ := rv2.get hy
    obtain ⟨u3, hu3, ru3⟩ := rv3.get hy3
    have hzl : z < s.heap.objs.size := Heap.lt_size hz
    have D1 := draws (prog := X.prog) (w := X.w) (A := X.A.in1) (I.ok.hd hc) k1 i1 a n1 its.toArray
    have D2 := draws (prog := X.prog) (w := X.w) (A := X.A.in1) (I.ok.hd hc) k2 i2 b n2 its2.toArray
    have D3 := draws (prog := X.prog) (w := X.w) (A := X.A.in1) (I.ok.hd hc) k3 i3 d n3 its3.toArray
    have l1 : i < its.toArray.size := by
      have := (List.getElem?_eq_some_iff.mp hu).1
      simpa using this
    have l2 : i < its2.toArray.size := by
      have := (List.getElem?_eq_some_iff.mp hu2).1
      simpa using this
    have l3 : i < its3.toArray.size := by
      have := (List.getElem?_eq_some_iff.mp hu3).1
      simpa using this
    refine wpAny_pyNext_zipD3_item S D1 D2 D3 hz hTI hTO ⟨h1, p⟩ ⟨h2, p2⟩ ⟨h3, p3⟩ l1 l2 l3 fun v1 v2 v3 h' tk hP1 hP2 hP3 z' TO' st1 st2 st3 hT hsz hk => ?_
    obtain rfl : v1 = u := by
      have : its.toArray[i]? = some u := by simpa using hu
      rw [this] at hP1
      exact (Option.some.inj hP1).symm
    obtain rfl : v2 = u2 := by
      have : its2.toArray[i]? = some u2 := by simpa using hu2
      rw [this] at hP2
      exact (Option.some.inj hP2).symm
    obtain rfl : v3 = u3 := by
      have : its3.toArray[i]? = some u3 := by simpa using hu3
      rw [this] at hP3
      exact (Option.some.inj hP3).symm
    refine ⟨_, rfl, wpAny_letOwnedTupleGo_zip (s := { s with heap := h', toks := tk }) z' fun h'' z'' sb => ?_⟩
    have hT2 : h''.get? s.heap.objs.size = some { cls := .type "tuple", data := .seq #[v1, v2, v3] } := (sb.2 _ (Nat.ne_of_gt hzl)).trans hT
    obtain ⟨ob, hob, hT3, n3, hd3⟩ : ∃ ob : Obj, TupO ob ∧ h''.get? s.heap.objs.size = some ob ∧ ∃ n, ob.data = .seq #[v1, v2, v3] n := ⟨_, ⟨rfl, rfl⟩, hT2, _, rfl⟩
    have new : ObjOk X.prog X.w (upd H s.heap.objs.size (.frz ob (.tup [x, y, y3]))) h'' s.heap.objs.size (.frz ob (.tup [x, y, y3])) :=
      ⟨hT3, by show 3 ≤ sizeLine; decide, [v1, v2, v3], .cons ru (.cons ru2 (.cons ru3 .nil)), ⟨ob, hT3, hob.1, n3, hd3⟩⟩
    have I1 : Inv X pins σ (upd H s.heap.objs.size (.frz ob (.tup [x, y, y3]))) { s with heap := h'', toks := tk } :=
      I.turnedNew (t' := tk) (ch := [z, TI, TO, i1, i2, i3]) (fun c o hb q => (sb.2 c (fun q' => hb (by simp [q']))).trans (hk c o (fun q' => hb (by simp [q'])) (fun q' => hb (by simp [q'])) (fun q' => hb (by simp [q'])) (fun q' => hb (by simp [q'])) (fun q' => hb (by simp [q'])) q)) hf (Nat.le_refl _) new
    refine ⟨.ref s.heap.objs.size, _, I1, rfl, ⟨_, x, y, y3, ⟨ob, hob, rfl, I.hok.fresh (Nat.le_refl _), rfl⟩, fun l hl => by rw [sq_inj I hl hqx]; exact hx, fun l hl => by rw [sq_inj I hl hqy]; exact hy, fun l hl => by rw [sq_inj I hl hqz]; exact hy3⟩, ⟨z'', ?_, ⟨v1, v2, v3, ?_⟩, ?_, ?_, ?_⟩, fun c hcm => ?_⟩
    · exact (sb.2 _ S.TIz).trans (hk _ _ S.TIz S.TITO S.TIi1 S.TIi2 S.TIi3 hTI)
    · exact (sb.2 _ S.TOz).trans TO'
    · exact st1.1.at_ fun o q => (sb.2 _ S.zi1.symm).trans q
    · exact st2.1.at_ fun o q => (sb.2 _ S.zi2.symm).trans q
    · exact st3.1.at_ fun o q => (sb.2 _ S.zi3.symm).trans q
    · have hlt : c < s.heap.objs.size := by
        have e' : c = z ∨ c = TI ∨ c = TO ∨ c = i1 ∨ c = i2 ∨ c = i3 := by simpa using hcm
        rcases e' with q | q | q | q | q | q
        · rw [q]; exact hzl
        · rw [q]; exact Heap.lt_size hTI
        · rw [q]; exact Heap.lt_size hTO
        · rw [q]; obtain ⟨_, e1, _⟩ := h1.obj; exact Heap.lt_size e1
        · rw [q]; obtain ⟨_, e2, _⟩ := h2.obj; exact Heap.lt_size e2
        · rw [q]; obtain ⟨_, e2, _⟩ := h3.obj; exact Heap.lt_size e2
      rw [upd_ne (Nat.ne_of_lt hlt)]
      exact (hf c hcm).1
  done := by
    intro X hP hw hK hc i pins s σ H E I hf st hg
    subst hP hw hK
    obtain ⟨hz, hTI, ⟨x0, y0, u0, hTO⟩, h1, h2, h3⟩ := st
    obtain ⟨xs, ys, zs, hqx, hqy, hqz, l1, l2, l3, hend⟩ := hg
    obtain ⟨its, rv, p, _⟩ := sq_is I hqx
    obtain ⟨its2, rv2, p2, _⟩ := sq_is I hqy
    obtain ⟨its3, rv3, p3, _⟩ := sq_is I hqz
    have e1 := rv.length
    have e2 := rv2.length
    have e3 := rv3.length
    have D1 := draws (prog := X.prog) (w := X.w) (A := X.A.in1) (I.ok.hd hc) k1 i1 a n1 its.toArray
    have D2 := draws (prog := X.prog) (w := X.w) (A := X.A.in1) (I.ok.hd hc) k2 i2 b n2 its2.toArray
    have D3 := draws (prog := X.prog) (w := X.w) (A := X.A.in1) (I.ok.hd hc) k3 i3 d n3 its3.toArray
    exact wpAny_pyNext_zipD3_end S D1 D2 D3 hz hTI hTO ⟨h1, p⟩ ⟨h2, p2⟩ ⟨h3, p3⟩ (by simp; omega) (by simp; omega) (by simp; omega) (by simp; omega) fun h' tk hk => ⟨rfl, I.turnedL (t' := tk) (ch := [z, TI, TO, i1, i2, i3]) (fun c o hb q =>
      hk c o (fun q' => hb (by simp [q'])) (fun q' => hb (by simp [q'])) (fun q' => hb (by simp [q'])) (fun q' => hb (by simp [q'])) (fun q' => hb (by simp [q'])) q) hf⟩
  self := fun A i s Q E st h => wpAny_pyIter_zip st.1 h
def iZipR (K : PySem.W.Frag) (ta : TA) : TI := fun σ H R => ta σ H fun vs H1 => ∃ k1 k2 k3 a b d xs ys zs, vs = [.ref a, .ref b, .ref d] ∧ Sq K k1 H1 a xs ∧ Sq K k2 H1 b ys ∧ Sq K k3 H1 d zs ∧ R (ItzR K k1 k2 k3 a b d) H1
theorem pi_zipR {X : Cx} {e e2 e3 : Expr} {ta : TA} {p pos tpos : Pos} {elts : List Expr} {kk : Nat} (hg : Gl X "zip") (hm : X.mg "zip" = none) (ha : PA X [e, e2, e3] ta)
    (hs : starEach [e, e2, e3] X.env = (false, eval e X.env) :: starEach [e2, e3] X.env) (hpl : (backTo pos (starEach [e2, e3] X.env)).any (·.1) = false) :
    PI X (.Tuple elts kk tpos) (.Call (.Name "zip" p) [e, e2, e3] [] pos) (iZipR X.K ta) := by
  refine ⟨fun pins s σ H R I h => ?_⟩
  refine Call_ (ld_blt I hg hm PyProof.Rows.boot_zip (PyProof.Rows.callWith_type1 (thn (ha.run pos pins s σ H _ I h) fun us s1 ⟨vs, H1, I1, r1, q1⟩ => ?_) hs hpl))
  obtain ⟨k1, k2, k3, a, b, d, xs, ys, zs, ex, hqx, hqy, hqz, q⟩ := q1
  subst ex
  cases r1 with
  | cons r rr =>
    cases rr with
    | cons r' rr =>
      cases rr with
      | cons r'' rr =>
        cases rr
        cases r
        cases r'
        cases r''
        obtain ⟨its, rv, p1, la⟩ := sq_is I1 hqx
        obtain ⟨its2, rv2, p2, lb⟩ := sq_is I1 hqy
        obtain ⟨its3, rv3, p3, ld⟩ := sq_is I1 hqz
        refine zip_begins3 (begins k1 a its.toArray) (begins k2 b its2.toArray) (begins k3 d its3.toArray) p1 p2 p3 fun h' hz hTI hTO h1 h2 h3 hsz hk => wpAny_pyIter_zip hz ?_
        have I2 : Inv X pins σ H1 { s1 with heap := h' } := I1.kept (t' := s1.toks) hk
        have S : ZipSep3 (s1.heap.objs.size + 5) (s1.heap.objs.size + 3) (s1.heap.objs.size + 4) s1.heap.objs.size (s1.heap.objs.size + 1) (s1.heap.objs.size + 2) [s1.heap.objs.size, a] [s1.heap.objs.size + 1, b] [s1.heap.objs.size + 2, d] :=
          zip_sep3 (fp1 := [a]) (fp2 := [b]) (fp3 := [d]) (fun c hc => by simpa using (by simpa using hc : c = a) ▸ la) (fun c hc => by simpa using (by simpa using hc : c = b) ▸ lb) (fun c hc => by simpa using (by simpa using hc : c = d) ▸ ld)
        refine ⟨s1.heap.objs.size + 5, [s1.heap.objs.size + 5, s1.heap.objs.size + 3, s1.heap.objs.size + 4, s1.heap.objs.size, s1.heap.objs.size + 1, s1.heap.objs.size + 2], _, _, H1, rfl, I2, turn_zipR k1 k2 k3 S (Nat.ne_of_lt la) (Nat.ne_of_lt (Nat.lt_succ_of_lt lb)) (Nat.ne_of_lt (Nat.lt_succ_of_lt (Nat.lt_succ_of_lt ld))), ⟨hz, hTI, ⟨_, _, _, hTO⟩, isIt0 h1, isIt0 h2, isIt0 h3⟩, fun c hcm => ?_, q⟩
        have e' : c = s1.heap.objs.size + 5 ∨ c = s1.heap.objs.size + 3 ∨ c = s1.heap.objs.size + 4 ∨ c = s1.heap.objs.size ∨ c = s1.heap.objs.size + 1 ∨ c = s1.heap.objs.size + 2 := by simpa using hcm
        have hle : s1.heap.objs.size ≤ c := by
          rcases e' with z | z | z | z | z | z
          · rw [z]; exact Nat.le_add_right _ _
          · rw [z]; exact Nat.le_add_right _ _
          · rw [z]; exact Nat.le_add_right _ _
          · rw [z]; exact Nat.le_refl _
          · rw [z]; exact Nat.le_add_right _ _
          · rw [z]; exact Nat.le_add_right _ _
        exact I1.fpOk hle (I1.hok.fresh hle)
end Mn

namespace Mr
open PySem PySem.Spec PyProof.Rows RT L2
section
variable {prog : Program} {w : World} {A : Around} {E : Value → Shared → Prop} {s : Shared} {R : Result → Shared → Prop}
variable {I : Addr} {fp wr : List Addr} {G : Array GenState → Array GenState → Prop} {n : Nat} {P : Nat → Value → Prop} {St : Nat → Shared → Prop}
/-- an iterator taken into a list, its hint read without a trace -/
theorem ext_hint (W : WalksS prog w A.in1 I fp wr G n P St) {T : String} (hT : s.TypeIs (.ref I) T) (hTT : T = "list_reverseiterator" ∨ T = "reversed")
    (hH : ∀ (Q : Bool → Shared → Prop) (E : Value → Shared → Prop), (∀ b tk, s.toks ≤ tk → Q b { s with toks := tk }) → wpAny (model prog w) A.in1 (Builtin.List.listLengthHint (.ref I)) Q E s) (S : Addr) (res : Value) (c₀ : Nat) (hst : St 0 s) (hSf : S ∉ fp) (hI : I ∈ fp)
    (hS : s.heap.get? S = some { cls := .type "list", data := .seq #[] c₀ })
    (hR : ∀ s' acc' c', Moved (S :: wr) G s s' → s'.heap.get? S = some { cls := .type "list", dict := none, data := .seq acc' c', slots := #[] } → ItemsOf P acc' n → R (.ok (.ret res)) s') (hn : n ≤ sizeLine) :
    wpAny (model prog w) A.in1 (Builtin.List.listExtendWith (.ref S) (.ref I) res)
      (fun fin s' => match fin with | .done f => R (.ok f) s' | .again c' => c'.quiet = true ∧ codeAny (model prog w) A c' R s') (fun e s' => R (.error e) s') s := by
  have hSI : S ≠ I := fun e => hSf (e ▸ hI)
  unfold Builtin.List.listExtendWith
  refine wpAny_bind (wpAny_typeOf hT ?_)
  have h1 : Builtin.List.listSameRef (.ref S) (.ref I) = false := by simp [Builtin.List.listSameRef, hSI]
  rw [if_neg (by rw [h1]; rcases hTT with rfl | rfl <;> decide)]
  refine wpAny_bind (W.self 0 _ _ _ hst ?_)
  refine wpAny_bind (wpAny_holding ?_)
  refine hH _ _ fun b tk htk => ?_
  have hst1 : St 0 { s with toks := tk } := W.frame 0 s s.heap tk hst htk fun _ _ o e => e
  have m1 : Moved (S :: wr) G s { s with toks := tk } := (Moved.refl W.grefl).then_heap htk fun b o hb e => e
  cases b with
  | false =>
    rw [if_neg (by rcases hTT with rfl | rfl <;> decide)]
    refine wpAny_pure ⟨plainId_quiet F.plain_extend_loop _, codeAny_extend_loopS W hn _ hSf _ n 0 _ _ _ rfl (Nat.zero_le _) hst1 hS (ItemsOf.nil P) fun s' acc' c' hm hS' hacc => ?_⟩
    exact hR s' acc' c' (Moved.trans W.gtrans m1 hm) hS' hacc
  | true =>
    rw [if_pos (by rfl)]
    refine wpAny_bind (wpAny_rule ?_)
    refine wpAny_bind ?_
    show wpAny _ A.in1 (updateSeq S (·.push .none) >>= fun _ => updateSeq S (·.pop)) _ _ _
    refine wpAny_bind (wpAny_updateSeq hS rfl ?_)
    have hS₂ := Heap.get?_update_self (Obj.mapSeq (·.push Value.none)) hS rfl
    refine wpAny_updateSeq (hz := by seq_fits) hS₂ rfl ?_
    have hS₃ := Heap.get?_update_self (Obj.mapSeq (·.pop)) hS₂ rfl
    have oth : ∀ b o, b ≠ S → s.heap.get? b = some o → ((s.heap.update S (Obj.mapSeq (·.push Value.none))).update S (Obj.mapSeq (·.pop))).get? b = some o :=
      fun b o hb e => (Heap.get?_update_other _ _ (Ne.symm hb)).trans ((Heap.get?_update_other _ _ (Ne.symm hb)).trans e)
    refine wpAny_pure ⟨plainId_quiet F.plain_extend_loop _, codeAny_extend_loopS W hn _ hSf _ n 0 _ _ _ rfl (Nat.zero_le _)
      (W.frame 0 s _ tk hst htk fun b hb o e => oth b o (fun h => hSf (h ▸ hb)) e) hS₃ (ItemsOf.nil P) fun s' acc' c' hm hS' hacc => ?_⟩
    exact hR s' acc' c' (Moved.trans W.gtrans ((Moved.refl W.grefl).then_heap htk fun b o hb e => oth b o (fun h => hb (h ▸ List.mem_cons_self)) e) hm) hS' hacc
theorem init_hint (W : WalksS prog w A.in1 I fp wr G n P St) {T : String} (hT : ∀ i s, St i s → s.TypeIs (.ref I) T) (hTT : T = "list_reverseiterator" ∨ T = "reversed")
    (hH : ∀ (s : Shared) (Q : Bool → Shared → Prop) (E : Value → Shared → Prop), St 0 s → (∀ b tk, s.toks ≤ tk → Q b { s with toks := tk }) → wpAny (model prog w) A.in1 (Builtin.List.listLengthHint (.ref I)) Q E s) (S : Addr) (hst : St 0 s) (hSf : S ∉ fp) (hI : I ∈ fp)
    (hS : s.heap.get? S = some { cls := .type "list", data := .seq #[] })
    (hR : ∀ s' acc' c', Moved (S :: wr) G s s' → s'.heap.get? S = some { cls := .type "list", dict := none, data := .seq acc' c', slots := #[] } → ItemsOf P acc' n → R (.ok (.ret .none)) s') (hn : n ≤ sizeLine) :
    wpAny (model prog w) A.in1 (Builtin.«list.__init__» ⟨[.ref S, .ref I], []⟩)
      (fun fin s' => match fin with | .done f => R (.ok f) s' | .again c' => c'.quiet = true ∧ codeAny (model prog w) A c' R s') (fun e s' => R (.error e) s') s := by
  show wpAny _ A.in1 (do let old ← Builtin.List.listItems (.ref S); Builtin.List.listUpdate (.ref S) (fun _ => #[]); letGo old.toList.reverse; Builtin.List.listExtendWith (.ref S) (.ref I) .none) _ _ s
  refine wpAny_bind ?_
  unfold Builtin.List.listItems
  refine wpAny_bind (wpAny_seqItems hS rfl (wpAny_pure ?_))
  show wpAny _ A.in1 (updateSeq S (fun _ => #[]) >>= fun _ => letGo (#[] : Array Value).toList.reverse >>= fun _ => Builtin.List.listExtendWith (.ref S) (.ref I) .none) _ _ s
  refine wpAny_bind (wpAny_updateSeq hS rfl ?_)
  have hS₂ := Heap.get?_update_self (Obj.mapSeq (fun _ => (#[] : Array Value))) hS rfl
  have oth : ∀ b o, b ≠ S → s.heap.get? b = some o → (s.heap.update S (Obj.mapSeq (fun _ => (#[] : Array Value)))).get? b = some o :=
    fun b o hb e => (Heap.get?_update_other _ _ (Ne.symm hb)).trans e
  refine wpAny_bind (wpAny_letGo ?_)
  have hst2 := W.frame 0 s _ s.toks hst (Nat.le_refl _) fun b hb o e => oth b o (fun h => hSf (h ▸ hb)) e
  refine ext_hint W (hT 0 _ hst2) hTT (fun Q E => hH _ Q E hst2) S .none _ hst2 hSf hI hS₂ (fun s' acc' c' hm hS' hacc => ?_) hn
  exact hR s' acc' c' (Moved.trans W.gtrans ((Moved.refl W.grefl).then_heap (Nat.le_refl _) fun b o hb e => oth b o (fun h => hb (h ▸ List.mem_cons_self)) e) hm) hS' hacc
end
section
variable {prog : Program} {w : World} {A : Around} {E : Value → Shared → Prop} {s : Shared}
variable {I : Addr} {fp wr : List Addr} {G : Array GenState → Array GenState → Prop} {n : Nat} {P : Nat → Value → Prop} {St : Nat → Shared → Prop}
/-- list(an iterator) -/
theorem call_list_hint {Q : Value → Shared → Prop} (W : WalksS prog w A.in1.in1 I fp wr G n P St) {T : String} (hT : ∀ i s, St i s → s.TypeIs (.ref I) T) (hTT : T = "list_reverseiterator" ∨ T = "reversed")
    (hH : ∀ (s : Shared) (Q : Bool → Shared → Prop) (E : Value → Shared → Prop), St 0 s → (∀ b tk, s.toks ≤ tk → Q b { s with toks := tk }) → wpAny (model prog w) A.in1.in1 (Builtin.List.listLengthHint (.ref I)) Q E s) (hst : St 0 s) (hfp : ∀ b ∈ fp, b < s.heap.objs.size) (hI : I ∈ fp)
    (hQ : ∀ s' acc' c', Moved (s.heap.objs.size :: wr) G { s with heap := s.heap.push { cls := .type "list", data := .seq #[] } } s' →
      s'.heap.get? s.heap.objs.size = some { cls := .type "list", dict := none, data := .seq acc' c', slots := #[] } → ItemsOf P acc' n → Q (.ref s.heap.objs.size) s') (hn : n ≤ sizeLine) :
    wpAny (model prog w) A (call (.type "list") [.ref I]) Q E s := by
  have hSf : s.heap.objs.size ∉ fp := fun hm => Nat.lt_irrefl _ (hfp _ hm)
  refine callType_codes (Q₁ := fun obj s₁ => obj = .ref s.heap.objs.size ∧ s₁ = { s with heap := s.heap.push { cls := .type "list", data := .seq #[] } }) F.called_list (F.typeCall_list_1 _) F.entry_list_init
    (code_list_new _ ⟨rfl, rfl⟩) fun obj s₁ h₁ => ?_
  obtain ⟨rfl, rfl⟩ := h₁
  have hS : (s.heap.push { cls := .type "list", data := .seq #[] }).get? s.heap.objs.size = some { cls := .type "list", data := .seq #[] } := Heap.get?_push_size _ rfl
  refine ⟨⟨_, hS, rfl⟩, F.args_list_init_2 _ _, init_hint W hT hTT hH _ (W.frame 0 s _ s.toks hst (Nat.le_refl _) fun b _ o e => Heap.get?_push_of_some _ e) hSf hI hS (fun s' acc' c' hm hS' hacc => ?_) hn⟩
  exact ⟨rfl, hQ s' acc' c' hm hS' hacc⟩
/-- the hint of reversed(a list) -/
theorem hint_rev {it l : Addr} {i : Int} {Q : Bool → Shared → Prop} (hit : s.heap.IsRevIter it l i) (hQ : Q false s) : wpAny (model prog w) A (Builtin.List.listLengthHint (.ref it)) Q E s := by
  have hT : s.TypeIs (.ref it) "list_reverseiterator" := hit.typeIs
  unfold Builtin.List.listLengthHint
  refine wpAny_bind (wpAny_specialOf hT nolen_lri ?_)
  show wpAny _ A (specialOf (Value.ref it) (Str.ofString "__length_hint__") >>= _) _ _ _
  refine wpAny_bind (wpAny_specialOf hT hint_lri ?_)
  generalize hid : ("list_reverseiterator.__length_hint__" : String) = id0
  wp_delta
  rw [show splitId id0 = some ("list_reverseiterator", "__length_hint__") from by subst hid; decide +kernel]
  subst hid
  refine wpAny_bind (wpAny_isInstance (b := true) hT (by rw [isSubtype_type]; kernel_rfl) ?_)
  exact wpAny_pure hQ
theorem nolen_rt : typeLookup (.type "reversed") "__len__" = pure none := by rw [typeLookup_type, builtinLookup_eq_fast]; kernel_rfl
theorem slot_rt_hint : Slot "reversed" "__length_hint__" "reversed.__length_hint__" :=
  .of (owner := "reversed") (n := "__length_hint__") (by rw [typeLookup_type, builtinLookup_eq_fast]; kernel_rfl) (by decide +kernel) (by decide +kernel) (by decide +kernel)
    (by first | exact .inl (by decide +kernel) | exact .inr (by decide +kernel)) (by rw [isSubtype_type]; kernel_rfl)
theorem entry_rt_hint : entryFor table "reversed.__length_hint__" = some Builtin.«reversed.__length_hint__» := entryFor_of_tree (by kernel_rfl)
theorem args_rt_hint (a : Value) : argsOk "reversed.__length_hint__" ⟨[a], []⟩ := by
  unfold argsOk; rw [signature?_of (id := "reversed.__length_hint__") (n := ['_', '_', 't', 'n', 'i', 'h', '_', 'h', 't', 'g', 'n', 'e', 'l', '_', '_']) (o := ['d', 'e', 's', 'r', 'e', 'v', 'e', 'r']) (by kernel_rfl) owner_rt]; kernel_rfl
/-- the hint of reversed(a tuple) -/
theorem hint_rt {it t : Addr} {items : Array Value} {Q : Bool → Shared → Prop} (hit : IsRt s.heap it t ((items.size : Int) - 1)) (ht : IsTup s.heap t items) (hz : items.size ≤ sizeLine) (hQ : ∀ b tk, s.toks ≤ tk → Q b { s with toks := tk }) : wpAny (model prog w) A (Builtin.List.listLengthHint (.ref it)) Q E s := by
  have hT : s.TypeIs (.ref it) "reversed" := hit.typeIs
  obtain ⟨o, ho, hc, hd⟩ := id hit
  have hz' := hz
  rw [sizeLine_eq] at hz'
  unfold Builtin.List.listLengthHint
  refine wpAny_bind (wpAny_specialOf hT nolen_rt ?_)
  show wpAny _ A (specialOf (Value.ref it) (Str.ofString "__length_hint__") >>= _) _ _ _
  refine wpAny_bind (wpAny_specialOf hT slot_rt_hint.lookup ?_)
  generalize hid : ("reversed.__length_hint__" : String) = id0
  wp_delta
  rw [show splitId id0 = some ("reversed", "__length_hint__") from by subst hid; decide +kernel]
  subst hid
  refine wpAny_bind (wpAny_isInstance (b := true) hT (by rw [isSubtype_type]; kernel_rfl) ?_)
  rw [if_neg (by decide)]
  try rw [if_neg (by decide)]
  refine wpAny_bind (wpAny_rule ?_)
  refine wpAny_bind (wpAny_of_eq (slot_rt_hint.bind (.ref it)) ?_)
  refine wpAny_bind (wpAny_attempt (wpAny_call_entry slot_rt_hint hT entry_rt_hint ?_ (args_rt_hint _)))
  unfold Builtin.«reversed.__length_hint__»
  refine wpAny_bind (wpAny_of_eq (a := (Value.ref it)) rfl ?_)
  try dsimp only
  refine wpAny_bind (wpAny_field ho hd (x := .ref t) rfl ?_)
  try dsimp only
  rw [if_neg (by simp)]
  refine wpAny_bind (len_tuple ht (by omega) ?_)
  refine wpAny_bind (wpAny_of_eq (a := some ((items.size : Nat) : Int)) rfl ?_)
  try dsimp only
  refine wpAny_bind (wpAny_field (s := { s with toks := s.toks + 1 + 1 }) ho hd (x := rawInt ((items.size : Int) - 1)) rfl ?_)
  show wpAny _ _ (if ((items.size : Nat) : Int) < (items.size : Int) - 1 + 1 then _ else retInt ((items.size : Int) - 1 + 1)) _ _ _
  rw [if_neg (by omega), show (items.size : Int) - 1 + 1 = (items.size : Int) by omega]
  refine wpAny_bind (wpAny_mkInt ?_)
  refine wpAny_pure ⟨_, rfl, ?_⟩
  generalize hk : ((items.size : Nat) : Int) = z
  refine wpAny_bind (m := asInt? (Value.int z _)) (wpAny_pure ?_)
  try dsimp only
  subst hk
  have c1 : Builtin.List.listFitsIndex (items.size : Int) = true := by unfold Builtin.List.listFitsIndex; simp; omega
  have c2 : Builtin.List.listTooLong (items.size : Int).toNat = false := by unfold Builtin.List.listTooLong; simp; omega
  rw [if_neg (by rw [c1]; decide), if_neg (by omega), if_neg (by rw [c2]; decide)]
  exact wpAny_pure (hQ _ _ (by show s.toks ≤ _; omega))
/-- a walk down a tuple -/
theorem walks_rt (hh : A.handled = none) (I l : Addr) (hne : l ≠ I) (items : Array Value) (hz : items.size ≤ sizeLine) :
    Walks prog w A I [I, l] [I] items.size (fun i v => items[items.size - 1 - i]? = some v) (fun i h => i ≤ items.size ∧ IsRt h I l ((items.size : Int) - 1 - (i : Int)) ∧ IsTup h l items) where
  sub := fun b hb => by simp at hb; simp [hb]
  frame := fun _ _ _ x hk => ⟨x.1, x.2.1.at fun o e => hk I (by simp) o e, let ⟨o, ho, r⟩ := x.2.2; ⟨o, hk l (by simp) o ho, r⟩⟩
  item := fun i s Q E hi x hQ => by
    have e : (items.size : Int) - 1 - (i : Int) = ((items.size - 1 - i : Nat) : Int) := by omega
    have hit := x.2.1
    rw [e] at hit
    have hx : items[items.size - 1 - i]? = some (items[items.size - 1 - i]'(by omega)) := Array.getElem?_eq_getElem (by omega)
    refine next_rt_item hit x.2.2 hx hz fun h' hit' hs' => ?_
    have e2 : ((items.size - 1 - i : Nat) : Int) - 1 = (items.size : Int) - 1 - ((i + 1 : Nat) : Int) := by omega
    rw [e2] at hit'
    exact hQ _ h' (s.toks + 1) hx ⟨hi, hit', x.2.2.extBut hs'.extBut hne⟩ fun b o hb eo => hs'.extBut b o (fun h => hb (by simp [h])) eo
  done := fun s Q E x hQ => by
    have e : (items.size : Int) - 1 - (items.size : Int) = -1 := by omega
    have hit := x.2.1
    rw [e] at hit
    exact next_rt_end hh hit fun h' he' => hQ h' s.toks fun b o hb eo => he' b o (fun h => hb (by simp [h])) eo
  self := fun _ _ _ _ x hQ => iter_rt x.2.1 hQ
/-- what an iterator gives, gathered -/
theorem collect_hint {Q : List Value → Shared → Prop} (W : WalksS prog w A.in1 I fp wr G n P St) {T : String} (hT : ∀ i s, St i s → s.TypeIs (.ref I) T) (hTT : T = "list_reverseiterator" ∨ T = "reversed")
    (hH : ∀ (s : Shared) (Q : Bool → Shared → Prop) (E : Value → Shared → Prop), St 0 s → (∀ b tk, s.toks ≤ tk → Q b { s with toks := tk }) → wpAny (model prog w) A.in1 (Builtin.List.listLengthHint (.ref I)) Q E s) (hst : St 0 s) (hfp : ∀ b ∈ fp, b < s.heap.objs.size) (hI : I ∈ fp) (hn : n ≤ sizeLine)
    (hQ : ∀ s' acc, Moved (s.heap.objs.size :: wr) G { s with heap := s.heap.push { cls := .type "list", data := .seq #[] } } s' → ItemsOf P acc n → Q acc.toList s') :
    wpAny (model prog w) A (collect (.ref I)) Q E s := by
  have hSf : s.heap.objs.size ∉ fp := fun hm => Nat.lt_irrefl _ (hfp _ hm)
  unfold collect
  refine wpAny_bind (wpAny_runValue (codeAny_builtin F.entry_proto_collect ?_))
  rw [Around.under_plainId F.plain_proto_collect _]
  show wpAny _ A.in1 (newList [] >>= fun l' => again (.builtin "list.__iadd__" ⟨[l', .ref I], []⟩)) _ _ s
  refine wpAny_bind (wpAny_newObj_type ?_)
  refine wpAny_pure ⟨plainId_quiet F.plain_list_iadd _, codeAny_builtin F.entry_list_iadd ?_⟩
  rw [Around.under_plainId F.plain_list_iadd _]
  have hS₁ : (s.heap.push { cls := .type "list", data := .seq ([] : List Value).toArray }).get? s.heap.objs.size = some { cls := .type "list", data := .seq ([] : List Value).toArray } := Heap.get?_push_size _ rfl
  show wpAny _ A.in1 (Builtin.List.listExtendWith (.ref s.heap.objs.size) (.ref I) (.ref s.heap.objs.size)) _ _ _
  have hst1 : St 0 { s with heap := s.heap.push { cls := .type "list", data := .seq ([] : List Value).toArray } } := W.frame 0 s _ s.toks hst (Nat.le_refl _) fun b _ o e => Heap.get?_push_of_some _ e
  have key := ext_hint (R := fun r s2 => ∃ acc c', r = .ok (.ret (.ref s.heap.objs.size)) ∧ Moved (s.heap.objs.size :: wr) G { s with heap := s.heap.push { cls := .type "list", data := .seq ([] : List Value).toArray } } s2 ∧ s2.heap.get? s.heap.objs.size = some { cls := .type "list", dict := none, data := .seq acc c', slots := #[] } ∧ ItemsOf P acc n)
    (s := { s with heap := s.heap.push { cls := .type "list", data := .seq ([] : List Value).toArray } }) W (hT 0 _ hst1) hTT (fun Q E => hH _ Q E hst1) s.heap.objs.size (.ref s.heap.objs.size) _ hst1 hSf hI hS₁ (fun s' acc' c' hm hS' hacc => ⟨acc', c', rfl, hm, hS', hacc⟩) hn
  refine wpAny_mono key (fun fin s2 hf => ?_) (fun e s2 he => ?_)
  · cases fin with
    | done f =>
      obtain ⟨acc', c', e, hm, hS', hacc⟩ := hf
      cases e
      show wpAny _ A (load s.heap.objs.size >>= _) _ _ s2
      refine wpAny_bind (wpAny_load hS' ?_)
      refine wpAny_pure ?_
      exact hQ s2 acc' hm hacc
    | again c1 =>
      refine ⟨hf.1, codeAny_mono hf.2 fun r s3 hr => ?_⟩
      obtain ⟨acc', c', e, hm, hS', hacc⟩ := hr
      subst e
      show wpAny _ A (load s.heap.objs.size >>= _) _ _ s3
      refine wpAny_bind (wpAny_load hS' ?_)
      refine wpAny_pure ?_
      exact hQ s3 acc' hm hacc
  · obtain ⟨_, _, e, _⟩ := he
    cases e
theorem code_tuple_rt {it l : Addr} {items : Array Value} {Q₁ : Value → Shared → Prop} (hh : A.handled = none) (hit : IsRt s.heap it l ((items.size : Int) - 1)) (hl : IsTup s.heap l items) (hne : l ≠ it) (hn : items.size ≤ sizeLine)
    (h : ∀ (h' : Heap) (tk : Nat) (acc : Array Value), (∀ b o, b ≠ it → s.heap.get? b = some o → h'.get? b = some o) → ItemsOf (fun i v => items[items.size - 1 - i]? = some v) acc items.size →
      Q₁ (.ref h'.objs.size) { s with heap := h'.push { cls := .type "tuple", data := .seq acc }, toks := tk }) :
    codeAny (model prog w) A (.call (.builtin "tuple.__new__") ⟨[.type "tuple", .ref it], []⟩) (wants Q₁ E) s := by
  refine codeAny_of_tree ?_
  show wpAny _ A.in1 (do checkBuiltinCall "tuple.__new__" ⟨[.type "tuple", .ref it], []⟩; again (.builtin "tuple.__new__" ⟨[.type "tuple", .ref it], []⟩)) _ _ s
  refine wpAny_bind (wpAny_of_eq (F.newCall_tuple_1 _) (wpAny_pure ⟨plainId_quiet F.plain_tuple_new _, codeAny_builtin F.entry_tuple_new ?_⟩))
  rw [Around.under_plainId F.plain_tuple_new _]
  have hsub := sub_tuple_self
  have hinit := init_tuple_lookup
  have hmh := madeHere_tuple
  have hTI : s.TypeIs (.ref it) "reversed" := hit.typeIs
  have hh1 : A.in1.in1.handled = none := hh
  have e0 : ((items.size : Nat) : Int) - 1 - ((0 : Nat) : Int) = (items.size : Int) - 1 := by omega
  have cr : ∀ {Q : List Value → Shared → Prop} {E : Value → Shared → Prop}, (∀ s' acc, Moved (s.heap.objs.size :: [it]) (fun a b => b = a) { s with heap := s.heap.push { cls := .type "list", data := .seq #[] } } s' → ItemsOf (fun i v => items[items.size - 1 - i]? = some v) acc items.size → Q acc.toList s') →
      wpAny (model prog w) A.in1 (collect (.ref it)) Q E s := fun {Q E} k => by
    refine collect_hint (walks_rt (prog := prog) (w := w) (A := A.in1.in1) hh1 it l hne items hn).toS (fun i s x => x.2.1.typeIs) (.inr rfl) (fun s Q E x q => ?_) ⟨Nat.zero_le _, by rw [e0]; exact hit, hl⟩ (fun b hb => ?_) (by simp) hn k
    · have y := x.2.1
      rw [e0] at y
      exact hint_rt y x.2.2 hn q
    · simp only [List.mem_cons, List.not_mem_nil, or_false] at hb
      rcases hb with rfl | rfl
      · obtain ⟨o, ho, _⟩ := hit; exact Heap.lt_size ho
      · exact hl.lt
  wp_walk using wpAny_typeOf hTI, cr
  intro s' acc hm hacc
  rw [Moved.eq_with hm]
  show wpAny _ _ (Builtin.Tuple.tupleExact acc.toList.toArray >>= fun v => ret v) _ _ _
  unfold Builtin.Tuple.tupleExact
  refine wpAny_bind (wpAny_newObj_type ?_ (by show acc.toList.toArray.size ≤ sizeLine; simp only [Array.toArray_toList]; rw [hacc.1]; exact hn))
  refine wpAny_pure ?_
  have e : acc.toList.toArray = acc := by simp
  rw [e]
  refine h s'.heap s'.toks acc (fun b o hb eo => hm.heap b o (fun hmem => ?_) (Heap.get?_push_of_some _ eo)) hacc
  rcases List.mem_cons.mp hmem with e' | hmem
  · exact absurd (Heap.lt_size eo) (by rw [e']; exact Nat.lt_irrefl _)
  · exact hb (List.mem_singleton.mp hmem)
theorem call_tuple_rt {it l : Addr} {items : Array Value} {Q : Value → Shared → Prop} (hh : A.handled = none) (hit : IsRt s.heap it l ((items.size : Int) - 1)) (hl : IsTup s.heap l items) (hne : l ≠ it) (hn : items.size ≤ sizeLine)
    (hQ : ∀ (h' : Heap) (tk : Nat) (acc : Array Value), (∀ b o, b ≠ it → s.heap.get? b = some o → h'.get? b = some o) → ItemsOf (fun i v => items[items.size - 1 - i]? = some v) acc items.size →
      Q (.ref h'.objs.size) { s with heap := h'.push { cls := .type "tuple", data := .seq acc }, toks := tk }) :
    wpAny (model prog w) A (call (.type "tuple") [.ref it]) Q E s := by
  refine callType_codes (Q₁ := fun obj s₁ => s₁.TypeIs obj "tuple" ∧ Q obj s₁) F.called_tuple (F.typeCall_tuple_1 _) F.entry_object_init
    (code_tuple_rt (A := A.in1) hh hit hl hne hn fun h' tk acc hk hacc => ⟨⟨_, Heap.get?_push_size _ rfl, rfl⟩, hQ h' tk acc hk hacc⟩) fun obj s₁ h₁ => ?_
  exact ⟨h₁.1, F.args_object_init_2 obj _, object_init_meets F.called_tuple.init.lookup F.called_tuple.made (by decide) prog w A.in1 _ s₁ ⟨h₁.1, rfl, h₁.2⟩⟩
end
/-- tuple(reversed(x)), x a list or a tuple -/
def tTupR (K : PySem.W.Frag) (te : TE) : TE := fun σ H Q => te σ H fun v H1 => ∃ (a : Addr) (xs : List V), v = .ref a ∧ (SqL K H1 a xs ∨ SqT K H1 a xs) ∧ Mn.NewT Q H1 xs.reverse
/-- list(reversed(x)), x a list or a tuple -/
def tLisR (K : PySem.W.Frag) (te : TE) : TE := fun σ H Q => te σ H fun v H1 => ∃ (a : Addr) (xs : List V), v = .ref a ∧ (SqL K H1 a xs ∨ SqT K H1 a xs) ∧ ∀ q, H1 q = none → Q (.ref q) (upd H1 q (.lst xs.reverse))
section
variable {X : Cx} {e : Expr} {te : TE} {p p2 pos pos2 : Pos}
theorem pe_tupR (hc : X.calm = true) (hg : Gl X "tuple") (hm : X.mg "tuple" = none) (hg2 : Gl X "reversed") (hm2 : X.mg "reversed" = none) (he : PE X e te)
    (hs : starEach [e] X.env = (false, eval e X.env) :: starEach [] X.env)
    (hs2 : starEach [.Call (.Name "reversed" p2) [e] [] pos2] X.env = (false, eval (.Call (.Name "reversed" p2) [e] [] pos2) X.env) :: starEach [] X.env) :
    PE X (.Call (.Name "tuple" p) [.Call (.Name "reversed" p2) [e] [] pos2] [] pos) (tTupR X.K te) := by
  refine ⟨fun pins s σ H Q I h => ?_⟩
  refine Call_ (ld_blt I hg hm boot_tuple (PyProof.Rows.callWith_type1 (args_cons (Call_ (ld_blt I hg2 hm2 PyProof.Rows.boot_reversed (PyProof.Rows.callWith_type1 (args_cons (thn (he.run pins s σ H _ I h) fun u s1 ⟨v, H1, I1, r1, q1⟩ => args_nil ?_) hs) hs rfl))) hs2) hs2 rfl))
  obtain ⟨a, xs, ev, hq, q⟩ := q1
  subst ev
  obtain rfl : u = Value.ref a := r1
  obtain ⟨f0, f1, f2, f3, f4, f5⟩ := I1.fpOk (H' := H1) (b := s1.heap.objs.size) (Nat.le_refl _) (I1.hok.fresh (Nat.le_refl _))
  rcases hq with hq | hq
  · obtain ⟨its, rv, p', hz⟩ := I1.list hq
    refine call_reversed_list p'.isList (args_nil ?_)
    have k0 : ∀ b o, s1.heap.get? b = some o → (s1.heap.push (revObj a ((its.toArray.size : Int) - 1))).get? b = some o := fun b o e => Heap.get?_push_of_some _ e
    have I2 : Inv X pins σ H1 { s1 with heap := s1.heap.push (revObj a ((its.toArray.size : Int) - 1)) } := I1.kept (t' := s1.toks) k0
    have hl := p'.isList
    obtain ⟨ol, hol, _⟩ := id hl
    have hne : a ≠ s1.heap.objs.size := Nat.ne_of_lt (Heap.lt_size hol)
    have hn : its.toArray.size ≤ sizeLine := by rw [List.size_toArray, ← rv.length]; exact hz
    refine call_tuple_rev (s := { s1 with heap := s1.heap.push (revObj a ((its.toArray.size : Int) - 1)) }) (I1.ok.hd hc) ⟨_, Heap.get?_push_size _ rfl, rfl, rfl⟩ (hl.push _) hne hn fun h' tk acc hk hi => ?_
    have I3 : Inv X pins σ H1 { s1 with heap := h', toks := tk } := I2.turned (t' := tk) (fun b o hb e => hk b o hb e) f0 f1 f3 f4 f5
    have z := Mn.laidQ (s := s1) (h0 := h') (tk := tk) I3 (by rw [List.length_reverse]; exact hz) (vals_rev rv hi) q
    rw [Array.toArray_toList] at z
    exact z
  · obtain ⟨its, rv, p', hz⟩ := I1.tuple hq
    have hl := rv.length
    have hn0 := line63
    have hn : its.toArray.size ≤ sizeLine := by rw [List.size_toArray, ← rv.length]; exact hz
    refine call_reversed_tup p' (fun A E Q k => len_tuple p' (by simp only [List.size_toArray] <;> omega) k) (args_nil ?_)
    have k0 : ∀ b o, s1.heap.get? b = some o → (s1.heap.push (rtObj a ((its.toArray.size : Int) - 1))).get? b = some o := fun b o e => Heap.get?_push_of_some _ e
    have I2 : Inv X pins σ H1 { s1 with heap := s1.heap.push (rtObj a ((its.toArray.size : Int) - 1)), toks := s1.toks + 1 + 1 } := I1.kept (t' := s1.toks + 1 + 1) k0
    have hne : a ≠ s1.heap.objs.size := Nat.ne_of_lt p'.lt
    refine call_tuple_rt (s := { s1 with heap := s1.heap.push (rtObj a ((its.toArray.size : Int) - 1)), toks := s1.toks + 1 + 1 }) (I1.ok.hd hc) ⟨_, Heap.get?_push_size _ rfl, rfl, rfl⟩ (p'.push _) hne hn fun h' tk acc hk hi => ?_
    have I3 : Inv X pins σ H1 { s1 with heap := h', toks := tk } := I2.turned (t' := tk) (fun b o hb e => hk b o hb e) f0 f1 f3 f4 f5
    have z := Mn.laidQ (s := s1) (h0 := h') (tk := tk) I3 (by rw [List.length_reverse]; exact hz) (vals_rev rv hi) q
    rw [Array.toArray_toList] at z
    exact z
theorem lis_fin {pins : List (Addr × Obj)} {σ : L2.St} {H1 : Hp} {Q : VK} {s2 s' : Shared} {b0 : Addr} {xs : List V} {its : List Value} {acc : Array Value} {c' : Nat} (I2 : Inv X pins σ H1 s2) (hz : xs.length ≤ sizeLine) (rv : Vals xs its)
    (f : FpOk X pins H1 b0) (hm : Moved (s2.heap.objs.size :: [b0]) (fun a b => b = a) { s2 with heap := s2.heap.push { cls := .type "list", data := .seq #[] } } s') (hS : s'.heap.get? s2.heap.objs.size = some { cls := .type "list", dict := none, data := .seq acc c', slots := #[] })
    (hi : ItemsOf (fun i v => its.toArray[its.toArray.size - 1 - i]? = some v) acc its.toArray.size) (q : ∀ q, H1 q = none → Q (.ref q) (upd H1 q (.lst xs.reverse))) : EP X pins σ Q (.ref s2.heap.objs.size) s' := by
  have fr := I2.hok.fresh (Nat.le_refl s2.heap.objs.size)
  have kp : ∀ b o, b ≠ b0 → s2.heap.get? b = some o → s'.heap.get? b = some o := fun b o hb e => hm.heap b o (fun z => by
    rcases List.mem_cons.mp z with y | y
    · exact absurd (Heap.lt_size e) (by rw [y]; exact Nat.lt_irrefl _)
    · exact hb (List.mem_singleton.mp y)) (Heap.get?_push_of_some _ e)
  have new : ObjOk X.prog X.w (upd H1 s2.heap.objs.size (.lst xs.reverse)) s'.heap s2.heap.objs.size (.lst xs.reverse) := by
    refine ⟨by rw [List.length_reverse]; exact hz, acc.toList, c', vals_rev rv hi, ?_⟩
    rw [Array.toArray_toList]
    exact hS
  have I3 : Inv X pins σ (upd H1 s2.heap.objs.size (.lst xs.reverse)) { s2 with heap := s'.heap, toks := s'.toks } := I2.turnedNew (t' := s'.toks) (ch := [b0]) (fun c o hb e => kp c o (fun z => hb (by simp [z])) e) (fun c hc => by
    rw [List.mem_singleton] at hc
    subst hc
    exact f) (Nat.le_refl _) new
  have es : s' = { s2 with heap := s'.heap, toks := s'.toks } := Moved.eq_with (s := { s2 with heap := s2.heap.push { cls := .type "list", data := .seq #[] } }) hm
  rw [es]
  exact ⟨.ref s2.heap.objs.size, _, I3, rfl, q _ fr⟩
theorem pe_lisR (hc : X.calm = true) (hg : Gl X "list") (hm : X.mg "list" = none) (hg2 : Gl X "reversed") (hm2 : X.mg "reversed" = none) (he : PE X e te)
    (hs : starEach [e] X.env = (false, eval e X.env) :: starEach [] X.env)
    (hs2 : starEach [.Call (.Name "reversed" p2) [e] [] pos2] X.env = (false, eval (.Call (.Name "reversed" p2) [e] [] pos2) X.env) :: starEach [] X.env) :
    PE X (.Call (.Name "list" p) [.Call (.Name "reversed" p2) [e] [] pos2] [] pos) (tLisR X.K te) := by
  refine ⟨fun pins s σ H Q I h => ?_⟩
  refine Call_ (ld_blt I hg hm boot_list (PyProof.Rows.callWith_type1 (args_cons (Call_ (ld_blt I hg2 hm2 PyProof.Rows.boot_reversed (PyProof.Rows.callWith_type1 (args_cons (thn (he.run pins s σ H _ I h) fun u s1 ⟨v, H1, I1, r1, q1⟩ => args_nil ?_) hs) hs rfl))) hs2) hs2 rfl))
  obtain ⟨a, xs, ev, hq, q⟩ := q1
  subst ev
  obtain rfl : u = Value.ref a := r1
  have f := I1.fpOk (H' := H1) (b := s1.heap.objs.size) (Nat.le_refl _) (I1.hok.fresh (Nat.le_refl _))
  rcases hq with hq | hq
  · obtain ⟨its, rv, p', hz⟩ := I1.list hq
    refine call_reversed_list p'.isList (args_nil ?_)
    have k0 : ∀ b o, s1.heap.get? b = some o → (s1.heap.push (revObj a ((its.toArray.size : Int) - 1))).get? b = some o := fun b o e => Heap.get?_push_of_some _ e
    have I2 : Inv X pins σ H1 { s1 with heap := s1.heap.push (revObj a ((its.toArray.size : Int) - 1)) } := I1.kept (t' := s1.toks) k0
    have hl := p'.isList
    obtain ⟨ol, hol, _⟩ := id hl
    have hne : a ≠ s1.heap.objs.size := Nat.ne_of_lt (Heap.lt_size hol)
    have hn : its.toArray.size ≤ sizeLine := by rw [List.size_toArray, ← rv.length]; exact hz
    have e0 : ((its.toArray.size : Nat) : Int) - 1 - ((0 : Nat) : Int) = (its.toArray.size : Int) - 1 := by omega
    refine call_list_hint (s := { s1 with heap := s1.heap.push (revObj a ((its.toArray.size : Int) - 1)) }) (Walks.listRev (A := X.A.in1.in1) (I1.ok.hd hc) s1.heap.objs.size a hne its.toArray).toS (fun i s x => Heap.IsRevIter.typeIs x.2.1) (.inl rfl) (fun s Q E x k => hint_rev x.2.1 (k false s.toks (Nat.le_refl _))) ⟨Nat.zero_le _, by rw [e0]; exact ⟨_, Heap.get?_push_size _ rfl, rfl, rfl⟩, hl.push _⟩ (fun b hb => ?_) (by simp) (fun s' acc c' hmv hS hi => lis_fin I2 hz rv f hmv hS hi q) hn
    simp only [List.mem_cons, List.not_mem_nil, or_false] at hb
    show b < (s1.heap.push _).objs.size
    rw [Heap.size_push]
    rcases hb with rfl | rfl
    · exact Nat.lt_succ_self _
    · exact Nat.lt_succ_of_lt (Heap.lt_size hol)
  · obtain ⟨its, rv, p', hz⟩ := I1.tuple hq
    have hl := rv.length
    have hn0 := line63
    have hn : its.toArray.size ≤ sizeLine := by rw [List.size_toArray, ← rv.length]; exact hz
    refine call_reversed_tup p' (fun A E Q k => len_tuple p' (by simp only [List.size_toArray] <;> omega) k) (args_nil ?_)
    have k0 : ∀ b o, s1.heap.get? b = some o → (s1.heap.push (rtObj a ((its.toArray.size : Int) - 1))).get? b = some o := fun b o e => Heap.get?_push_of_some _ e
    have I2 : Inv X pins σ H1 { s1 with heap := s1.heap.push (rtObj a ((its.toArray.size : Int) - 1)), toks := s1.toks + 1 + 1 } := I1.kept (t' := s1.toks + 1 + 1) k0
    have hne : a ≠ s1.heap.objs.size := Nat.ne_of_lt p'.lt
    have e0 : ((its.toArray.size : Nat) : Int) - 1 - ((0 : Nat) : Int) = (its.toArray.size : Int) - 1 := by omega
    refine call_list_hint (s := { s1 with heap := s1.heap.push (rtObj a ((its.toArray.size : Int) - 1)), toks := s1.toks + 1 + 1 }) (walks_rt (A := X.A.in1.in1) (I1.ok.hd hc) s1.heap.objs.size a hne its.toArray hn).toS (fun i s x => x.2.1.typeIs) (.inr rfl) (fun s Q E x k => ?_) ⟨Nat.zero_le _, by rw [e0]; exact ⟨_, Heap.get?_push_size _ rfl, rfl, rfl⟩, p'.push _⟩ (fun b hb => ?_) (by simp) (fun s' acc c' hmv hS hi => lis_fin I2 hz rv f hmv hS hi q) hn
    · have y := x.2.1
      rw [e0] at y
      exact hint_rt y x.2.2 hn k
    · simp only [List.mem_cons, List.not_mem_nil, or_false] at hb
      show b < (s1.heap.push _).objs.size
      rw [Heap.size_push]
      rcases hb with rfl | rfl
      · exact Nat.lt_succ_self _
      · exact Nat.lt_succ_of_lt p'.lt
end
end Mr

namespace Mn
open PySem PySem.Spec PyProof.Rows L2
section
variable {X : Cx} {s : Sx} {c : Cl}
theorem CO.gl (C : CO X s c) {x y : Str} (h : x = y) (g : s.glo x = true) (m : y ∈ bnames) : Gl X y ∧ X.mg y = none := by
  subst h
  exact ⟨C.glo g, C.bn _ m⟩
theorem tst_val {K : PySem.W.Frag} {c : Cl} {e : Ex} {σ : L2.St} {H : Hp} {Q : Bool → Hp → Prop} (h : tT K c e σ H Q) : tB (tE K c e) σ H Q := by
  obtain ⟨F, env, b, ok, h, k⟩ := h
  exact ⟨F, env, _, ok, h, fun v F' H' x w _ => by
    obtain rfl := w.bool
    exact ⟨b, rfl, k F' H' x⟩⟩
/-- the call of a def of the text -/
theorem pe_callS (C : CO X s c) {f : Nat} {x : Str} {es : Exs} {xs : List Expr} {p pos : Pos} (hf : s.fns[f]? = some x) (hg : s.glo x = true) (hk : okN x = true) (hp : ∀ e ∈ xs, plainX e = true) (ha : PA X xs (tAb X.K c es)) (hl : xs = [] → es = .nil) :
    PE X (.Call (.Name x p) xs [] pos) (tE X.K c (.call f es)) := by
  obtain ⟨np, hnp, ⟨CX, k, fa, fd, ps, hr, hm, hkp, hb, hF, hx⟩⟩ := C.fns f x hf
  have key : ∀ (t : TA), (∀ σ H Q, tAb X.K c es σ H Q → t σ H Q) → ∀ σ H Q, tE X.K c (.call f es) σ H Q →
      tCall (fun vs H Q _ => ∃ F ds r, Same F H ∧ RpAll X.K F vs ds ∧ ds.length = np ∧ c.call f ds = some r ∧ ∀ v F' H', Ext F H F' H' → View X.K F' H' v r → New r v H H' → Q v H') [] E0 t σ H Q := by
    intro t ht σ H Q ⟨F, env, r, ok, h, q⟩
    obtain ⟨⟨ds, b⟩, h1, h2⟩ := bnd (show (evb c env es).bind (fun p => callD (c.call f p.1) p.2) = some r from h)
    obtain ⟨h3, h4⟩ := callD_eq h2
    refine ht σ H _ ⟨F, env, ds, b, ok, h1, fun vs F' H' xt w1 w2 => ?_⟩
    simp only [List.append_nil]
    cases b with
    | false =>
      exact ⟨F', ds, r, xt.sub, w2 rfl, hnp ds r h3, h3, fun v F2 H2 x2 w n => q v F2 H2 (xt.trans x2) w fun _ => fun p hp => xt.same.free (n p hp)⟩
    | true =>
      obtain ⟨d, rfl, hs⟩ := h4 rfl
      obtain ⟨F1, s1, s2, nt, w1⟩ := w1
      exact ⟨F1, ds, .fz d, s2, w1, hnp ds _ h3, h3, fun v F2 H2 x2 w n => by
        obtain ⟨F3, x3, r3⟩ := flat_back xt s1 nt x2 w.rpF hs
        exact q v F3 H2 x3 (.fz r3) fun _ => newFz⟩
  cases xs with
  | nil =>
    exact PE.imp (pe_call0 (dvs := []) (ds := []) (E := E0) hF hr (C.glo hg) hm hkp hb .nil (fun _ _ _ _ _ _ _ h => (hx _ _ _ _ _ h).elim) (okN1 hk).1) (key tNil fun σ H Q h => by
      obtain ⟨F, env, ds, b, ok, h, k⟩ := h
      obtain rfl := hl rfl
      cases h
      exact k [] F H (.refl ok.sub) ⟨F, Same.refl _, ok.sub, NoTu.refl _, .nil⟩ fun _ => .nil)
  | cons e xs =>
    exact PE.imp (pe_call (dvs := []) (ds := []) (E := E0) hF hr (C.glo hg) hm hkp hb .nil (fun _ _ _ _ _ _ _ h => (hx _ _ _ _ _ h).elim) ha (okN1 hk).1 (star_of (hp e (by simp)) xs _) (plain_any fun x hx => hp x (List.mem_cons_of_mem _ hx))) (key _ fun σ H Q h => h)

theorem chks_nil {es : Exs} {s : Sx} (h : chkEs es s [] = true) : es = .nil := by
  cases es with
  | nil => rfl
  | cons _ _ => simp [chkEs] at h
theorem new_back {r : RV} {v : V} {H H' H2 : Hp} (x : Same H H') (n : New r v H' H2) : New r v H H2 := fun p h => x.free (n p h)
/-- two parts, then an operation -/
theorem two {K : PySem.W.Frag} {a b : Ex} {f : RV → RV → Option RV} {σ : L2.St} {H : Hp} {Q : VK} {F : Hp} {env : Ev} {r : RV} (ok : EnvOk K F H env σ) (h : ((ev c env a).bind fun x => (ev c env b).bind fun y => f x y) = some r)
    (k : ∀ v F' H', Ext F H F' H' → View K F' H' v r → New r v H H' → Q v H') : tOp (r2S K f) (tE K c a) (tE K c b) σ H Q := by
  obtain ⟨x, h1, h⟩ := bnd h
  obtain ⟨y, h2, h⟩ := bnd h
  exact ⟨F, env, x, ok, h1, fun v F1 H1 x1 w1 _ => ⟨F1, env, y, ok.ext x1, h2, fun u F2 H2 x2 w2 _ => ⟨F2, x, y, r, x2.sub, w1.ext x2, w2, h, fun v F3 H3 x3 w3 n => k v F3 H3 (x1.trans (x2.trans x3)) w3 (new_back (x1.trans x2).same n)⟩⟩⟩
theorem cmps {K : PySem.W.Frag} {o : Co} {a b : Ex} {σ : L2.St} {H : Hp} {Q : VK} {F : Hp} {env : Ev} {r : RV} (ok : EnvOk K F H env σ) (h : ((ev c env a).bind fun x => (ev c env b).bind fun y => (cmpD o x.d y.d).map fun k => RV.fz (.bool k)) = some r)
    (k : ∀ v F' H', Ext F H F' H' → View K F' H' v r → New r v H H' → Q v H') : tOp (r2C K (cmpD o)) (tE K c a) (tE K c b) σ H Q := by
  obtain ⟨x, h1, h⟩ := bnd h
  obtain ⟨y, h2, h⟩ := bnd h
  obtain ⟨z, h3, rfl⟩ := mpd h
  exact ⟨F, env, x, ok, h1, fun v F1 H1 x1 w1 _ => ⟨F1, env, y, ok.ext x1, h2, fun u F2 H2 x2 w2 _ => ⟨x.d, y.d, z, (w1.ext x2).rp x2.sub, w2.rp x2.sub, h3, k _ F2 H2 (x1.trans x2) (.fz (.bl z)) newFz⟩⟩⟩
/-- an expression whose value is handed on as data -/
theorem handed {K : PySem.W.Frag} {b : Ex} {σ : L2.St} {H : Hp} {Q : VK} {F : Hp} {env : Ev} {r' : RV} {d : PyData} (ok : EnvOk K F H env σ) (h : ev c env b = some r') (ho : ownD b r' = some d)
    (k : ∀ v F' H', Ext F H F' H' → View K F' H' v (.fz d) → Q v H') : tE K c b σ H Q :=
  ⟨F, env, r', ok, h, fun v F1 H1 x1 w1 n1 => by
    obtain ⟨rfl, F2, x2, w2⟩ := own_rp ho x1 w1 n1
    exact k v F2 H1 x2 (.fz w2)⟩
theorem chain {K : PySem.W.Frag} {o o' : Co} {a b d : Ex} {σ : L2.St} {H : Hp} {Q : VK} {F : Hp} {env : Ev} {r : RV} (ok : EnvOk K F H env σ)
    (h : ((ev c env a).bind fun x => (ev c env b).bind fun y => (cmpD o x.d y.d).bind fun k => if k then (ev c env d).bind fun z => (cmpD o' y.d z.d).map fun k => RV.fz (.bool k) else some (.fz (.bool false))) = some r)
    (k : ∀ v F' H', Ext F H F' H' → View K F' H' v r → New r v H H' → Q v H') : tChain (r2C K (cmpD o)) (r2C K (cmpD o')) (tE K c a) (tE K c b) (tE K c d) σ H Q := by
  obtain ⟨x, h1, h⟩ := bnd h
  obtain ⟨y, h2, h⟩ := bnd h
  obtain ⟨z, h3, h⟩ := bnd h
  refine ⟨F, env, x, ok, h1, fun v F1 H1 x1 w1 _ => ⟨F1, env, y, ok.ext x1, h2, fun u F2 H2 x2 w2 _ => ⟨x.d, y.d, z, (w1.ext x2).rp x2.sub, w2.rp x2.sub, h3, z, rfl, ?_⟩⟩⟩
  cases z with
  | false => cases h; exact iteF (k _ F2 H2 (x1.trans x2) (.fz (.bl _)) newFz)
  | true =>
    obtain ⟨y', h4, h⟩ := bnd (show (ev c env d).bind _ = some r from h)
    obtain ⟨z', h5, rfl⟩ := mpd h
    exact iteT ⟨F2, env, y', ok.ext (x1.trans x2), h4, fun v F3 H3 x3 w3 _ => ⟨y.d, y'.d, z', (w2.ext x3).rp x3.sub, w3.rp x3.sub, h5, k _ F3 H3 (x1.trans (x2.trans x3)) (.fz (.bl _)) newFz⟩⟩
/-- a op b op' c op2 d -/
def tChain3 (r r' r2 : R2) (ta tb tc td : TE) : TE := fun σ H Q => ta σ H fun x H1 => tb σ H1 fun y H2 => r x y H2 fun z H3 => ∃ k, z = .bl k ∧
  (if k = true then tc σ H3 fun w' H4 => r' y w' H4 fun z H5 => ∃ k, z = .bl k ∧ (if k = true then td σ H5 fun u' H6 => r2 w' u' H6 Q else Q (.bl false) H5) else Q (.bl false) H3)
section
variable {X : Cx} {e₁ e₂ e₃ e₄ : Expr} {ta tb tc td : TE} {pos : Pos}
theorem pe_chain3 {op op' op2 : CmpOp} {r r' r2 : R2} (ho : OpR X (compareOp op) r) (ho' : OpR X (compareOp op') r') (ho2 : OpR X (compareOp op2) r2) (ha : PE X e₁ ta) (hb : PE X e₂ tb) (hc : PE X e₃ tc) (hd : PE X e₄ td)
    (hm : lastMarks [op, op', op2] [e₂, e₃, e₄] = false) : PE X (.Compare e₁ [op, op', op2] [e₂, e₃, e₄] pos) (tChain3 r r' r2 ta tb tc td) := by
  refine ⟨fun pins s σ H Q I h => ?_⟩
  refine Compare_chain (thn (ha.run pins s σ H _ I h) fun v s1 ⟨x, H1, I1, r1, q1⟩ => chain_link (thn (hb.run pins s1 σ H1 _ I1 q1) fun u s2 ⟨y, H2, I2, r2, q2⟩ =>
    thn (ho pins s2 σ H2 x y v u _ I2 r1 r2 q2) fun d s3 ⟨z, H3, I3, r3, k, e, q3⟩ => ?_)) hm
  subst e
  cases r3
  refine wpAny_truthy_bool ?_
  cases k with
  | false => exact ite_ff ⟨.bl false, H3, I3, rfl, q3⟩
  | true =>
    refine ite_tt (chain_link (thn (hc.run pins s3 σ H3 _ I3 q3) fun w' s4 ⟨z', H4, I4, r4, q4⟩ => thn (ho' pins s4 σ H4 y z' u w' _ I4 r2 r4 q4) fun d' s5 ⟨z2, H5, I5, r5, k2, e2, q5⟩ => ?_))
    subst e2
    cases r5
    refine wpAny_truthy_bool ?_
    cases k2 with
    | false => exact ite_ff ⟨.bl false, H5, I5, rfl, q5⟩
    | true => exact ite_tt (chain_last (thn (hd.run pins s5 σ H5 _ I5 q5) fun w2 s6 ⟨z3, H6, I6, r6, q6⟩ => ho2 pins s6 σ H6 z' z3 w' w2 Q I6 r4 r6 q6))
theorem pt_chain3 {op op' op2 : CmpOp} {r r' r2 : R2} (ho : OpR X (compareOp op) r) (ho' : OpR X (compareOp op') r') (ho2 : OpR X (compareOp op2) r2) (ha : PE X e₁ ta) (hb : PE X e₂ tb) (hc : PE X e₃ tc) (hd : PE X e₄ td)
    (hm : lastMarks [op, op', op2] [e₂, e₃, e₄] = false) : PT X (.Compare e₁ [op, op', op2] [e₂, e₃, e₄] pos) (tTest (tChain3 r r' r2 ta tb tc td)) := by
  refine ⟨fun pins s σ H Q I h => ?_⟩
  refine isTrue_chain (thn (ha.run pins s σ H _ I h) fun v s1 ⟨x, H1, I1, r1, q1⟩ => test_link (thn (hb.run pins s1 σ H1 _ I1 q1) fun u s2 ⟨y, H2, I2, r2, q2⟩ =>
    thn (ho pins s2 σ H2 x y v u _ I2 r1 r2 q2) fun d s3 ⟨z, H3, I3, r3, k, e, q3⟩ => ?_)) hm
  subst e
  cases r3
  refine wpAny_truthy_bool ?_
  cases k with
  | false =>
    obtain ⟨k', e', q'⟩ := q3
    cases e'
    exact ite_ff ⟨H3, I3, q'⟩
  | true =>
    refine ite_tt (test_link (thn (hc.run pins s3 σ H3 _ I3 q3) fun w' s4 ⟨z', H4, I4, r4, q4⟩ => thn (ho' pins s4 σ H4 y z' u w' _ I4 r2 r4 q4) fun d' s5 ⟨z2, H5, I5, r5, k2, e2, q5⟩ => ?_))
    subst e2
    cases r5
    refine wpAny_truthy_bool ?_
    cases k2 with
    | false =>
      obtain ⟨k', e', q'⟩ := q5
      cases e'
      exact ite_ff ⟨H5, I5, q'⟩
    | true =>
      refine ite_tt (test_last (thn (hd.run pins s5 σ H5 _ I5 q5) fun w2 s6 ⟨z3, H6, I6, r6, q6⟩ => thn (ho2 pins s6 σ H6 z' z3 w' w2 _ I6 r4 r6 q6) fun d2 s7 ⟨z4, H7, I7, r7, k3, e3, q7⟩ => ?_))
      subst e3
      cases r7
      exact wpAny_truthy_bool ⟨H7, I7, q7⟩
end
theorem chain3 {K : PySem.W.Frag} {o o' o2 : Co} {a b d e : Ex} {σ : L2.St} {H : Hp} {Q : VK} {F : Hp} {env : Ev} {r : RV} (ok : EnvOk K F H env σ)
    (h : ((ev c env a).bind fun x => (ev c env b).bind fun y => (cmpD o x.d y.d).bind fun k => if k then (ev c env d).bind fun z => (cmpD o' y.d z.d).bind fun k => if k then (ev c env e).bind fun u => (cmpD o2 z.d u.d).map fun k => RV.fz (.bool k) else some (.fz (.bool false)) else some (.fz (.bool false))) = some r)
    (k : ∀ v F' H', Ext F H F' H' → View K F' H' v r → New r v H H' → Q v H') : tChain3 (r2C K (cmpD o)) (r2C K (cmpD o')) (r2C K (cmpD o2)) (tE K c a) (tE K c b) (tE K c d) (tE K c e) σ H Q := by
  obtain ⟨x, h1, h⟩ := bnd h
  obtain ⟨y, h2, h⟩ := bnd h
  obtain ⟨z, h3, h⟩ := bnd h
  refine ⟨F, env, x, ok, h1, fun v F1 H1 x1 w1 _ => ⟨F1, env, y, ok.ext x1, h2, fun u F2 H2 x2 w2 _ => ⟨x.d, y.d, z, (w1.ext x2).rp x2.sub, w2.rp x2.sub, h3, z, rfl, ?_⟩⟩⟩
  cases z with
  | false => cases h; exact iteF (k _ F2 H2 (x1.trans x2) (.fz (.bl _)) newFz)
  | true =>
    obtain ⟨y', h4, h⟩ := bnd (show (ev c env d).bind _ = some r from h)
    obtain ⟨z', h5, h⟩ := bnd h
    refine iteT ⟨F2, env, y', ok.ext (x1.trans x2), h4, fun v F3 H3 x3 w3 _ => ⟨y.d, y'.d, z', (w2.ext x3).rp x3.sub, w3.rp x3.sub, h5, z', rfl, ?_⟩⟩
    cases z' with
    | false => cases h; exact iteF (k _ F3 H3 (x1.trans (x2.trans x3)) (.fz (.bl _)) newFz)
    | true =>
      obtain ⟨y2, h6, h⟩ := bnd (show (ev c env e).bind _ = some r from h)
      obtain ⟨z2, h7, rfl⟩ := mpd h
      exact iteT ⟨F3, env, y2, ok.ext (x1.trans (x2.trans x3)), h6, fun v F4 H4 x4 w4 _ => ⟨y'.d, y2.d, z2, (w3.ext x4).rp x4.sub, w4.rp x4.sub, h7, k _ F4 H4 (x1.trans (x2.trans (x3.trans x4))) (.fz (.bl _)) newFz⟩⟩
def tO (K : PySem.W.Frag) (c : Cl) (e : Ex) : TO := fun σ H Q => ∃ F env o, EnvOk K F H env σ ∧ evo c env e = some o ∧ ∀ F' H', Ext F H F' H' → Q o H'
theorem isV_r {a : Ex} {r : RV} {H' : Hp} (h : isVar a = false → New r v H H') : isVar a = true ∨ New r v H H' := by
  cases e : isVar a with
  | true => exact .inl rfl
  | false => exact .inr (h e)

theorem asStr_eq {r : RV} {x : Str} (h : asStr r = some x) : r = .fz (.str x) := by
  unfold asStr at h
  split at h
  · cases h; rfl
  · cases h
theorem split_eq {x y r : RV} (h : mtD .split x [y] = some r) : ∃ a b, x = .fz (.str a) ∧ y = .fz (.str b) ∧ (b.length == 0) = false ∧ a.length + 2 ≤ LIM ∧ r = .ol ((Txt.split a b).map PyData.str) := by
  have h : splitD x y = some r := h
  unfold splitD at h
  split at h
  · obtain ⟨⟨g1, g2⟩, rfl⟩ := itd h
    exact ⟨_, _, rfl, rfl, g1, g2, rfl⟩
  · cases h
theorem join_str {x : RV} {rs : List RV} {r : RV} (h : mtD .join x rs = some r) : ∃ a, x = .fz (.str a) := by
  obtain ⟨y, rfl, h⟩ := mt1_of h
  obtain ⟨a, _, e, _⟩ := join_eq h
  exact ⟨a, e⟩
theorem upd_upd {H : Hp} {p : Addr} {o o' : HO} : upd (upd H p o) p o' = upd H p o' := by
  funext b
  by_cases q : b = p
  · subst q; rw [upd_same, upd_same]
  · rw [upd_ne q, upd_ne q, upd_ne q]
theorem nosl_of {e : Expr} (h : plainX e = true) : NoSl e := by
  intro o i
  cases e with
  | Slice _ _ _ _ => cases h
  | _ => rfl
theorem dsx_eq {kvs : List (Str × Str)} {r r' : RV} (h : dsxD kvs r = some r') : ∃ z, r = .fz (.str z) ∧ ∃ v, valV (mergeK [] (kvs.map fun p => ((.inr p.1 : Key), V.str p.2))) (.inr z) = some (.str v) ∧ r' = .fz (.str v) := by
  unfold dsxD at h
  split at h
  · obtain ⟨v, h1, rfl⟩ := mpd h
    unfold strLook at h1
    split at h1
    · cases h1
      exact ⟨_, rfl, _, by assumption, rfl⟩
    · cases h1
  · cases h
theorem kv_pps {X : Cx} : ∀ {kvs : List (Str × Str)} {ks : List (Option Expr)} {vs : List Expr}, chkKv kvs ks vs = true → (∀ pos, PPs X pos ks vs (kvs.map fun p => (tC (.str p.1), tC (.str p.2)))) ∧ ks.all (·.isSome) = true ∧ ks.length = kvs.length ∧ vs.length = kvs.length
  | [], [], [], _ => ⟨fun _ => pps_nil, rfl, rfl, rfl⟩
  | (a, b) :: r, k :: ks, v :: vs, h => by
    unfold chkKv at h
    split at h
    · rename_i e1 e2 e3
      cases e1
    · rename_i e1 e2 e3
      cases e1
      cases e2
      cases e3
      simp only [Bool.and_eq_true, decide_eq_true_eq] at h
      obtain ⟨⟨rfl, rfl⟩, h⟩ := h
      obtain ⟨g1, g2, g3, g4⟩ := kv_pps (X := X) h
      exact ⟨fun pos => pps_cons pe_str pe_str (g1 pos), by simpa using g2, by simp [g3], by simp [g4]⟩
    · cases h
  | [], _ :: _, _, h => by simp [chkKv] at h
  | [], [], _ :: _, h => by simp [chkKv] at h
  | _ :: _, [], _, h => by simp [chkKv] at h
  | _ :: _, _ :: _, [], h => by simp [chkKv] at h
theorem tPairs_const {σ : L2.St} {H : Hp} {Q : List (V × V) → Hp → Prop} : ∀ {kvs : List (Str × Str)}, Q (kvs.map fun p => (.str p.1, .str p.2)) H → tPairs (kvs.map fun p => (tC (.str p.1), tC (.str p.2))) σ H Q
  | [], h => h
  | p :: r, h => tPairs_const (Q := fun ps H3 => Q ((.str p.1, .str p.2) :: ps) H3) h
theorem findIdx_facts {ds : List PyData} {d : PyData} {j : Nat} (h : (ds.findIdx? fun z => PyData.eqv z d) = some j) : ∃ z, ds[j]? = some z ∧ PyData.eqv z d = true ∧ ∀ (m : Nat) (z' : PyData), m < j → ds[m]? = some z' → PyData.eqv z' d = false := by
  rw [List.findIdx?_eq_some_iff_getElem] at h
  obtain ⟨h1, h2, h3⟩ := h
  refine ⟨ds[j], List.getElem?_eq_getElem h1, h2, fun m z' hm hz => ?_⟩
  have hl : m < ds.length := by omega
  rw [List.getElem?_eq_getElem hl] at hz
  cases hz
  simpa using h3 m hm
theorem few1 {v : Expr} {cpos : Pos} (h : plainX v = true) (env : Env) : ((backTo cpos (starEach [v] env)).all (fun x => !x.1) && (backToKw cpos (keywordEach [] env)).all (fun x => x.1.isSome)
      && decide ([v].length + ([] : List Keyword).length + (if ([] : List Keyword).isEmpty then 0 else 1) < 30)) = true := by
  rw [star_of h [] env]
  rfl
/-- x.count(y) -/
theorem mt_countD {X : Cx} (hu : X.A.units + 65 < cLine) : MtR X "list.count" (fun x xs H Q => ∃ (a : Addr) (y : V) (d : PyData) (ds : List PyData), x = V.ref a ∧ xs = [y] ∧ Dp X.K H (V.ref a) (.list ds) ∧ Dp X.K H y d ∧
    SeqAt.shaped (.list ds) = true ∧ SeqAt.shaped d = true ∧ Q (.int ((ds.countP fun z => PyData.eqv z d : Nat))) H) := by
  intro pins s σ H x xs v us Q I rx rxs h
  obtain ⟨a, y, d, ds, rfl, rfl, hl, hy, sl, sd, q⟩ := h
  cases rx
  obtain ⟨uy, rfl, ry⟩ := rxs.one
  obtain ⟨bs, r1⟩ := Dp.reads I d y uy hy ry
  have hxs : PyData.canLayAll0 ds = true := SeqAt.canLay_of_shaped sl
  have hroom : X.A.units + 1 + min (PyData.depthAll ds) d.depth < cLine := room_in_shaped sd hu
  cases hl with
  | lst hs ha =>
    obtain ⟨its, rv, p, hlen⟩ := I.list hs
    obtain ⟨as, h4⟩ := Dp.readsAll I ds _ its ha rv
    have hp : PyData.plainAll ds = true := PyData.plain_of_canLay0 (.list ds) hxs
    exact SeqAt.count_list_data p.isList (show ReadsAll s.heap its.toArray.toList ds as from h4) r1 hp (PyData.plain_of_canLay0 d (SeqAt.canLay_of_shaped sd)) hroom ⟨.int _, H, I.tok _, ⟨_, rfl⟩, q⟩
/-- x.index(y) -/
theorem index_eq {x r : RV} {y : RV} (h : mtD .index x [y] = some r) : (∃ a b i rest, x = .fz (.str a) ∧ y = .fz (.str b) ∧ Builtin.Str.occurrences a b 0 a.length 1 = i :: rest ∧ r = .fz (.int (i : Nat))) ∨
    (∃ ds j, x = .fz (.tuple ds) ∧ SeqAt.shaped (.tuple ds) = true ∧ SeqAt.shaped y.d = true ∧ (ds.findIdx? fun z => PyData.eqv z y.d) = some j ∧ r = .fz (.int (j : Nat))) ∨
    (∃ ds j, x.lst = some ds ∧ SeqAt.shaped (.list ds) = true ∧ SeqAt.shaped y.d = true ∧ (ds.findIdx? fun z => PyData.eqv z y.d) = some j ∧ r = .fz (.int (j : Nat))) := by
  have h : indexD x y = some r := h
  unfold indexD at h
  split at h
  · obtain ⟨b, i, rest, e1, e2, e3⟩ := six_eq h
    exact .inl ⟨_, b, i, rest, rfl, e1, e2, e3⟩
  · obtain ⟨h3, h4⟩ := itd' h
    obtain ⟨j, h5, rfl⟩ := mpd h4
    simp only [Bool.and_eq_true] at h3
    exact .inr (.inl ⟨_, j, rfl, h3.1, h3.2, h5, rfl⟩)
  · obtain ⟨ds, h1, h2⟩ := bnd h
    obtain ⟨h3, h4⟩ := itd' h2
    obtain ⟨j, h5, rfl⟩ := mpd h4
    simp only [Bool.and_eq_true] at h3
    exact .inr (.inr ⟨ds, j, h1, h3.1, h3.2, h5, rfl⟩)
def tTs (K : PySem.W.Frag) (c : Cl) (e : Ex) : TT := fun σ H Q => ∃ F env b, EnvOk K F H env σ ∧ evt c env e = some b ∧ ∀ F' H', Ext F H F' H' → Q b H'
theorem ownN_map (s : Sx) : ∀ own : List Nat, (ownN s own).map (·.2) = own
  | [] => rfl
  | i :: r => congrArg (i :: ·) (ownN_map s r)
theorem chkI_plain {it : Itr} {s : Sx} {tg e : Expr} (h : chkI it s tg e = true) : plainX e = true := by
  cases it with
  | ex a => unfold chkI at h; exact chk_plain h
  | _ => unfold chkI at h; split at h <;> first | rfl | cases h
theorem Ext.write {F H F' H' : Hp} {p : Addr} {o : HO} (x : Ext F H F' H') (n : H p = none) (f : F' p = none) : Ext F H F' (upd H' p o) :=
  ⟨x.fr, fun b u e => by
    rw [upd_ne (ne_of_none e f)]
    exact x.sub _ _ e, fun b u e => by
    rw [upd_ne (ne_of_none e n)]
    exact x.same _ _ e, x.new⟩
theorem Ext.out {F H F' H' : Hp} {p : Addr} {o : HO} (x : Ext F H F' H') (f : F p = none) (h : H p = some o) : F' p = none := by
  cases e : F' p with
  | none => rfl
  | some u =>
    rcases x.new _ _ e with z | z
    · rw [f] at z; cases z
    · rw [h] at z; cases z
theorem compL_snoc {f : PyData → Option (Option PyData)} {x : PyData} {o : Option PyData} (hx : f x = some o) : ∀ {xs ds : List PyData}, compL f xs = some ds → compL f (xs ++ [x]) = some (ds ++ o.toList)
  | [], ds, h => by
    cases h
    simp only [List.nil_append, compL, hx, Option.bind_some]
    cases o <;> rfl
  | y :: ys, ds, h => by
    obtain ⟨o', h1, h⟩ := bnd (show (f y).bind _ = some ds from h)
    obtain ⟨r, h2, h⟩ := bnd h
    have ih := compL_snoc hx h2
    have e : compL f (y :: ys ++ [x]) = (f y).bind fun o => (compL f (ys ++ [x])).bind fun r => some (match o with | some y => y :: r | none => r) := rfl
    rw [e, h1, Option.bind_some, ih, Option.bind_some]
    cases h
    cases o' <;> rfl
theorem compL_all {f : PyData → Option (Option PyData)} : ∀ {xs ds : List PyData}, compL f xs = some ds → ∀ (i : Nat) x, xs[i]? = some x → (∃ o, f x = some o) ∧ ∃ es, compL f (xs.take i) = some es
  | [], ds, h, i, x, hx => by simp at hx
  | y :: ys, ds, h, 0, x, hx => by
    obtain ⟨o', h1, h⟩ := bnd (show (f y).bind _ = some ds from h)
    simp at hx
    subst hx
    exact ⟨⟨o', h1⟩, [], rfl⟩
  | y :: ys, ds, h, i + 1, x, hx => by
    obtain ⟨o', h1, h⟩ := bnd (show (f y).bind _ = some ds from h)
    obtain ⟨r, h2, h⟩ := bnd h
    obtain ⟨q1, es, q2⟩ := compL_all h2 i x (by simpa using hx)
    have e : compL f ((y :: ys).take (i + 1)) = (f y).bind fun o => (compL f (ys.take i)).bind fun r => some (match o with | some y => y :: r | none => r) := rfl
    rw [h1, Option.bind_some, q2, Option.bind_some] at e
    exact ⟨q1, _, e⟩
theorem wipe_idem {own : List Nat} {σ : L2.St} : ∀ {vs : List Nat}, (∀ v ∈ vs, v ∈ own) → wipe (wipe σ vs) own = wipe σ own
  | [], _ => rfl
  | v :: vs, h => by
    show wipe ((wipe σ vs).set v none) own = _
    rw [wipe_set (by simpa using h v (by simp))]
    exact wipe_idem fun w hw => h w (List.mem_cons_of_mem _ hw)
structure SndP (X : Cx) (c : Cl) (a : Ex) (e : Expr) : Prop where
  pe : PE X e (tE X.K c a)
  pt : PT X e (tT X.K c a)
  pw : ∀ op vs pos, e = .BoolOp op vs pos → PW X e (tT X.K c a)
theorem mkP {a : Ex} {e : Expr} (h : PE X e (tE X.K c a)) (p : plainT e = true) : SndP X c a e :=
  ⟨h, PT.imp (pt_val h (true_of p _)) fun _ _ _ q => tst_val q, fun op vs pos z => by subst z; cases p⟩
theorem rd_bool {a : Ex} {r : RV} {b : Bool} (h : ownD a r = some (.bool b)) : r = .fz (.bool b) := by
  unfold ownD at h
  split at h
  · cases h
  · cases r <;> simp [RV.d] at h
    subst h
    rfl
theorem tgo {K : PySem.W.Frag} {b : Ex} {σ : L2.St} {H : Hp} {Q : Bool → Hp → Prop} {F : Hp} {env : Ev} {k : Bool} (ok : EnvOk K F H env σ) (h : ((ev c env b).bind fun r => (ownD b r).map RV.fz) = some (.fz (.bool k)))
    (q : ∀ F' H', Ext F H F' H' → Q k H') : tT K c b σ H Q := by
  obtain ⟨r, h1, h2⟩ := bnd h
  obtain ⟨d, h3, h4⟩ := mpd h2
  cases h4
  obtain rfl := rd_bool h3
  exact ⟨F, env, k, ok, h1, q⟩
theorem comp_ok {K : PySem.W.Frag} {a t : Ex} {tg : Tg} {it : Itr} {own : List Nat} {σ : L2.St} {H : Hp} {Q : VK} (ht : tgIn tg own = true) (h : tE K c (.comp a tg it t own) σ H Q) : tLc (tI K c it) (gS K tg) (tTs K c t) (tE K c a) own σ H Q := by
  obtain ⟨F, env, r, ok, h, k⟩ := h
  obtain ⟨items, h1, h⟩ := bnd (show (evi c env it).bind _ = some r by simpa only [ev] using h)
  obtain ⟨ds, h2, h⟩ := bnd h
  obtain ⟨hl, rfl⟩ := itd h
  refine ⟨F, env, items, ok, h1, fun J F1 H1 x1 wd _ D nD => ?_⟩
  let f : PyData → Option (Option PyData) := fun x => (bindT tg (wipeE env own) x).bind fun env' => (evt c env' t).bind fun k => if k then (ev c env' a).bind fun r => (ownD a r).map some else some none
  have h2 : compL f items = some ds := h2
  let Pv : Nat → Hp → Prop := fun i Hc => ∃ Fc acc es, Ext F1 H1 Fc Hc ∧ Hc D = some (.lst acc) ∧ Fc D = none ∧ RpAll K Fc acc es ∧ compL f (items.take i) = some es ∧ es.length ≤ i
  refine ⟨fun i m Hc => m = items.length - i ∧ i ≤ items.length ∧ Pv i Hc, ⟨items.length, by simp, Nat.zero_le _, F1, [], [], Ext.lay0 x1.sub nD, upd_same, x1.sub.free nD, .nil, rfl, Nat.le_refl _⟩, ?_⟩
  rintro i m Hc ⟨rfl, hi, Fc, acc, es, xc, hD, fD, ra, hc, hes⟩
  obtain ⟨w1, w2⟩ := wd Hc Fc xc.same xc.fr xc.sub
  by_cases hlt : i < items.length
  · obtain ⟨go, yl⟩ := w2 i items[i] (by simp [hlt])
    refine .inr ⟨go, Pv (i + 1), fun H' p => ⟨items.length - (i + 1), by omega, rfl, hlt, p⟩, fun x H' y => ?_⟩
    obtain ⟨F3, x3, rp⟩ := yl x H' y
    obtain ⟨⟨o, ho⟩, _⟩ := compL_all h2 i items[i] (by simp [hlt])
    have hsn := compL_snoc ho hc
    have tk : items.take (i + 1) = items.take i ++ [items[i]] := by rw [List.take_add_one, List.getElem?_eq_getElem hlt]; rfl
    rw [← tk] at hsn
    obtain ⟨env', b1, ho⟩ := bnd (show (bindT tg (wipeE env own) items[i]).bind _ = some o from ho)
    obtain ⟨b, b2, ho⟩ := bnd ho
    refine ⟨F3, wipeE env own, items[i], env', (((ok.ext x1).ext xc).ext x3).wipe own, rp, b1, fun σ' hw ok' _ => ⟨by rw [hw own ht]; exact wipe_idem (fun _ h => h), F3, env', b, ok', b2, fun F4 H4 x4 => ?_⟩⟩
    have D4 : H4 D = some (.lst acc) := x4.same _ _ (x3.same _ _ hD)
    have f4 : F4 D = none := x4.out (x3.out fD hD) (x3.same _ _ hD)
    cases b with
    | false =>
      cases ho
      refine iteF ⟨F4, acc, es, xc.trans (x3.trans x4), D4, f4, ra.mono (x3.fr.trans x4.fr), ?_, by omega⟩
      rw [hsn]
      simp
    | true =>
      obtain ⟨r', b3, ho⟩ := bnd (show (ev c env' a).bind _ = some o from ho)
      obtain ⟨d, b4, rfl⟩ := mpd ho
      refine iteT ⟨F4, env', r', ok'.ext x4, b3, fun v F5 H5 x5 w5 n5 => ?_⟩
      obtain ⟨_, F6, x6, w6⟩ := own_rp b4 x5 w5 n5
      have D5 : H5 D = some (.lst acc) := x5.same _ _ D4
      have f6 : F6 D = none := x6.out f4 D4
      refine ⟨acc, D5, ?_, F6, acc ++ [v], es ++ [d], ?_, upd_same, f6, (ra.mono ((x3.fr.trans x4.fr).trans x6.fr)).append (.cons w6 .nil), ?_, ?_⟩
      · rw [ra.length]
        exact LIM_lt (by omega)
      · exact (xc.trans (x3.trans (x4.trans x6))).write nD f6
      · rw [hsn]
        rfl
      · rw [List.length_append, List.length_singleton]
        omega
  · have e : i = items.length := by omega
    subst e
    rw [List.take_length, h2] at hc
    cases hc
    exact .inl ⟨w1, k _ Fc Hc (x1.trans xc) (.own fD hD (.lst ra)) fun _ => newOl (x1.same.free nD)⟩
theorem items_cases {r : RV} {items : List PyData} (h : itemsOf r = some items) : (∃ z : Str, r = .fz (.str z) ∧ items = z.cps.toList.map fun c => .str ⟨#[c]⟩) ∨ r.seq = some items := by
  unfold itemsOf at h
  split at h
  · cases h; exact .inl ⟨_, rfl, rfl⟩
  · exact .inr h
theorem seqv2 {K : PySem.W.Frag} {F H F1 H1 : Hp} {e : Ex} {r : RV} {v : V} {ds : List PyData} (x : Ext F H F1 H1) (w : View K F1 H1 v r) (n : isVar e = false → New r v H H1) (hs : r.seq = some ds) :
    ∃ (k : Bool) (a : Addr) (vs : List V), v = .ref a ∧ Sq K k H1 a vs ∧ RpAll K F1 vs ds ∧ ((isVar e && r.isOwn) = false → ∃ F2, Ext F H F2 H1 ∧ Sq K k F2 a vs ∧ RpAll K F2 vs ds) ∧ (k = false → ∃ ds, r = .fz (.tuple ds)) := by
  cases w with
  | fz q =>
    cases q with
    | lst hF ra => cases hs; exact ⟨true, _, _, rfl, SqL.of (x.sub _ _ hF), ra, fun _ => ⟨F1, x, SqL.of hF, ra⟩, fun z => by cases z⟩
    | tup hF ra => cases hs; exact ⟨false, _, _, rfl, Same.sqT x.sub hF.sqT, ra, fun _ => ⟨F1, x, hF.sqT, ra⟩, fun _ => ⟨_, rfl⟩⟩
    | scr hF => cases hs; exact ⟨true, _, _, rfl, x.sub.seq hF, .ofInts _, fun _ => ⟨F1, x, hF, .ofInts _⟩, fun z => by cases z⟩
    | dK hF ra =>
      rename_i kvs ds'
      cases kvs with
      | nil => simp [RV.seq] at hs
      | cons p r =>
        cases ds' with
        | nil => simp [RV.seq] at hs
        | cons d1 dr =>
          obtain ⟨k, v⟩ := p
          cases k <;> simp [RV.seq, keyD] at hs
    | dT hF ra =>
      rename_i kvs ds'
      cases kvs with
      | nil => simp [RV.seq] at hs
      | cons p r =>
        cases ds' with
        | nil => simp [RV.seq] at hs
        | cons d1 dr => simp [RV.seq, keysD] at hs
    | _ => simp [RV.seq] at hs
  | own f h2 q =>
    cases q <;> cases hs
    rename_i p vs ra
    refine ⟨true, _, _, rfl, SqL.of h2, ra, fun hb => ?_, fun z => by cases z⟩
    have hv : isVar e = false := by simpa [RV.isOwn] using hb
    have e2 := n hv _ rfl
    exact ⟨_, x.freeze e2 f h2, SqL.of upd_same, ra.mono (Same.upd f)⟩
theorem wd_of {K : PySem.W.Frag} {F Fg : Hp} {J : It} {n : Nat} {G : Hp → Prop} {Y : Nat → Hp → V → Hp → Prop} {items : List PyData} (W : Walk J n G Y) (hn : n = items.length) (hG : ∀ H2, Same Fg H2 → G H2)
    (hY : ∀ (i : Nat) x H2 F2 H3 d, Same F F2 → Same F2 H2 → Y i H2 x H3 → items[i]? = some d → ∃ F3, Ext F2 H2 F3 H3 ∧ Rp K F3 x d) : WalkD K F Fg J items := by
  intro H2 F2 s1 s2 s3
  subst hn
  refine ⟨W.stops H2 (hG H2 s1), fun i d hd => ?_⟩
  have hi : i < items.length := (List.getElem?_eq_some_iff.mp hd).1
  exact ⟨W.goes i H2 hi (hG H2 s1), fun x H3 y => hY i x H2 F2 H3 d s2 s3 (W.yields i H2 x H3 hi (hG H2 s1) y) hd⟩
theorem wd_list {K : PySem.W.Frag} {F Fg : Hp} {a : Addr} {vs : List V} {ds : List PyData} (g : ∀ H2, Same Fg H2 → SqL K H2 a vs) (ra : RpAll K F vs ds) : WalkD K F Fg (Itl K a) ds :=
  wd_of walk_list ra.length g fun i x H2 F2 H3 d s2 s3 y hd => by
    obtain ⟨rfl, hx⟩ := y
    obtain ⟨d', h1, h2⟩ := ra.get hx
    rw [hd] at h1
    cases h1
    exact ⟨F2, .refl s3, h2.mono s2⟩
theorem wd_tup {K : PySem.W.Frag} {F Fg : Hp} {a : Addr} {vs : List V} {ds : List PyData} (g : ∀ H2, Same Fg H2 → SqT K H2 a vs) (ra : RpAll K F vs ds) : WalkD K F Fg (Itt K a) ds :=
  wd_of walk_tup ra.length g fun i x H2 F2 H3 d s2 s3 y hd => by
    obtain ⟨rfl, hx⟩ := y
    obtain ⟨d', h1, h2⟩ := ra.get hx
    rw [hd] at h1
    cases h1
    exact ⟨F2, .refl s3, h2.mono s2⟩
theorem wd_str {K : PySem.W.Frag} {F Fg : Hp} (z : Str) : WalkD K F Fg (Its z) (z.cps.toList.map fun c => .str ⟨#[c]⟩) :=
  wd_of walk_str (by simp) (fun _ _ => trivial) fun i x H2 F2 H3 d s2 s3 y hd => by
    obtain ⟨rfl, c, hc, rfl⟩ := y
    rw [List.getElem?_map] at hd
    have : z.cps.toList[i]? = some c := by simpa using hc
    rw [this] at hd
    cases hd
    exact ⟨F2, .refl s3, .str _⟩
theorem range_get {n i j : Nat} (h : (List.range n)[i]? = some j) : j = i := by
  obtain ⟨hi, e⟩ := List.getElem?_eq_some_iff.mp h
  rw [List.getElem_range] at e
  exact e.symm
theorem wd_rng {K : PySem.W.Frag} {F Fg : Hp} (lo : Int) (n : Nat) : WalkD K F Fg (L2.Itr lo n) (rngD lo n) :=
  wd_of walk_range (by simp [rngD]) (fun _ _ => trivial) fun i x H2 F2 H3 d s2 s3 y hd => by
    obtain ⟨rfl, rfl⟩ := y
    unfold rngD at hd
    rw [List.getElem?_map] at hd
    obtain ⟨j, hj, rfl⟩ := mpd hd
    obtain rfl := range_get hj
    exact ⟨F2, .refl s3, .int _⟩
theorem wd_rngC {K : PySem.W.Frag} {F Fg : Hp} (lo c : Int) (n : Nat) : WalkD K F Fg (Itc lo c n) (rngC lo c n) :=
  wd_of walk_rangeC (by simp [rngC]) (fun _ _ => trivial) fun i x H2 F2 H3 d s2 s3 y hd => by
    obtain ⟨rfl, rfl⟩ := y
    unfold rngC at hd
    rw [List.getElem?_map] at hd
    obtain ⟨j, hj, rfl⟩ := mpd hd
    obtain rfl := range_get hj
    exact ⟨F2, .refl s3, .int _⟩
theorem RpAll.rev_get {K : PySem.W.Frag} {F : Hp} {vs : List V} {ds : List PyData} (ra : RpAll K F vs ds) {i : Nat} {x : V} {d : PyData} (hi : i < vs.length) (hx : vs[vs.length - 1 - i]? = some x) (hd : ds.reverse[i]? = some d) : Rp K F x d := by
  rw [List.getElem?_reverse (by rw [← ra.length]; exact hi), ← ra.length] at hd
  obtain ⟨d', h1, h2⟩ := ra.get hx
  rw [hd] at h1
  cases h1
  exact h2
theorem wd_rev {K : PySem.W.Frag} {F Fg : Hp} {a : Addr} {vs : List V} {ds : List PyData} (g : ∀ H2, Same Fg H2 → SqL K H2 a vs) (ra : RpAll K F vs ds) : WalkD K F Fg (Itv K a vs.length) ds.reverse :=
  wd_of walk_rev (by rw [List.length_reverse]; exact ra.length) g fun i x H2 F2 H3 d s2 s3 y hd => by
    obtain ⟨rfl, hx⟩ := y
    have hi : i < vs.length := by
      have := (List.getElem?_eq_some_iff.mp hd).1
      rw [List.length_reverse] at this
      rw [ra.length]; exact this
    exact ⟨F2, .refl s3, (ra.rev_get hi hx hd).mono s2⟩
theorem walk_revT {K : PySem.W.Frag} {a : Addr} {xs : List V} : Walk (RT.ItvT K a xs.length) xs.length (fun H => SqT K H a xs) (fun i H x H' => H' = H ∧ xs[xs.length - 1 - i]? = some x) :=
  ⟨fun i _ hi q => ⟨hi, xs, xs[xs.length - 1 - i]'(by omega), q, by simp [show xs.length - 1 - i < xs.length by omega]⟩, fun _ _ => Nat.le_refl _, fun _ _ _ _ _ q y => ⟨y.1, y.2 xs q⟩⟩
theorem wd_revT {K : PySem.W.Frag} {F Fg : Hp} {a : Addr} {vs : List V} {ds : List PyData} (g : ∀ H2, Same Fg H2 → SqT K H2 a vs) (ra : RpAll K F vs ds) : WalkD K F Fg (RT.ItvT K a vs.length) ds.reverse :=
  wd_of walk_revT (by rw [List.length_reverse]; exact ra.length) g fun i x H2 F2 H3 d s2 s3 y hd => by
    obtain ⟨rfl, hx⟩ := y
    have hi : i < vs.length := by
      have := (List.getElem?_eq_some_iff.mp hd).1
      rw [List.length_reverse] at this
      rw [ra.length]; exact this
    exact ⟨F2, .refl s3, (ra.rev_get hi hx hd).mono s2⟩
theorem pair_lay {K : PySem.W.Frag} {F2 H2 : Hp} {T : Addr} {ob : Obj} {x y : V} {d e : PyData} (s3 : Same F2 H2) (q : TupO ob) (n : H2 T = none) (r1 : Rp K F2 x d) (r2 : Rp K F2 y e) : ∃ F3, Ext F2 H2 F3 (upd H2 T (.frz ob (.tup [x, y]))) ∧ Rp K F3 (.ref T) (.tuple [d, e]) :=
  ⟨_, Ext.lay s3 n, .tup (TupN.of q upd_same) (RpAll.mono (Same.upd (s3.free n)) (.cons r1 (.cons r2 .nil)))⟩
theorem walk_zipQ {K : PySem.W.Frag} {k1 k2 : Bool} {a b : Addr} {xs ys : List V} : Walk (ItzQ K k1 k2 a b) (min xs.length ys.length) (fun H => Sq K k1 H a xs ∧ Sq K k2 H b ys) (YPairN (fun i => xs[i]?) (fun i => ys[i]?)) := by
  refine ⟨fun i _ hi q => ?_, fun _ q => ⟨xs, ys, q.1, q.2, by omega, by omega, by omega⟩, fun i H v H' _ q y => ?_⟩
  · have h1 : i < xs.length := by omega
    have h2 : i < ys.length := by omega
    exact ⟨xs, ys, xs[i], ys[i], q.1, q.2, by simp [h1], by simp [h2]⟩
  · obtain ⟨T, x, z, h1, h4, h5⟩ := y
    exact ⟨T, x, z, h1, h4 xs q.1, h5 ys q.2⟩
theorem wd_zip {K : PySem.W.Frag} {F Fg : Hp} {k1 k2 : Bool} {a b : Addr} {vs ws : List V} {ds es : List PyData} (g : ∀ H2, Same Fg H2 → Sq K k1 H2 a vs ∧ Sq K k2 H2 b ws) (ra : RpAll K F vs ds) (rb : RpAll K F ws es) : WalkD K F Fg (ItzQ K k1 k2 a b) (zipD ds es) :=
  wd_of walk_zipQ (by simp [zipD, ra.length, rb.length]) g fun i x H2 F2 H3 d s2 s3 y hd => by
    obtain ⟨T, x1, x2, ⟨ob, hob, rfl, n, rfl⟩, h1, h2⟩ := y
    obtain ⟨d1, q1, r1⟩ := ra.get h1
    obtain ⟨d2, q2, r2⟩ := rb.get h2
    unfold zipD at hd
    rw [List.getElem?_zipWith, q1, q2] at hd
    cases hd
    exact pair_lay s3 hob n (r1.mono s2) (r2.mono s2)
def YTrip (f g k : Nat → Option V) : Nat → Hp → V → Hp → Prop := fun i H v H' => ∃ T x y z, NewP H v H' T [x, y, z] ∧ f i = some x ∧ g i = some y ∧ k i = some z
theorem walk_zipR {K : PySem.W.Frag} {k1 k2 k3 : Bool} {a b d : Addr} {xs ys zs : List V} : Walk (ItzR K k1 k2 k3 a b d) (min xs.length (min ys.length zs.length)) (fun H => Sq K k1 H a xs ∧ Sq K k2 H b ys ∧ Sq K k3 H d zs) (YTrip (fun i => xs[i]?) (fun i => ys[i]?) (fun i => zs[i]?)) := by
  refine ⟨fun i _ hi q => ?_, fun _ q => ⟨xs, ys, zs, q.1, q.2.1, q.2.2, by omega, by omega, by omega, by omega⟩, fun i H v H' _ q y => ?_⟩
  · have h1 : i < xs.length := by omega
    have h2 : i < ys.length := by omega
    have h3 : i < zs.length := by omega
    exact ⟨xs, ys, zs, xs[i], ys[i], zs[i], q.1, q.2.1, q.2.2, by simp [h1], by simp [h2], by simp [h3]⟩
  · obtain ⟨T, x, z, u, h1, h4, h5, h6⟩ := y
    exact ⟨T, x, z, u, h1, h4 xs q.1, h5 ys q.2.1, h6 zs q.2.2⟩
theorem trip_lay {K : PySem.W.Frag} {F2 H2 : Hp} {T : Addr} {ob : Obj} {x y z : V} {d e f : PyData} (s3 : Same F2 H2) (q : TupO ob) (n : H2 T = none) (r1 : Rp K F2 x d) (r2 : Rp K F2 y e) (r3 : Rp K F2 z f) : ∃ F3, Ext F2 H2 F3 (upd H2 T (.frz ob (.tup [x, y, z]))) ∧ Rp K F3 (.ref T) (.tuple [d, e, f]) :=
  ⟨_, Ext.lay s3 n, .tup (TupN.of q upd_same) (RpAll.mono (Same.upd (s3.free n)) (.cons r1 (.cons r2 (.cons r3 .nil))))⟩
theorem zip_get {α β : Type} : ∀ (xs : List α) (ys : List β) (i : Nat) (x : α) (y : β), xs[i]? = some x → ys[i]? = some y → (List.zip xs ys)[i]? = some (x, y)
  | [], _, i, x, y, h, _ => by simp at h
  | _ :: _, [], i, x, y, _, h => by simp at h
  | a :: xs, b :: ys, 0, x, y, h, g => by simp at h g; subst h g; rfl
  | a :: xs, b :: ys, i + 1, x, y, h, g => by
    rw [List.zip_cons_cons, List.getElem?_cons_succ]
    exact zip_get xs ys i x y (by simpa using h) (by simpa using g)
theorem wd_zip3 {K : PySem.W.Frag} {F Fg : Hp} {k1 k2 k3 : Bool} {a b d : Addr} {vs ws us : List V} {ds es fs : List PyData} (g : ∀ H2, Same Fg H2 → Sq K k1 H2 a vs ∧ Sq K k2 H2 b ws ∧ Sq K k3 H2 d us) (ra : RpAll K F vs ds) (rb : RpAll K F ws es) (rc : RpAll K F us fs) : WalkD K F Fg (ItzR K k1 k2 k3 a b d) (zipD3 ds es fs) :=
  wd_of walk_zipR (by simp [zipD3, ra.length, rb.length, rc.length]) g fun i x H2 F2 H3 d0 s2 s3 y hd => by
    obtain ⟨T, x1, x2, x3, ⟨ob, hob, rfl, n, rfl⟩, h1, h2, h3⟩ := y
    obtain ⟨d1, q1, r1⟩ := ra.get h1
    obtain ⟨d2, q2, r2⟩ := rb.get h2
    obtain ⟨d3, q3, r3⟩ := rc.get h3
    unfold zipD3 at hd
    rw [List.getElem?_zipWith, q1, zip_get _ _ _ _ _ q2 q3] at hd
    cases hd
    exact trip_lay s3 hob n (r1.mono s2) (r2.mono s2) (r3.mono s2)
theorem enD_get : ∀ (xs : List PyData) (k i : Nat), (enD k xs)[i]? = xs[i]?.map fun x => .tuple [.int ((k + i : Nat) : Int), x]
  | [], k, i => by simp [enD]
  | x :: r, k, 0 => by simp [enD]
  | x :: r, k, i + 1 => by
    simp only [enD, List.getElem?_cons_succ]
    rw [enD_get r (k + 1) i]
    congr 1
    funext y
    rw [show k + 1 + i = k + (i + 1) by omega]
theorem enD_len : ∀ (xs : List PyData) (k : Nat), (enD k xs).length = xs.length
  | [], k => rfl
  | x :: r, k => congrArg (· + 1) (enD_len r (k + 1))
theorem walk_enumQ {K : PySem.W.Frag} {k : Bool} {a : Addr} {xs : List V} : Walk (IteQ K k a) xs.length (fun H => Sq K k H a xs) (YPairN (fun i => some (.int (i : Nat))) (fun i => xs[i]?)) := by
  refine ⟨fun i _ hi q => ⟨xs, xs[i], q, by simp [hi]⟩, fun _ q => ⟨xs, q, rfl⟩, fun i H v H' _ q y => ?_⟩
  obtain ⟨T, x, h1, h4⟩ := y
  exact ⟨T, .int (i : Nat), x, h1, rfl, h4 xs q⟩
theorem wd_enum {K : PySem.W.Frag} {F Fg : Hp} {k : Bool} {a : Addr} {vs : List V} {ds : List PyData} (g : ∀ H2, Same Fg H2 → Sq K k H2 a vs) (ra : RpAll K F vs ds) : WalkD K F Fg (IteQ K k a) (enD 0 ds) :=
  wd_of walk_enumQ (by rw [enD_len]; exact ra.length) g fun i x H2 F2 H3 d s2 s3 y hd => by
    obtain ⟨T, x1, x2, ⟨ob, hob, rfl, n, rfl⟩, h1, h2⟩ := y
    cases h1
    obtain ⟨d2, q2, r2⟩ := ra.get h2
    rw [enD_get, q2] at hd
    cases hd
    rw [Nat.zero_add]
    exact pair_lay s3 hob n (.int _) (r2.mono s2)
theorem items_eq {r : RV} {ds : List PyData} (h : itemsOf r = some ds) : r.seq = some ds ∨ ∃ z, r = .fz (.str z) ∧ ds = z.cps.toList.map fun c => .str ⟨#[c]⟩ := by
  unfold itemsOf at h
  split at h
  · cases h
    exact .inr ⟨_, rfl, rfl⟩
  · exact .inl h
theorem wd_enumT {K : PySem.W.Frag} {F Fg : Hp} (z : Str) : WalkD K F Fg (IteT z) (enD 0 (z.cps.toList.map fun c => .str ⟨#[c]⟩)) :=
  wd_of walk_enumT (by rw [enD_len, List.length_map, Array.length_toList]) (fun _ _ => trivial) fun i x H2 F2 H3 d s2 s3 y hd => by
    obtain ⟨T, x1, x2, ⟨ob, hob, rfl, n, rfl⟩, h1, h2⟩ := y
    cases h1
    have h2 : Option.map _ z.cps[i]? = some x2 := h2
    rw [enD_get, List.getElem?_map, Array.getElem?_toList] at hd
    cases e : z.cps[i]? with
    | none => rw [e] at h2; cases h2
    | some c =>
      rw [e] at h2 hd
      cases h2
      cases hd
      rw [Nat.zero_add]
      exact pair_lay s3 hob n (.int _) (.str _)
theorem Same.sq {K : PySem.W.Frag} {H H' : Hp} {k : Bool} {a : Addr} {xs : List V} (e : Same H H') (h : Sq K k H a xs) : Sq K k H' a xs := by
  cases k
  · exact Same.sqT e h
  · exact e.seq h
theorem onAt_eq {env : Ev} {i : Nat} {dss : List (List PyData)} (h : onAt env i = some dss) : env[i]? = some (some (.on dss)) := by
  unfold onAt at h
  obtain ⟨r, h1, h2⟩ := bnd h
  unfold asOn at h2
  split at h2
  · cases h2
    cases q : env[i]? with
    | none => rw [q] at h1; cases h1
    | some o => rw [q] at h1; exact congrArg some h1
  · cases h2
theorem ixN_lt {n : Nat} {k : Int} {j : Nat} (h : ixN n k = some j) : j < n := by
  unfold ixN at h
  split at h
  · obtain ⟨h1, h2⟩ := itd h
    omega
  · obtain ⟨h1, h2⟩ := itd h
    omega
theorem InAll.len {K : PySem.W.Frag} {F H : Hp} : ∀ {qs : List Addr} {dss : List (List PyData)}, InAll K F H qs dss → qs.length = dss.length
  | _, _, .nil => rfl
  | _, _, .cons _ _ _ t => congrArg (· + 1) (InAll.len t)
theorem InAll.nth {K : PySem.W.Frag} {F H : Hp} : ∀ {qs : List Addr} {dss : List (List PyData)} {j : Nat} {ds : List PyData}, InAll K F H qs dss → dss[j]? = some ds → ∃ q vs, qs[j]? = some q ∧ F q = none ∧ H q = some (.lst vs) ∧ RpAll K F vs ds
  | _, _, j, ds, .nil, h => by simp at h
  | _, _, 0, ds, .cons f e ra _, h => by simp at h; subst h; exact ⟨_, _, rfl, f, e, ra⟩
  | _, _, j + 1, ds, .cons _ _ _ t, h => by
    obtain ⟨q, vs, h1, h2⟩ := InAll.nth (j := j) t (by simpa using h)
    exact ⟨q, vs, by simpa using h1, h2⟩
theorem InAll.at_ {K : PySem.W.Frag} {F H : Hp} {qs : List Addr} {dss : List (List PyData)} {n : Int} {ds : List PyData} (a : InAll K F H qs dss) (h : atI dss n = some ds) : ∃ q vs, atI (qs.map V.ref) n = some (.ref q) ∧ H q = some (.lst vs) ∧ RpAll K F vs ds := by
  unfold atI at h ⊢
  rw [List.length_map, a.len]
  obtain ⟨j, h1, h2⟩ := bnd h
  obtain ⟨q, vs, h3, h4, h5, h6⟩ := a.nth h2
  refine ⟨q, vs, ?_, h5, h6⟩
  rw [h1]
  show (qs.map V.ref)[j]? = _
  rw [List.getElem?_map, h3]
  rfl
/-- a row of a list of lists -/
def xdD (c : Cl) (env : Ev) (i : Nat) (k : Ex) : Option (List PyData) := (onAt env i).bind fun dss => ((ev c env k).bind asInt).bind fun n => atI dss n
def tXD (K : PySem.W.Frag) (c : Cl) (i : Nat) (k : Ex) : TE := fun σ H Q => ∃ F env ds, EnvOk K F H env σ ∧ xdD c env i k = some ds ∧ ∀ q vs F' H', Ext F H F' H' → H' q = some (.lst vs) → RpAll K F' vs ds → Q (.ref q) H'
theorem pe_xd {X : Cx} {s : Sx} {c : Cl} (C : CO X s c) {i : Nat} {x : Str} {px pos : Pos} {k : Ex} {ix : Expr} (hi : s.N[i]? = some x) (hv : s.vis x = true) (hk : okN x = true) (P : PE X ix (tE X.K c k)) (hp : PlainIx ix) : PE X (.Subscript (.Name x px) ix pos) (tXD X.K c i k) := by
  refine PE.imp (pe_ix ix_list (pe_var (by rw [C.N]; exact hi) (C.vis hv) (okN1 hk).1 (okN1 hk).2) P hp) fun σ H Q ⟨F, env, ds, ok, h, kk⟩ => ?_
  unfold xdD at h
  obtain ⟨dss, h1, h⟩ := bnd h
  obtain ⟨n, h2, h3⟩ := bnd h
  obtain ⟨r, h4, h5⟩ := bnd h2
  obtain rfl := asInt_eq h5
  obtain ⟨v, q1, w⟩ := ok.at_ i _ (onAt_eq h1)
  cases w with
  | own f e q =>
    cases q with
    | on a nd np =>
      refine ⟨_, q1, F, env, _, ok, h4, fun u F1 H1 x1 w1 _ => ?_⟩
      obtain ⟨q2, vs, g1, g2, g3⟩ := (a.ext x1).at_ h3
      exact ⟨_, _, n, _, rfl, w1.int, SqL.of (x1.same _ _ e), g1, kk q2 vs F1 H1 x1 g2 g3⟩
mutual
theorem sndP : ∀ (a : Ex) {X : Cx} {s : Sx} {c : Cl}, CO X s c → ∀ {e : Expr}, chkE a s e = true → SndP X c a e
  | .var i, X, s, c, C, e, h => by
    unfold chkE at h
    split at h
    · refine mkP ?_ rfl
      simp only [Bool.and_eq_true, decide_eq_true_eq] at h
      obtain ⟨⟨h1, h2⟩, h3⟩ := h
      refine PE.imp (pe_var (i := i) (by rw [C.N]; exact h1) (C.vis h2) (okN1 h3).1 (okN1 h3).2) fun σ H Q ⟨F, env, r, ok, h, k⟩ => ?_
      have h' : env[i]? = some (some r) := by
        simp only [ev] at h
        cases q : env[i]? with
        | none => rw [q] at h; cases h
        | some o => rw [q] at h; exact congrArg some h
      obtain ⟨v, h1, h2⟩ := ok.at_ i r h'
      exact ⟨v, h1, k v F H (.refl ok.sub) h2 fun z => by cases z⟩
    · cases h
  | .int i, X, s, c, C, e, h => by
    unfold chkE at h
    split at h
    · refine mkP ?_ rfl
      obtain rfl := of_decide_eq_true h
      exact PE.imp pe_int fun σ H Q ⟨F, env, r, ok, h, k⟩ => by cases h; exact k _ F H (.refl ok.sub) (.fz (.int _)) fun _ => newFz
    · cases h
  | .str i, X, s, c, C, e, h => by
    unfold chkE at h
    split at h
    · refine mkP ?_ rfl
      obtain rfl := of_decide_eq_true h
      exact PE.imp pe_str fun σ H Q ⟨F, env, r, ok, h, k⟩ => by cases h; exact k _ F H (.refl ok.sub) (.fz (.str _)) fun _ => newFz
    · cases h
  | .bl i, X, s, c, C, e, h => by
    unfold chkE at h
    split at h
    · refine mkP ?_ rfl
      obtain rfl := of_decide_eq_true h
      exact PE.imp pe_bl fun σ H Q ⟨F, env, r, ok, h, k⟩ => by cases h; exact k _ F H (.refl ok.sub) (.fz (.bl _)) fun _ => newFz
    · cases h
  | .non, X, s, c, C, e, h => by
    unfold chkE at h
    split at h
    · refine mkP ?_ rfl
      exact PE.imp pe_non fun σ H Q ⟨F, env, r, ok, h, k⟩ => by cases h; exact k _ F H (.refl ok.sub) (.fz .non) fun _ => newFz
    · cases h
  | .glb g, X, s, c, C, e, h => by
    unfold chkE at h
    split at h
    · refine mkP ?_ rfl
      simp only [Bool.and_eq_true, decide_eq_true_eq] at h
      obtain ⟨⟨h1, h2⟩, h3⟩ := h
      cases hg : c.glb g with
      | none =>
        refine ⟨fun pins s' σ H Q I h => ?_⟩
        obtain ⟨F, env, r, ok, h, k⟩ := h
        simp [ev, hg] at h
      | some d =>
        obtain ⟨u, v, q1, q2, q3⟩ := C.gls g _ d h1 hg
        refine PE.imp (pe_glob (C.glo h2) q1 q2 (okN1 h3).1) fun σ H Q ⟨F, env, r, ok, h, k⟩ => ?_
        simp only [ev, hg] at h
        cases h
        exact k _ F H (.refl ok.sub) (.fz (q3 F)) fun _ => newFz
    · cases h
  | .bin o a b, X, s, c, C, e, h => by
    unfold chkE at h
    split at h
    · refine mkP ?_ rfl
      simp only [Bool.and_eq_true] at h
      obtain ⟨⟨h1, h2⟩, h3⟩ := h
      obtain rfl := boEq h1
      refine PE.imp (pe_op (r_bin o) (sndP a C h2).pe (sndP b C h3).pe) fun σ H Q ⟨F, env, r, ok, h, k⟩ => ?_
      exact two ok (by simpa only [ev] using h) fun v F' H' x w n => k v F' H' x w fun _ => n
    · cases h
  | .neg a, X, s, c, C, e, h => by
    unfold chkE at h
    split at h
    · refine mkP ?_ rfl
      refine PE.imp (pe_un un_neg (sndP a C h).pe) fun σ H Q ⟨F, env, r, ok, h, k⟩ => ?_
      obtain ⟨i, h1, rfl⟩ := mpd (show ((ev c env a).bind asInt).map (fun i => RV.fz (.int (-i))) = some r by simpa only [ev] using h)
      obtain ⟨x, h1, h2⟩ := bnd h1
      obtain rfl := asInt_eq h2
      exact ⟨F, env, _, ok, h1, fun v F1 H1 x1 w1 _ => ⟨i, w1.int, k _ F1 H1 x1 (.fz (.int _)) fun _ => newFz⟩⟩
    · cases h
  | .not a, X, s, c, C, e, h => by
    unfold chkE at h
    split at h
    · have P := sndP a C h
      refine ⟨PE.imp (pe_not P.pe) fun σ H Q ⟨F, env, r, ok, h, k⟩ => ?_, PT.imp (pt_not P.pt) fun σ H Q ⟨F, env, b, ok, h, k⟩ => ?_, fun _ _ _ z => nomatch z⟩
      · obtain ⟨i, h1, rfl⟩ := mpd (show ((ev c env a).bind asBool).map (fun b => RV.fz (.bool (!b))) = some r by simpa only [ev] using h)
        obtain ⟨x, h1, h2⟩ := bnd h1
        obtain rfl := asBool_eq h2
        exact ⟨F, env, _, ok, h1, fun v F1 H1 x1 w1 _ => ⟨i, w1.bool, k _ F1 H1 x1 (.fz (.bl _)) fun _ => newFz⟩⟩
      · obtain ⟨i, h1, h2⟩ := mpd (show ((ev c env a).bind asBool).map (fun b => RV.fz (.bool (!b))) = some _ by simpa only [ev] using h)
        cases h2
        obtain ⟨x, h1, h2⟩ := bnd h1
        obtain rfl := asBool_eq h2
        exact ⟨F, env, _, ok, h1, k⟩
    · cases h
  | .one a, X, s, c, C, e, h => by
    unfold chkE at h
    split at h
    · have P := sndP a C h
      have pw : ∀ op x pos, (∃ q : PT X x (tT X.K c a), True) → PW X (.BoolOp op [x] pos) (tT X.K c (.one a)) := fun op x pos ⟨q, _⟩ => by
        have ti : ∀ σ H Q, tT X.K c (.one a) σ H Q → tT X.K c a σ H Q := fun σ H Q ⟨F, env, b, ok, h, k⟩ => tgo ok (by simpa only [ev] using h) k
        cases op
        · exact PW.imp (pw_and1 q) ti
        · exact PW.imp (pw_or1 q) ti
      refine ⟨PE.imp (pe_one P.pe) fun σ H Q ⟨F, env, r, ok, h, k⟩ => ?_, (pw _ _ _ ⟨P.pt, trivial⟩).pt, fun op vs pos z => by cases z; exact pw _ _ _ ⟨P.pt, trivial⟩⟩
      obtain ⟨r', h3, h4⟩ := bnd (show (ev c env a).bind _ = some r by simpa only [ev] using h)
      obtain ⟨d, h5, rfl⟩ := mpd h4
      exact handed ok h3 h5 fun v F2 H2 x2 w2 => k v F2 H2 x2 w2 fun _ => newFz
    · cases h
  | .and a b, X, s, c, C, e, h => by
    unfold chkE at h
    split at h
    · simp only [Bool.and_eq_true] at h
      have P := sndP a C h.1
      have R := sndP b C h.2
      have pw := PW.imp (t' := tT X.K c (.and a b)) (pw_and P.pt (R.pw _ _ _ rfl)) fun σ H Q ⟨F, env, k1, ok, h, k⟩ => by
        obtain ⟨b1, h1, h⟩ := bnd (show ((ev c env a).bind asBool).bind _ = some _ by simpa only [ev] using h)
        obtain ⟨x, h1, h2⟩ := bnd h1
        obtain rfl := asBool_eq h2
        refine ⟨F, env, b1, ok, h1, fun F1 H1 x1 => ?_⟩
        cases b1 with
        | false => cases h; exact iteF (k F1 H1 x1)
        | true => exact iteT (tgo (ok.ext x1) h fun F2 H2 x2 => k F2 H2 (x1.trans x2))
      refine ⟨PE.imp (pe_and P.pe R.pe) fun σ H Q ⟨F, env, r, ok, h, k⟩ => ?_, pw.pt, fun op vs pos z => by cases z; exact pw⟩
      obtain ⟨b1, h1, h⟩ := bnd (show ((ev c env a).bind asBool).bind _ = some r by simpa only [ev] using h)
      obtain ⟨x, h1, h2⟩ := bnd h1
      obtain rfl := asBool_eq h2
      refine ⟨F, env, _, ok, h1, fun v F1 H1 x1 w1 _ => ⟨b1, w1.bool, ?_⟩⟩
      cases b1 with
      | false =>
        cases h
        exact iteF (k _ F1 H1 x1 (.fz (.bl _)) fun _ => newFz)
      | true =>
        obtain ⟨r', h3, h4⟩ := bnd (show (ev c env b).bind _ = some r from h)
        obtain ⟨d, h5, rfl⟩ := mpd h4
        exact iteT (handed (ok.ext x1) h3 h5 fun v F2 H2 x2 w2 => k v F2 H2 (x1.trans x2) w2 fun _ => newFz)
    · cases h
  | .or a b, X, s, c, C, e, h => by
    unfold chkE at h
    split at h
    · simp only [Bool.and_eq_true] at h
      have P := sndP a C h.1
      have R := sndP b C h.2
      have pw := PW.imp (t' := tT X.K c (.or a b)) (pw_or P.pt (R.pw _ _ _ rfl)) fun σ H Q ⟨F, env, k1, ok, h, k⟩ => by
        obtain ⟨b1, h1, h⟩ := bnd (show ((ev c env a).bind asBool).bind _ = some _ by simpa only [ev] using h)
        obtain ⟨x, h1, h2⟩ := bnd h1
        obtain rfl := asBool_eq h2
        refine ⟨F, env, b1, ok, h1, fun F1 H1 x1 => ?_⟩
        cases b1 with
        | true => cases h; exact iteT (k F1 H1 x1)
        | false => exact iteF (tgo (ok.ext x1) h fun F2 H2 x2 => k F2 H2 (x1.trans x2))
      refine ⟨PE.imp (pe_or P.pe R.pe) fun σ H Q ⟨F, env, r, ok, h, k⟩ => ?_, pw.pt, fun op vs pos z => by cases z; exact pw⟩
      obtain ⟨b1, h1, h⟩ := bnd (show ((ev c env a).bind asBool).bind _ = some r by simpa only [ev] using h)
      obtain ⟨x, h1, h2⟩ := bnd h1
      obtain rfl := asBool_eq h2
      refine ⟨F, env, _, ok, h1, fun v F1 H1 x1 w1 _ => ⟨b1, w1.bool, ?_⟩⟩
      cases b1 with
      | true =>
        cases h
        exact iteT (k _ F1 H1 x1 (.fz (.bl _)) fun _ => newFz)
      | false =>
        obtain ⟨r', h3, h4⟩ := bnd (show (ev c env b).bind _ = some r from h)
        obtain ⟨d, h5, rfl⟩ := mpd h4
        exact iteF (handed (ok.ext x1) h3 h5 fun v F2 H2 x2 w2 => k v F2 H2 (x1.trans x2) w2 fun _ => newFz)
    · cases h
  | .cmp o a b, X, s, c, C, e, h => by
    unfold chkE at h
    split at h
    · simp only [Bool.and_eq_true, Bool.not_eq_true'] at h
      obtain ⟨⟨⟨h1, h2⟩, h3⟩, h4⟩ := h
      obtain rfl := cmpIs h1
      have hr := r_cmp (X := X) (by have := C.un; omega) o
      have P := (sndP a C h2).pe
      have R := (sndP b C h3).pe
      refine ⟨PE.imp (pe_cmpR hr P R h4) fun σ H Q ⟨F, env, r, ok, h, k⟩ => ?_, PT.imp (pt_cmpR hr P R h4) fun σ H Q ⟨F, env, b, ok, h, k⟩ => ?_, fun _ _ _ z => nomatch z⟩
      · exact cmps ok (by simpa only [ev] using h) fun v F' H' x w n => k v F' H' x w fun _ => n
      · exact cmps ok (by simpa only [ev] using h) fun v F' H' x w n => ⟨b, w.bool, k F' H' x⟩
    · cases h
  | .chn o o' a b d, X, s, c, C, e, h => by
    unfold chkE at h
    split at h
    · simp only [Bool.and_eq_true, Bool.not_eq_true'] at h
      obtain ⟨⟨⟨⟨⟨h1, h2⟩, h3⟩, h4⟩, h5⟩, h6⟩ := h
      obtain rfl := cmpIs h1
      obtain rfl := cmpIs h2
      have un := C.un
      have hr := r_cmp (X := X) (by omega) o
      have hr' := r_cmp (X := X) (by omega) o'
      have P := (sndP a C h3).pe
      have R := (sndP b C h4).pe
      have S := (sndP d C h5).pe
      refine ⟨PE.imp (pe_chain hr hr' P R S h6) fun σ H Q ⟨F, env, r, ok, h, k⟩ => ?_, PT.imp (pt_chain hr hr' P R S h6) fun σ H Q ⟨F, env, b, ok, h, k⟩ => ?_, fun _ _ _ z => nomatch z⟩
      · exact chain ok (by simpa only [ev] using h) fun v F' H' x w n => k v F' H' x w fun _ => n
      · exact chain ok (by simpa only [ev] using h) fun v F' H' x w n => ⟨b, w.bool, k F' H' x⟩
    · cases h
  | .chn3 o o' o2 a b d d2, X, s, c, C, e, h => by
    unfold chkE at h
    split at h
    · simp only [Bool.and_eq_true, Bool.not_eq_true'] at h
      obtain ⟨⟨⟨⟨⟨⟨⟨h1, h2⟩, h20⟩, h3⟩, h4⟩, h5⟩, h50⟩, h6⟩ := h
      obtain rfl := cmpIs h1
      obtain rfl := cmpIs h2
      obtain rfl := cmpIs h20
      have un := C.un
      have hr := r_cmp (X := X) (by omega) o
      have hr' := r_cmp (X := X) (by omega) o'
      have hr2 := r_cmp (X := X) (by omega) o2
      have P := (sndP a C h3).pe
      have R := (sndP b C h4).pe
      have S := (sndP d C h5).pe
      have T := (sndP d2 C h50).pe
      refine ⟨PE.imp (pe_chain3 hr hr' hr2 P R S T h6) fun σ H Q ⟨F, env, r, ok, h, k⟩ => ?_, PT.imp (pt_chain3 hr hr' hr2 P R S T h6) fun σ H Q ⟨F, env, b, ok, h, k⟩ => ?_, fun _ _ _ z => nomatch z⟩
      · exact chain3 ok (by simpa only [ev] using h) fun v F' H' x w n => k v F' H' x w fun _ => n
      · exact chain3 ok (by simpa only [ev] using h) fun v F' H' x w n => ⟨b, w.bool, k F' H' x⟩
    · cases h
  | .dsx kvs q, X, s, c, C, e, h => by
    unfold chkE at h
    split at h
    · refine mkP ?_ rfl
      simp only [Bool.and_eq_true, decide_eq_true_eq, Bool.not_eq_true'] at h
      obtain ⟨⟨⟨h1, h2⟩, h3⟩, h4⟩ := h
      have un := C.un
      obtain ⟨g1, g2, g3⟩ := kv_pps (X := X) h1
      refine PE.imp (pe_dget (by omega) (pe_disp (g1 _) g2 (by rw [g3.1, g3.2]) (fun z => by
        have := g3.1
        rw [z] at this
        cases kvs with
        | nil => cases h3
        | cons _ _ => cases this) (by rw [g3.1]; exact h2)) (sndP q C h4).pe (nosl_of (chk_plain h4))) fun σ H Q ⟨F, env, r, ok, h, k⟩ => ?_
      obtain ⟨r1, e1, e2⟩ := bnd (show (ev c env q).bind _ = some r by simpa only [ev] using h)
      obtain ⟨z, rfl, v, e3, rfl⟩ := dsx_eq e2
      refine fun p hp => tPairs_const ⟨upd_same, kvs.map fun p => ((.inr p.1 : Key), V.str p.2), by rw [List.map_map]; rfl, by rw [List.length_map]; exact h2, ?_⟩
      have x1 : Ext F H F (upd (upd H p (.dK [])) p (.dK (mergeK [] (kvs.map fun p => ((.inr p.1 : Key), V.str p.2))))) := by
        rw [upd_upd]
        exact .lay0 ok.sub hp
      refine ⟨F, env, _, ok.ext x1, e1, fun u F2 H2 x2 w2 _ => ?_⟩
      obtain rfl := w2.str
      refine ⟨p, .str v, rfl, ?_, k _ F2 H2 (x1.trans x2) (.fz (.str _)) fun _ => newFz⟩
      have g := DGet.k (k := (.inr z : Key)) (x2.same p _ upd_same)
      rw [e3] at g
      exact g
    · cases h
  | .dsv k1 k2 a b q, X, s, c, C, e, h => by
    unfold chkE at h
    split at h
    · refine mkP ?_ rfl
      simp only [Bool.and_eq_true, decide_eq_true_eq] at h
      obtain ⟨⟨⟨⟨h1, h2⟩, h3⟩, h4⟩, h5⟩ := h
      subst h1 h2
      have un := C.un
      rename_i kx i1 q1 kz i2 q2 vv ww q3 yy q4
      refine PE.imp (pe_dget (by omega) (pe_disp (pps_cons pe_str (sndP a C h3).pe (pps_cons pe_str (sndP b C h4).pe pps_nil)) (by rfl) (by rfl) (by simp) (by show 2 ≤ 15; decide)) (sndP q C h5).pe (nosl_of (chk_plain h5))) fun σ H Q ⟨F, env, r, ok, h, k⟩ => ?_
      obtain ⟨x, e1, h⟩ := bnd (show ((ev c env a).bind asStr).bind _ = some r by simpa only [ev] using h)
      obtain ⟨r1, e1, e10⟩ := bnd e1
      obtain rfl := asStr_eq e10
      obtain ⟨y, e2, h⟩ := bnd h
      obtain ⟨r2, e2, e20⟩ := bnd e2
      obtain rfl := asStr_eq e20
      obtain ⟨r3, e3, h⟩ := bnd h
      obtain ⟨z, rfl, v, e4, rfl⟩ := dsx_eq h
      refine fun p hp => ?_
      have x0 := Ext.lay0 ok.sub hp (o := .dK [])
      have f0 : F p = none := ok.sub.free hp
      refine ⟨F, env, _, ok.ext x0, e1, fun v1 F1 H1 x1 w1 _ => ?_⟩
      obtain rfl := w1.str
      have p1 : H1 p = some (.dK []) := x1.same _ _ upd_same
      have f1 : F1 p = none := x1.out f0 upd_same
      refine ⟨F1, env, _, (ok.ext x0).ext x1, e2, fun v2 F2 H2 x2 w2 _ => ?_⟩
      obtain rfl := w2.str
      have p2 : H2 p = some (.dK []) := x2.same _ _ p1
      have f2 : F2 p = none := x2.out f1 p1
      refine ⟨p2, [(.inr kx, .str x), (.inr kz, .str y)], rfl, by show 2 ≤ 15; decide, ?_⟩
      have xw := (x0.trans (x1.trans x2)).write (o := .dK (mergeK [] [((.inr kx : Key), V.str x), (.inr kz, .str y)])) hp f2
      refine ⟨F2, env, _, ok.ext xw, e3, fun u F3 H3 x3 w3 _ => ?_⟩
      obtain rfl := w3.str
      refine ⟨p, .str v, rfl, ?_, k _ F3 H3 (xw.trans x3) (.fz (.str _)) fun _ => newFz⟩
      have g := DGet.k (k := (.inr z : Key)) (x3.same p _ upd_same)
      have e4 : valV (mergeK [] [((.inr kx : Key), V.str x), (.inr kz, .str y)]) (.inr z) = some (.str v) := e4
      rw [e4] at g
      exact g
    · cases h
  | .isx a D, X, s, c, C, e, h => by
    unfold chkE at h
    split at h
    · refine mkP ?_ rfl
      simp only [Bool.and_eq_true, decide_eq_true_eq] at h
      obtain ⟨⟨⟨⟨⟨h1, h2⟩, h3⟩, h4⟩, h5⟩, h6⟩ := h
      obtain ⟨g1, g2⟩ := C.gl h1 h2 (bi_mem (.isI .int))
      subst h1 h3
      rename_i D _ _
      have st := star_of (chk_plain h6)
      have P := (sndP a C h6).pe
      have okD := (okN1 h5).1
      have bt : bootBuiltins "isinstance" = some (.builtin "isinstance") := by decide +kernel
      have m12 := biN_ok (.isI .int)
      have eq : ∀ {env : Ev} {r : RV}, ev c env (.isx a D) = some r → ∃ r0 nm b, ev c env a = some r0 ∧ xnm r0 = some nm ∧ isxD c nm D = some b ∧ r = .fz (.bool b) := fun {env r} h => by
        obtain ⟨r0, e1, h⟩ := bnd (show (ev c env a).bind _ = some r by simpa only [ev] using h)
        obtain ⟨nm, e2, h⟩ := bnd h
        obtain ⟨b, e3, e4⟩ := mpd h
        exact ⟨r0, nm, b, e1, e2, e3, e4.symm⟩
      have have1 : ∀ {F H F1 H1 : Hp} {r0 : RV} {v : V} {nm : Str}, Ext F H F1 H1 → View X.K F1 H1 v r0 → xnm r0 = some nm → nm ∈ c.rzs → ∃ a C dd, v = .ref a ∧ H1 a = some (ExC (.ref C) dd a) ∧ ClsAt X.K nm C ∧ (∀ d, dd = some d → ∃ fs, H1 d = some (.xd fs)) ∧ XcK X.K C := fun {F H F1 H1 r0 v nm} x1 w e2 m => by
        obtain ⟨d, rfl⟩ := xnm_fz e2
        obtain ⟨a, C1, dd, q1, q2, q3, q4⟩ := Rp.exc (w.rp x1.sub) e2
        obtain ⟨C2, z1, z2, _⟩ := C.xc.rz nm m
        rw [ClsAt.eq q3 z1] at q2
        exact ⟨a, C2, dd, q1, q2, z1, q4, z2⟩
      by_cases hr : c.rzs = []
      · refine ⟨fun pins s' σ H Q I ⟨F, env, r, ok, h, k⟩ => ?_⟩
        obtain ⟨r0, nm, b, _, _, e3, _⟩ := eq h
        have := (isxD_eq e3).1
        rw [hr] at this
        cases this
      · by_cases hD : D = "ValueError"
        · subst hD
          refine PE.imp (pe_callB (call_kept (C.xc.sp hr)) g1 g2 bt (pa_cons P (pa_cons (pe_bltn (C.glo h4) (C.xc.nv hr) (by decide +kernel : bootBuiltins "ValueError" = some (.type "ValueError")) (v := .ty "ValueError") rfl) pa_nil (by rfl)) (st _ _)) m12.1 m12.2 (st _ _) (by rfl)) fun σ H Q ⟨F, env, r, ok, h, k⟩ => ?_
          obtain ⟨r0, nm, b, e1, e2, e3, rfl⟩ := eq h
          obtain ⟨m, e4⟩ := isxD_eq e3
          refine ⟨F, env, r0, ok, e1, fun v F1 H1 x1 w1 _ => ?_⟩
          obtain ⟨a1, C1, dd, q1, q2, q3, q4, q5⟩ := have1 x1 w1 e2 m
          refine ⟨a1, C1, dd, .ty "ValueError", .type "ValueError", true, by rw [q1], q2, q4, q5, fun u hu => hu, kit_ve q5.ve, ?_⟩
          rcases e4 with ⟨_, rfl⟩ | ⟨e4, _⟩
          · exact k _ F1 H1 x1 (.fz (.bl _)) fun _ => newFz
          · exact absurd rfl e4
        · by_cases hc : D ∈ c.cls
          · obtain ⟨E, d1, d2, d3⟩ := C.xc.ds _ hc
            refine PE.imp (pe_callB (call_kept (C.xc.sp hr)) g1 g2 bt (pa_cons P (pa_cons (pe_glob (C.glo h4) d2 (v := .ref E) rfl okD) pa_nil (by rfl)) (st _ _)) m12.1 m12.2 (st _ _) (by rfl)) fun σ H Q ⟨F, env, r, ok, h, k⟩ => ?_
            obtain ⟨r0, nm, b, e1, e2, e3, rfl⟩ := eq h
            obtain ⟨m, e4⟩ := isxD_eq e3
            refine ⟨F, env, r0, ok, e1, fun v F1 H1 x1 w1 _ => ?_⟩
            obtain ⟨a1, C1, dd, q1, q2, q3, q4, q5⟩ := have1 x1 w1 e2 m
            rcases e4 with ⟨e4, _⟩ | ⟨_, _, rfl⟩
            · exact absurd e4 hD
            · exact ⟨a1, C1, dd, .ref E, .ref E, _, by rw [q1], q2, q4, q5, fun u hu => hu, (C.xc.pr nm m _ hc C1 E q3 d1).1, k _ F1 H1 x1 (.fz (.bl _)) fun _ => newFz⟩
          · refine ⟨fun pins s' σ H Q I ⟨F, env, r, ok, h, k⟩ => ?_⟩
            obtain ⟨r0, nm, b, _, _, e3, _⟩ := eq h
            rcases (isxD_eq e3).2 with ⟨e4, _⟩ | ⟨_, e4, _⟩
            · exact absurd e4 hD
            · exact absurd e4 hc
    · cases h
  | .fld a f, X, s, c, C, e, h => by
    unfold chkE at h
    split at h
    · refine mkP ?_ rfl
      simp only [Bool.and_eq_true, decide_eq_true_eq] at h
      obtain ⟨⟨h1, h2⟩, h3⟩ := h
      subst h1
      refine PE.imp (pe_keptF (sndP a C h3).pe (base_of h2 _ _ _)) fun σ H Q ⟨F, env, r, ok, h, k⟩ => ?_
      obtain ⟨r0, e1, h⟩ := bnd (show (ev c env a).bind _ = some r by simpa only [ev] using h)
      obtain ⟨p, e2, h⟩ := bnd h
      obtain ⟨e3, rfl⟩ := itd h
      simp only [Bool.and_eq_true, List.contains_iff_mem] at e3
      refine ⟨F, env, r0, ok, e1, fun v F1 H1 x1 w1 _ => ?_⟩
      obtain ⟨d, rfl⟩ := xfl_fz e2
      cases w1 with
      | own _ _ q => cases q
      | fz rp =>
        obtain ⟨a1, C1, dx, w, q1, q2, q3, q4, q5⟩ := Rp.fld rp e2
        obtain ⟨C2, z1, z2, z3⟩ := C.xc.rz p.1 e3.1
        have := ClsAt.eq q3 z1
        subst this
        exact ⟨a1, C1, dx, w, q1, x1.sub _ _ q2, x1.sub _ _ q4, z2, z3 _ e3.2, k _ F1 H1 x1 (.fz q5) fun _ => newFz⟩
    · cases h
  | .mkx C1 a, X, s, c, C, e, h => by
    unfold chkE at h
    split at h
    · refine mkP ?_ rfl
      simp only [Bool.and_eq_true, decide_eq_true_eq] at h
      obtain ⟨⟨⟨h1, h2⟩, h3⟩, h4⟩ := h
      subst h1
      rename_i x pz v pos
      have st := star_of (chk_plain h4)
      have eq : ∀ {env : Ev} {r : RV}, ev c env (.mkx x a) = some r → ∃ r0 d e, ev c env a = some r0 ∧ ownD a r0 = some d ∧ mkD c x d = some e ∧ r = .fz e := fun {env r} h => by
        obtain ⟨r0, e1, h⟩ := bnd (show (ev c env a).bind _ = some r by simpa only [ev] using h)
        obtain ⟨d, e2, h⟩ := bnd h
        obtain ⟨e, e3, e4⟩ := mpd h
        exact ⟨r0, d, e, e1, e2, e3, e4.symm⟩
      cases hm : c.m1s.lookup x with
      | some f =>
        obtain ⟨⟨C2, fI, fd, ps, y1, y2, y3, y4, y5, y6, y7⟩, yr⟩ := C.x1 x f hm |>.imp (fun z => z.ex) id
        refine PE.imp (pe_of_pmk (pmk_oex (X := X) (x := x) (e := v) (es := []) (ta := tCons (tE X.K c a) tNil) (p := pz) (pos := pos) (ds := []) (dvs := []) y3 y4 y5 y7 yr y6 .nil (fun _ _ _ _ _ _ _ q => q.elim) (C.glo h2) y2 (pa_cons (sndP a C h4).pe pa_nil (st _ _)) (okN1 h3).1 (st _ _) (by rfl))) fun σ H Q ⟨F, env, r, ok, h, k⟩ => ?_
        obtain ⟨r0, d, e1, g1, g2, g3, rfl⟩ := eq h
        unfold mkD at g3
        rw [hm] at g3
        cases g3
        refine handed ok g1 g2 fun w F1 H1 x1 w1 => ?_
        cases w1 with
        | own _ _ q => cases q
        | fz rp =>
          refine mk_go (E := fun _ _ _ => False) (Q := fun cls d H' => ∀ a, H' a = none → Q (.ref a) (upd H' a (ExC cls d a))) fun dx nd a1 na => ?_
          have x2 := Ext.lay x1.sub nd (o := .xd [(f, w)])
          have x3 := Ext.lay x2.sub na (o := ExC (.ref C2) (some dx) a1)
          exact k _ _ _ (x1.trans (x2.trans x3)) (.fz (Xat.rp (.x1 y1 upd_same (rp.mono x2.fr)) (x2.sub.free na))) fun _ => newFz
      | none =>
        by_cases hc : x ∈ c.m0s
        · obtain ⟨E, d1, d2, d3, d4⟩ := C.xc.m0 _ hc
          refine PE.imp (pe_of_pmk (SkE.pmk_own1 (p := pz) (pos := pos) PySem.F.excBase_ValueError d4 d2 d3.kp (raises_own d3.sb d3.ty) (C.glo h2) (sndP a C h4).pe (st _ _) (okN1 h3).1)) fun σ H Q ⟨F, env, r, ok, h, k⟩ => ?_
          obtain ⟨r0, d, e1, g1, g2, g3, rfl⟩ := eq h
          unfold mkD at g3
          rw [hm] at g3
          obtain ⟨_, rfl⟩ := itd g3
          refine handed ok g1 g2 fun w F1 H1 x1 w1 a1 na => ?_
          have x3 := Ext.lay x1.sub na (o := ExC (.ref E) none a1)
          exact k _ _ _ (x1.trans x3) (.fz (Xat.rp (.x0 d1) (x1.sub.free na))) fun _ => newFz
        · refine ⟨fun pins s' σ H Q I ⟨F, env, r, ok, h, k⟩ => ?_⟩
          obtain ⟨r0, d, e1, g1, g2, g3, rfl⟩ := eq h
          unfold mkD at g3
          rw [hm] at g3
          obtain ⟨g, _⟩ := itd g3
          exact absurd (by simpa using g) hc
    · cases h
  | .gdx g q, X, s, c, C, e, h => by
    unfold chkE at h
    split at h
    · refine mkP ?_ rfl
      simp only [Bool.and_eq_true, decide_eq_true_eq] at h
      obtain ⟨⟨⟨h1, h2⟩, h3⟩, h4⟩ := h
      subst h1
      rename_i x pz y pos
      cases hm : c.gds.lookup x with
      | none =>
        refine ⟨fun pins s' σ H Q I ⟨F, env, r, ok, h, k⟩ => ?_⟩
        obtain ⟨r1, e1, h⟩ := bnd (show (ev c env q).bind _ = some r by simpa only [ev] using h)
        rw [hm] at h; cases h
      | some kvs =>
        obtain ⟨ga, g1, g2⟩ := C.gd x kvs hm
        refine PE.imp (pe_ix ix_kdict (pe_glob (C.glo h2) g1 (v := .ref ga) rfl (okN1 h3).1) (sndP q C h4).pe (ix_of (chk_plain h4))) fun σ H Q ⟨F, env, r, ok, h, k⟩ => ?_
        obtain ⟨r1, e1, h⟩ := bnd (show (ev c env q).bind _ = some r by simpa only [ev] using h)
        rw [hm] at h
        have h : gdD kvs r1 = some r := h
        unfold gdD at h
        split at h
        · obtain ⟨v, e2, rfl⟩ := mpd h
          refine ⟨F, env, _, ok, e1, fun u F2 H2 x2 w2 _ => ?_⟩
          obtain rfl := w2.str
          exact ⟨ga, _, .str v, rfl, rfl, g2 _ _ e2, k _ F2 H2 x2 (.fz (.str _)) fun _ => newFz⟩
        · cases h
    · cases h
  | .lenD i, X, s, c, C, e, h => by
    unfold chkE at h
    split at h
    · refine mkP ?_ rfl
      simp only [Bool.and_eq_true, decide_eq_true_eq] at h
      obtain ⟨⟨⟨⟨h1, h2⟩, h3⟩, h4⟩, h5⟩ := h
      obtain ⟨g1, g2⟩ := C.gl h1 h2 (bi_mem .len)
      subst h1
      obtain ⟨m1, m2⟩ := biN_ok .len
      refine PE.imp (pe_callB call_len_seq g1 g2 (by decide +kernel : bootBuiltins "len" = some (.builtin "len")) (pa_cons (pe_var (by rw [C.N]; exact h3) (C.vis h4) (okN1 h5).1 (okN1 h5).2) pa_nil (by rfl)) m1 m2 (by rfl) (by rfl)) fun σ H Q ⟨F, env, r, ok, h, k⟩ => ?_
      obtain ⟨dss, q1, rfl⟩ := mpd (show (onAt env i).map _ = some r by simpa only [ev] using h)
      obtain ⟨v, q2, w⟩ := ok.at_ i _ (onAt_eq q1)
      cases w with
      | own f e q =>
        cases q with
        | on a nd np => exact ⟨_, q2, _, _, rfl, .inl (SqL.of e), by rw [List.length_map, a.len]; exact k _ F H (.refl ok.sub) (.fz (.int _)) fun _ => newFz⟩
    · cases h
  | .lenI i q, X, s, c, C, e, h => by
    unfold chkE at h
    split at h
    · refine mkP ?_ rfl
      simp only [Bool.and_eq_true, decide_eq_true_eq] at h
      obtain ⟨⟨⟨⟨⟨h1, h2⟩, h3⟩, h4⟩, h5⟩, h6⟩ := h
      obtain ⟨g1, g2⟩ := C.gl h1 h2 (bi_mem .len)
      subst h1
      obtain ⟨m1, m2⟩ := biN_ok .len
      refine PE.imp (pe_callB call_len_seq g1 g2 (by decide +kernel : bootBuiltins "len" = some (.builtin "len")) (pa_cons (pe_xd C h3 h4 h5 (sndP q C h6).pe (ix_of (chk_plain h6))) pa_nil (by rfl)) m1 m2 (by rfl) (by rfl)) fun σ H Q ⟨F, env, r, ok, h, k⟩ => ?_
      have h : ((onAt env i).bind fun dss => ((ev c env q).bind asInt).bind fun n => (atI dss n).map fun ds => RV.fz (.int (ds.length : Nat))) = some r := by simpa only [ev] using h
      obtain ⟨dss, q1, h⟩ := bnd h
      obtain ⟨n, q2, h⟩ := bnd h
      obtain ⟨ds, q3, rfl⟩ := mpd h
      exact ⟨F, env, ds, ok, by unfold xdD; rw [q1, Option.bind_some, q2, Option.bind_some]; exact q3, fun a vs F1 H1 x1 e1 ra => ⟨a, vs, rfl, .inl (SqL.of e1), by rw [ra.length]; exact k _ F1 H1 x1 (.fz (.int _)) fun _ => newFz⟩⟩
    · cases h
  | .rvt a, X, s, c, C, e, h => by
    unfold chkE at h
    split at h
    · refine mkP ?_ rfl
      simp only [Bool.and_eq_true, decide_eq_true_eq] at h
      obtain ⟨⟨⟨⟨h1, h2⟩, h3⟩, h4⟩, h5⟩ := h
      obtain ⟨g1, g2⟩ := C.gl h1 h2 (by simp [bnames])
      obtain ⟨g3, g4⟩ := C.gl h3 h4 (by simp [bnames])
      subst h1 h3
      refine PE.imp (Mr.pe_tupR C.calm g1 g2 g3 g4 (sndP a C h5).pe (star_of (chk_plain h5) _ _) (by rfl)) fun σ H Q ⟨F, env, r, ok, h, k⟩ => ?_
      obtain ⟨x, e1, h⟩ := bnd (show (ev c env a).bind _ = some r by simpa only [ev] using h)
      obtain ⟨ds, e2, rfl⟩ := mpd h
      refine ⟨F, env, x, ok, e1, fun v F1 H1 x1 w1 _ => ?_⟩
      obtain ⟨p, vs, rfl, hp, rp⟩ := w1.seqv x1.sub e2
      refine ⟨p, vs, rfl, hp, fun q ob hob nq => ?_⟩
      have x2 := Ext.lay x1.sub nq (o := .frz ob (.tup vs.reverse))
      exact k _ _ _ (x1.trans x2) (.fz (.tup (TupN.of hob upd_same) ((rp.mono x2.fr).reverse))) fun _ => newFz
    · cases h
  | .rvl a, X, s, c, C, e, h => by
    unfold chkE at h
    split at h
    · refine mkP ?_ rfl
      simp only [Bool.and_eq_true, decide_eq_true_eq] at h
      obtain ⟨⟨⟨⟨h1, h2⟩, h3⟩, h4⟩, h5⟩ := h
      obtain ⟨g1, g2⟩ := C.gl h1 h2 (by simp [bnames])
      obtain ⟨g3, g4⟩ := C.gl h3 h4 (by simp [bnames])
      subst h1 h3
      refine PE.imp (Mr.pe_lisR C.calm g1 g2 g3 g4 (sndP a C h5).pe (star_of (chk_plain h5) _ _) (by rfl)) fun σ H Q ⟨F, env, r, ok, h, k⟩ => ?_
      obtain ⟨x, e1, h⟩ := bnd (show (ev c env a).bind _ = some r by simpa only [ev] using h)
      obtain ⟨ds, e2, rfl⟩ := mpd h
      refine ⟨F, env, x, ok, e1, fun v F1 H1 x1 w1 _ => ?_⟩
      obtain ⟨p, vs, rfl, hp, rp⟩ := w1.seqv x1.sub e2
      refine ⟨p, vs, rfl, hp, fun q nq => ?_⟩
      have x2 := Ext.lay0 x1.sub nq (o := .lst vs.reverse)
      exact k _ _ _ (x1.trans x2) (.own (x1.sub.free nq) upd_same (.lst rp.reverse)) fun _ b hb => by cases (show V.ref q = V.ref b from hb); exact x1.same.free nq
    · cases h
  | .sls a lo stp, X, s, c, C, e, h => by
    unfold chkE at h
    split at h
    · refine mkP ?_ rfl
      simp only [Bool.and_eq_true, decide_eq_true_eq] at h
      obtain ⟨⟨h1, h2⟩, h3⟩ := h
      subst h1 h2
      rename_i x l k1 p1 st k2 p2 p3 pos
      by_cases hs : 0 < st
      · refine PE.imp (pe_sls hs (sndP a C h3).pe) fun σ H Q ⟨F, env, r, ok, h, k⟩ => ?_
        obtain ⟨x, e1, h⟩ := bnd (show (ev c env a).bind _ = some r by simpa only [ev] using h)
        obtain ⟨ds, e2, h⟩ := bnd h
        obtain ⟨_, rfl⟩ := itd h
        refine ⟨F, env, x, ok, e1, fun v F1 H1 x1 w1 _ => ?_⟩
        obtain ⟨p, vs, rfl, hp, ra⟩ := w1.lstv x1.sub e2
        refine ⟨p, vs, rfl, SqL.of hp, fun q nq => ?_⟩
        have x2 := Ext.lay0 x1.sub nq (o := .lst (pickX vs l st))
        refine k _ _ _ (x1.trans x2) (.own (x1.sub.free nq) upd_same (.lst ?_)) fun _ b hb => by cases (show V.ref q = V.ref b from hb); exact x1.same.free nq
        unfold pickX
        rw [ra.length]
        exact rp_pick ra _
      · refine ⟨fun pins s' σ H Q I ⟨F, env, r, ok, h, k⟩ => ?_⟩
        obtain ⟨x, e1, h⟩ := bnd (show (ev c env a).bind _ = some r by simpa only [ev] using h)
        obtain ⟨ds, e2, h⟩ := bnd h
        obtain ⟨g, _⟩ := itd h
        exact absurd g hs
    · cases h
  | .ite t a b, X, s, c, C, e, h => by
    unfold chkE at h
    split at h
    · simp only [Bool.and_eq_true] at h
      obtain ⟨⟨h1, h2⟩, h3⟩ := h
      have T := sndP t C h1
      have P := sndP a C h2
      have R := sndP b C h3
      refine ⟨PE.imp (pe_ifExp T.pt P.pe R.pe) fun σ H Q ⟨F, env, r, ok, h, k⟩ => ?_, PT.imp (pt_ifExp T.pt P.pt R.pt) fun σ H Q ⟨F, env, k1, ok, h, k⟩ => ?_, fun _ _ _ z => nomatch z⟩
      · obtain ⟨b1, h1, h⟩ := bnd (show ((ev c env t).bind asBool).bind _ = some r by simpa only [ev] using h)
        obtain ⟨x, h1, h2⟩ := bnd h1
        obtain rfl := asBool_eq h2
        refine ⟨F, env, b1, ok, h1, fun F1 H1 x1 => ?_⟩
        cases b1 with
        | true =>
          obtain ⟨r', h3, h4⟩ := bnd (show (ev c env a).bind _ = some r from h)
          obtain ⟨d, h5, rfl⟩ := mpd h4
          exact iteT (handed (ok.ext x1) h3 h5 fun v F2 H2 x2 w2 => k v F2 H2 (x1.trans x2) w2 fun _ => newFz)
        | false =>
          obtain ⟨r', h3, h4⟩ := bnd (show (ev c env b).bind _ = some r from h)
          obtain ⟨d, h5, rfl⟩ := mpd h4
          exact iteF (handed (ok.ext x1) h3 h5 fun v F2 H2 x2 w2 => k v F2 H2 (x1.trans x2) w2 fun _ => newFz)
      · obtain ⟨b1, h1, h⟩ := bnd (show ((ev c env t).bind asBool).bind _ = some _ by simpa only [ev] using h)
        obtain ⟨x, h1, h2⟩ := bnd h1
        obtain rfl := asBool_eq h2
        refine ⟨F, env, b1, ok, h1, fun F1 H1 x1 => ?_⟩
        cases b1 with
        | true => exact iteT (tgo (ok.ext x1) h fun F2 H2 x2 => k F2 H2 (x1.trans x2))
        | false => exact iteF (tgo (ok.ext x1) h fun F2 H2 x2 => k F2 H2 (x1.trans x2))
    · cases h
  | .tup es, X, s, c, C, e, h => by
    unfold chkE at h
    split at h
    · refine mkP ?_ rfl
      refine PE.imp (pe_tupN (sndEs es C h).1) fun σ H Q ⟨F, env, r, ok, h, k⟩ => ?_
      obtain ⟨ds, h1, h2⟩ := bnd (show (evs c env es).bind _ = some r by simpa only [ev] using h)
      obtain ⟨hl, rfl⟩ := itd h2
      refine ⟨F, env, ds, ok, h1, fun vs F1 H1 x1 w1 => ⟨by rw [w1.length]; exact LIM_ok hl, fun p ob hob n => ?_⟩⟩
      obtain ⟨x2, w2⟩ := viewTup (K := X.K) x1.sub hob n w1
      exact k _ _ _ (x1.trans x2) w2 fun _ => newFz
    · cases h
  | .lst es, X, s, c, C, e, h => by
    unfold chkE at h
    split at h
    · refine mkP ?_ rfl
      refine PE.imp (pe_lst (sndEs es C h).1) fun σ H Q ⟨F, env, r, ok, h, k⟩ => ?_
      obtain ⟨ds, h1, h2⟩ := bnd (show (evs c env es).bind _ = some r by simpa only [ev] using h)
      obtain ⟨hl, rfl⟩ := itd h2
      refine ⟨F, env, ds, ok, h1, fun vs F1 H1 x1 w1 => ⟨by rw [w1.length]; exact LIM_ok hl, fun p n => ?_⟩⟩
      obtain ⟨x2, w2⟩ := viewNew (K := X.K) x1.sub n w1
      exact k _ _ _ (x1.trans x2) w2 fun _ => newOl (x1.same.free n)
    · cases h
  | .call f es, X, s, c, C, e, h => by
    unfold chkE at h
    split at h
    · refine mkP ?_ rfl
      simp only [Bool.and_eq_true, decide_eq_true_eq] at h
      obtain ⟨⟨⟨h1, h2⟩, h3⟩, h4⟩ := h
      exact pe_callS C h1 h2 h3 (chks_plain h4) (sndEs es C h4).2.1 fun e => by subst e; exact chks_nil h4
    · cases h
  | .bi b es, X, s, c, C, e, h => by
    unfold chkE at h
    split at h
    · refine mkP ?_ rfl
      simp only [Bool.and_eq_true, decide_eq_true_eq] at h
      obtain ⟨⟨h1, h2⟩, h3⟩ := h
      cases hb : isIsI b with
      | true =>
        rw [hb, if_pos rfl] at h3
        cases b with
        | isI t =>
          split at h3
          · simp only [Bool.and_eq_true, decide_eq_true_eq] at h3
            obtain ⟨⟨h4, h5⟩, h6⟩ := h3
            obtain ⟨g1, g2⟩ := C.gl h1 h2 (bi_mem (.isI t))
            obtain ⟨g3, g4⟩ := C.gl h4 h5 (ty_mem t)
            subst h1 h4
            obtain ⟨m1, m2⟩ := biN_ok (.isI t)
            obtain ⟨m3, m4⟩ := tyS_ok t
            cases es with
            | nil => simp [chkEs] at h6
            | cons a es =>
              simp only [chkEs, Bool.and_eq_true] at h6
              cases es with
              | cons _ _ => simp [chkEs] at h6
              | nil =>
                refine PE.imp (pe_callB (r_isI t) g1 g2 (by show bootBuiltins "isinstance" = _; decide +kernel) (pa_cons (sndP a C h6.1).pe (pa_cons (pe_bltn g3 g4 (ty_boot t) (v := .ty (tyN t)) rfl m3 m4) pa_nil (by rfl)) (star_of (chk_plain h6.1) _ _)) m1 m2 (star_of (chk_plain h6.1) _ _) (by rfl)) fun σ H Q ⟨F, env, r, ok, h, k⟩ => ?_
                obtain ⟨rs, h1, h2⟩ := bnd (show (evr c env (.cons a .nil)).bind _ = some r by simpa only [ev] using h)
                simp only [evr] at h1
                obtain ⟨x, h3, h4⟩ := bnd h1
                cases h4
                obtain ⟨h5, rfl⟩ := itd (show (if notScr x.d = true then some (RV.fz (.bool (isD t x.d))) else none) = some r from h2)
                exact ⟨F, env, x, ok, h3, fun v F1 H1 x1 w1 _ => ⟨v, x.d, rfl, w1.rp x1.sub, h5, k _ F1 H1 x1 (.fz (.bl _)) fun _ => newFz⟩⟩
          · cases h3
        | _ => cases hb
      | false =>
        rw [hb, if_neg Bool.false_ne_true] at h3
        simp only [Bool.and_eq_true, Bool.not_eq_true'] at h3
        obtain ⟨h3, h4⟩ := h3
        obtain ⟨g1, g2⟩ := C.gl h1 h2 (bi_mem b)
        subst h1
        obtain ⟨m1, m2⟩ := biN_ok b
        rename_i xs _
        cases xs with
        | nil => cases h3
        | cons y ys =>
          have ha := (sndEs es C h4).2.2
          have hp := chks_plain h4
          have st := star_of (hp y (by simp)) ys X.env
          have hr := r_bi (X := X) C.calm b hb
          have fin : ∀ σ H Q, tE X.K c (.bi b es) σ H Q → tCB (rnS X.K (biD b)) (tA X.K c es) σ H Q := fun σ H Q ⟨F, env, r, ok, h, k⟩ => by
            obtain ⟨rs, h1, h2⟩ := bnd (show (evr c env es).bind _ = some r by simpa only [ev] using h)
            exact ⟨F, env, rs, ok, h1, fun vs F1 H1 x1 w1 => ⟨F1, rs, r, x1.sub, w1, h2, fun v F2 H2 x2 w2 n => k v F2 H2 (x1.trans x2) w2 fun _ => new_back x1.same n⟩⟩
          rcases biB b hb with ⟨id, e1, e2⟩ | ⟨T, e1, e2⟩
          · rw [e1] at hr
            exact PE.imp (pe_callB hr g1 g2 e2 ha m1 m2 st (plain_any fun x hx => hp x (List.mem_cons_of_mem _ hx))) fin
          · rw [e1] at hr
            exact PE.imp (pe_callTy hr g1 g2 e2 ha m1 m2 st (plain_any fun x hx => hp x (List.mem_cons_of_mem _ hx))) fin
    · cases h
  | .mt m a es, X, s, c, C, e, h => by
    unfold chkE at h
    split at h
    · refine mkP ?_ rfl
      simp only [Bool.and_eq_true] at h
      obtain ⟨⟨⟨⟨h1, h2⟩, h3⟩, h4⟩, h5⟩ := h
      cases m with
      | join =>
        obtain rfl := of_decide_eq_true h1
        cases es with
        | nil => simp [chkEs] at h5
        | cons b es =>
          simp only [chkEs, Bool.and_eq_true] at h5
          cases es with
          | cons _ _ => simp [chkEs] at h5
          | nil =>
            refine PE.imp (pe_m1 F.slot_str_join F.type_str_join m_join (sndP a C h4).pe (sndP b C h5.1).pe (star_of (chk_plain h5.1) _ _) (base_of h3 _ _ _) h2) fun σ H Q ⟨F, env, r, ok, h, k⟩ => ?_
            obtain ⟨x, h6, h⟩ := bnd (show (ev c env a).bind _ = some r by simpa only [ev] using h)
            obtain ⟨rs, h7, h⟩ := bnd h
            simp only [evr] at h7
            obtain ⟨y, h8, h9⟩ := bnd h7
            cases h9
            obtain ⟨a', rfl⟩ := join_str h
            exact ⟨F, env, _, ok, h6, fun v F1 H1 x1 w1 _ => ⟨⟨a', w1.str⟩, F1, env, y, ok.ext x1, h8, fun u F2 H2 x2 w2 _ => ⟨F2, _, [y], r, x2.sub, w1.ext x2, .cons w2 .nil, h, fun v F3 H3 x3 w3 n => k v F3 H3 (x1.trans (x2.trans x3)) w3 fun _ => new_back (x1.trans x2).same n⟩⟩⟩
      | split =>
        obtain rfl := of_decide_eq_true h1
        cases es with
        | nil => simp [chkEs] at h5
        | cons b es =>
          simp only [chkEs, Bool.and_eq_true] at h5
          cases es with
          | cons _ _ => simp [chkEs] at h5
          | nil =>
            have hpl := chk_plain h5.1
            refine PE.imp (pe_m1 F.slot_str_split F.type_str_split mt_split (sndP a C h4).pe (sndP b C h5.1).pe (star_of hpl _ _) (base_of h3 _ _ _) h2) fun σ H Q ⟨F, env, r, ok, h, k⟩ => ?_
            obtain ⟨x, h6, h⟩ := bnd (show (ev c env a).bind _ = some r by simpa only [ev] using h)
            obtain ⟨rs, h7, h⟩ := bnd h
            simp only [evr] at h7
            obtain ⟨y, h8, h9⟩ := bnd h7
            cases h9
            obtain ⟨a', b', rfl, rfl, g1, g2, rfl⟩ := split_eq h
            exact ⟨F, env, _, ok, h6, fun v F1 H1 x1 w1 _ => ⟨⟨a', w1.str⟩, F1, env, _, ok.ext x1, h8, fun u F2 H2 x2 w2 _ => ⟨a', b', w1.str, by rw [w2.str], g1, LIM_ok g2, fun p n => k _ F2 _ (x1.trans (x2.trans (Ext.lay0 x2.sub n))) (.own (x2.sub.free n) upd_same (.lst (RpAll.ofStrs _))) fun _ b hb => by cases (show V.ref p = V.ref b from hb); exact (x1.trans x2).same.free n⟩⟩⟩
      | index =>
        obtain rfl := of_decide_eq_true h1
        cases es with
        | nil => simp [chkEs] at h5
        | cons b es =>
          simp only [chkEs, Bool.and_eq_true] at h5
          cases es with
          | cons _ _ => simp [chkEs] at h5
          | nil =>
            have un := C.un
            have hpl := chk_plain h5.1
            refine PE.imp (PE.or (pe_m1 F.slot_str_index F.type_str_index mt_sindex (sndP a C h4).pe (sndP b C h5.1).pe (star_of hpl _ _) (base_of h3 _ _ _) h2)
              (PE.or (pe_bmN PySem.F.slot_tuple_index PySem.F.type_tuple_index (mt_indexN (by omega)) (sndP a C h4).pe (pa_cons (sndP b C h5.1).pe pa_nil (star_of hpl _ _)) (base_of h3 _ _ _) (few1 hpl _) h2 (star_of hpl _ _) (by rfl))
              (pe_bm PySem.F.plainAttrs_list PySem.F.slot_list_index PySem.F.type_list_index (mt_indexD (by omega)) (sndP a C h4).pe (pa_cons (sndP b C h5.1).pe pa_nil (star_of hpl _ _)) (base_of h3 _ _ _) (few1 hpl _) h2 (star_of hpl _ _) (by rfl)))) fun σ H Q ⟨F, env, r, ok, h, k⟩ => ?_
            obtain ⟨x, h6, h⟩ := bnd (show (ev c env a).bind _ = some r by simpa only [ev] using h)
            obtain ⟨rs, h7, h⟩ := bnd h
            simp only [evr] at h7
            obtain ⟨y, h8, h9⟩ := bnd h7
            cases h9
            rcases index_eq h with ⟨a', b', i, rest, rfl, rfl, ho, rfl⟩ | ⟨ds, j, rfl, g2, g3, g4, rfl⟩ | ⟨ds, j, g1, g2, g3, g4, rfl⟩
            · exact .inl ⟨F, env, _, ok, h6, fun v F1 H1 x1 w1 _ => ⟨⟨a', w1.str⟩, F1, env, _, ok.ext x1, h8, fun u F2 H2 x2 w2 _ => ⟨a', b', i, rest, w1.str, by rw [w2.str], ho, k _ F2 H2 (x1.trans x2) (.fz (.int _)) fun _ => newFz⟩⟩⟩
            · refine .inr (.inl ⟨F, env, _, ok, h6, fun v F1 H1 x1 w1 _ => ?_⟩)
              cases w1.rpF with
              | tup ta ra =>
                refine ⟨⟨_, _, rfl, Same.tupN x1.sub ta⟩, F1, env, y, ok.ext x1, h8, fun u F2 H2 x2 w2 _ => ?_⟩
                have rx : Rp X.K H2 (.ref _) (.tuple ds) := Rp.mono x2.sub (Rp.mono x2.fr (.tup ta ra))
                have ry := w2.rp x2.sub
                obtain ⟨z, z1, z2, z3⟩ := findIdx_facts g4
                exact ⟨_, u, y.d, ds, j, z, rfl, rfl, rx.dp (shp g2), ry.dp (shp g3), g2, g3, z1, z2, z3, k _ F2 H2 (x1.trans x2) (.fz (.int _)) fun _ => newFz⟩
            · refine .inr (.inr ⟨F, env, _, ok, h6, fun v F1 H1 x1 w1 _ => ?_⟩)
              obtain ⟨p, vs, rfl, hp, ra⟩ := w1.lstv x1.sub g1
              refine ⟨.inl ⟨rfl, vs, SqL.of hp⟩, F1, env, y, ok.ext x1, h8, fun u F2 H2 x2 w2 _ => ?_⟩
              have rx : Rp X.K H2 (.ref p) (.list ds) := .lst (x2.same _ _ hp) ((ra.mono x2.fr).mono x2.sub)
              have ry := w2.rp x2.sub
              obtain ⟨z, z1, z2, z3⟩ := findIdx_facts g4
              exact ⟨p, u, y.d, ds, j, z, rfl, rfl, rx.dp (shp g2), ry.dp (shp g3), g2, g3, z1, z2, z3, k _ F2 H2 (x1.trans x2) (.fz (.int _)) fun _ => newFz⟩
      | count =>
        obtain rfl := of_decide_eq_true h1
        cases es with
        | nil => simp [chkEs] at h5
        | cons b es =>
          simp only [chkEs, Bool.and_eq_true] at h5
          cases es with
          | cons _ _ => simp [chkEs] at h5
          | nil =>
            have un := C.un
            have hpl := chk_plain h5.1
            refine PE.imp (pe_bm PySem.F.plainAttrs_list PySem.F.slot_list_count PySem.F.type_list_count (mt_countD (by omega)) (sndP a C h4).pe (pa_cons (sndP b C h5.1).pe pa_nil (star_of hpl _ _)) (base_of h3 _ _ _) (few1 hpl _) h2 (star_of hpl _ _) (by rfl)) fun σ H Q ⟨F, env, r, ok, h, k⟩ => ?_
            obtain ⟨x, h6, h⟩ := bnd (show (ev c env a).bind _ = some r by simpa only [ev] using h)
            obtain ⟨rs, h7, h⟩ := bnd h
            simp only [evr] at h7
            obtain ⟨y, h8, h9⟩ := bnd h7
            cases h9
            obtain ⟨ds, g1, g2⟩ := bnd (show (x.lst.bind fun ds => if SeqAt.shaped (.list ds) && SeqAt.shaped y.d then some (RV.fz (.int ((ds.countP fun z => PyData.eqv z y.d : Nat)))) else none) = some r from h)
            obtain ⟨g3, rfl⟩ := itd g2
            rw [Bool.and_eq_true] at g3
            refine ⟨F, env, _, ok, h6, fun v F1 H1 x1 w1 _ => ?_⟩
            obtain ⟨p, vs, rfl, hp, ra⟩ := w1.lstv x1.sub g1
            refine ⟨.inl ⟨rfl, vs, SqL.of hp⟩, F1, env, y, ok.ext x1, h8, fun u F2 H2 x2 w2 _ => ?_⟩
            have rx : Rp X.K H2 (.ref p) (.list ds) := .lst (x2.same _ _ hp) ((ra.mono x2.fr).mono x2.sub)
            have ry := w2.rp x2.sub
            exact ⟨p, u, y.d, ds, rfl, rfl, rx.dp (shp g3.1), ry.dp (shp g3.2), g3.1, g3.2, k _ F2 H2 (x1.trans x2) (.fz (.int _)) fun _ => newFz⟩
      | _ => cases h1
    · cases h
  | .idx a i, X, s, c, C, e, h => by
    unfold chkE at h
    split at h
    · refine mkP ?_ rfl
      simp only [Bool.and_eq_true] at h
      refine PE.imp (pe_ix r_ix (sndP a C h.1).pe (sndP i C h.2).pe (ix_of (chk_plain h.2))) fun σ H Q ⟨F, env, r, ok, h, k⟩ => ?_
      exact two ok (by simpa only [ev] using h) fun v F' H' x w n => k v F' H' x w fun _ => n
    · cases h
  | .slc a lo hi, X, s, c, C, e, h => by
    unfold chkE at h
    split at h
    · refine mkP ?_ rfl
      simp only [Bool.and_eq_true] at h
      obtain ⟨⟨h1, h2⟩, h3⟩ := h
      refine PE.imp (pe_slice r_sl (sndP a C h1).pe (sndO lo C h2) (sndO hi C h3)) fun σ H Q ⟨F, env, r, ok, h, k⟩ => ?_
      obtain ⟨x, h4, h⟩ := bnd (show (ev c env a).bind _ = some r by simpa only [ev] using h)
      obtain ⟨l, h5, h⟩ := bnd h
      obtain ⟨u, h6, h⟩ := bnd h
      exact ⟨F, env, x, ok, h4, fun v F1 H1 x1 w1 _ => ⟨F1, env, l, ok.ext x1, h5, fun F2 H2 x2 => ⟨F2, env, u, (ok.ext x1).ext x2, h6, fun F3 H3 x3 =>
        ⟨F3, x, r, x3.sub, (w1.ext x2).ext x3, h, fun v F4 H4 x4 w4 n => k v F4 H4 (x1.trans (x2.trans (x3.trans x4))) w4 fun _ => new_back (x1.trans (x2.trans x3)).same n⟩⟩⟩⟩
    · cases h
  | .emp, X, s, c, C, e, h => by unfold chkE at h; cases h
  | .comp a tg it t own, X, s, c, C, e, h => by
    unfold chkE at h
    split at h
    · refine mkP ?_ rfl
      simp only [Bool.and_eq_true, decide_eq_true_eq] at h
      obtain ⟨⟨⟨⟨⟨⟨h0, h1⟩, h2⟩, h3⟩, h4⟩, h5⟩, h6⟩ := h
      subst h0
      refine PE.imp (pe_lc (g := gS X.K tg) (tt := tTs X.K c t) (te := tE X.K c a) C.calm C.nd (sndI it C h3) (blkOk_by (own := ownN s own) (by rw [C.N, C.sc]; exact h1)) (fun s1 H A cl fp => pg_tg C.blk h4) (fun s1 H A cl fp => sndTs t C.blk h6) (fun s1 H A cl fp => (sndP a C.blk h5).pe) (set_of (chkI_plain h3) _)) fun σ H Q h => ?_
      rw [ownN_map]
      exact comp_ok h2 h
    · cases h
theorem sndO : ∀ (a : Ex) {X : Cx} {s : Sx} {c : Cl}, CO X s c → ∀ {e : Option Expr}, chkO a s e = true → PO X e (tO X.K c a)
  | .emp, X, s, c, C, e, h => by
    unfold chkO at h
    split at h
    · exact ⟨fun pins s' σ H Q I ⟨F, env, o, ok, h, k⟩ => by
        cases h
        exact po_none.run pins s' σ H Q I (k F H (.refl ok.sub))⟩
    · cases h
  | .one a, X, s, c, C, e, h => by
    unfold chkO at h
    split at h
    · have q := po_some (sndP a C h).pe
      exact ⟨fun pins s' σ H Q I ⟨F, env, o, ok, h, k⟩ => by
        obtain ⟨i, h1, rfl⟩ := mpd h
        obtain ⟨r, h1, h2⟩ := bnd h1
        obtain rfl := asInt_eq h2
        exact q.run pins s' σ H Q I ⟨F, env, _, ok, h1, fun v F1 H1 x1 w1 _ => ⟨i, w1.int, k F1 H1 x1⟩⟩⟩
    · cases h
  | .var _, _, _, _, _, _, h | .int _, _, _, _, _, _, h | .str _, _, _, _, _, _, h | .bl _, _, _, _, _, _, h | .non, _, _, _, _, _, h | .glb _, _, _, _, _, _, h | .bin _ _ _, _, _, _, _, _, h | .neg _, _, _, _, _, _, h | .not _, _, _, _, _, _, h
  | .and _ _, _, _, _, _, _, h | .or _ _, _, _, _, _, _, h | .cmp _ _ _, _, _, _, _, _, h | .chn _ _ _ _ _, _, _, _, _, _, h | .chn3 _ _ _ _ _ _ _, _, _, _, _, _, h | .dsx _ _, _, _, _, _, _, h | .dsv _ _ _ _ _, _, _, _, _, _, h | .isx _ _, _, _, _, _, _, h | .fld _ _, _, _, _, _, _, h | .mkx _ _, _, _, _, _, _, h | .gdx _ _, _, _, _, _, _, h | .lenD _, _, _, _, _, _, h | .lenI _ _, _, _, _, _, _, h | .rvt _, _, _, _, _, _, h | .rvl _, _, _, _, _, _, h | .sls _ _ _, _, _, _, _, _, h | .ite _ _ _, _, _, _, _, _, h | .tup _, _, _, _, _, _, h | .lst _, _, _, _, _, _, h | .call _ _, _, _, _, _, _, h
  | .bi _ _, _, _, _, _, _, h | .mt _ _ _, _, _, _, _, _, h | .idx _ _, _, _, _, _, _, h | .slc _ _ _, _, _, _, _, _, h | .comp _ _ _ _ _, _, _, _, _, _, h => by unfold chkO at h; cases h
theorem sndTs : ∀ (a : Ex) {X : Cx} {s : Sx} {c : Cl}, CO X s c → ∀ {e : List Expr}, chkT a s e = true → PTs X e (tTs X.K c a)
  | .emp, X, s, c, C, e, h => by
    unfold chkT at h
    split at h
    · exact ⟨fun pins s' σ H Q I ⟨F, env, o, ok, h, k⟩ => by
        cases h
        exact pts_nil.run pins s' σ H Q I (k F H (.refl ok.sub))⟩
    · cases h
  | .one a, X, s, c, C, e, h => by
    unfold chkT at h
    split at h
    · have q := pts_one (sndP a C h).pt
      exact ⟨fun pins s' σ H Q I ⟨F, env, o, ok, h, k⟩ => by
        obtain ⟨r, h1, h2⟩ := bnd h
        obtain rfl := asBool_eq h2
        exact q.run pins s' σ H Q I ⟨F, env, _, ok, h1, k⟩⟩
    · cases h
  | .var _, _, _, _, _, _, h | .int _, _, _, _, _, _, h | .str _, _, _, _, _, _, h | .bl _, _, _, _, _, _, h | .non, _, _, _, _, _, h | .glb _, _, _, _, _, _, h | .bin _ _ _, _, _, _, _, _, h | .neg _, _, _, _, _, _, h | .not _, _, _, _, _, _, h
  | .and _ _, _, _, _, _, _, h | .or _ _, _, _, _, _, _, h | .cmp _ _ _, _, _, _, _, _, h | .chn _ _ _ _ _, _, _, _, _, _, h | .chn3 _ _ _ _ _ _ _, _, _, _, _, _, h | .dsx _ _, _, _, _, _, _, h | .dsv _ _ _ _ _, _, _, _, _, _, h | .isx _ _, _, _, _, _, _, h | .fld _ _, _, _, _, _, _, h | .mkx _ _, _, _, _, _, _, h | .gdx _ _, _, _, _, _, _, h | .lenD _, _, _, _, _, _, h | .lenI _ _, _, _, _, _, _, h | .rvt _, _, _, _, _, _, h | .rvl _, _, _, _, _, _, h | .sls _ _ _, _, _, _, _, _, h | .ite _ _ _, _, _, _, _, _, h | .tup _, _, _, _, _, _, h | .lst _, _, _, _, _, _, h | .call _ _, _, _, _, _, _, h
  | .bi _ _, _, _, _, _, _, h | .mt _ _ _, _, _, _, _, _, h | .idx _ _, _, _, _, _, _, h | .slc _ _ _, _, _, _, _, _, h | .comp _ _ _ _ _, _, _, _, _, _, h => by unfold chkT at h; cases h
theorem sndEs : ∀ (as : Exs) {X : Cx} {s : Sx} {c : Cl}, CO X s c → ∀ {es : List Expr}, chkEs as s es = true → PA X es (tAs X.K c as) ∧ PA X es (tAb X.K c as) ∧ PA X es (tA X.K c as)
  | .nil, X, s, c, C, es, h => by
    unfold chkEs at h
    split at h
    · refine ⟨PA.imp pa_nil fun σ H Q ⟨F, env, ds, ok, h, k⟩ => ?_, PA.imp pa_nil fun σ H Q ⟨F, env, ds, b, ok, h, k⟩ => ?_, PA.imp pa_nil fun σ H Q ⟨F, env, ds, ok, h, k⟩ => ?_⟩
      · cases h; exact k [] F H (.refl ok.sub) .nil
      · cases h; exact k [] F H (.refl ok.sub) ⟨F, Same.refl _, ok.sub, NoTu.refl _, .nil⟩ fun _ => .nil
      · cases h; exact k [] F H (.refl ok.sub) .nil
    · cases h
  | .cons a as, X, s, c, C, es, h => by
    unfold chkEs at h
    split at h
    · simp only [Bool.and_eq_true] at h
      have P := (sndP a C h.1).pe
      obtain ⟨R1, R2, R3⟩ := sndEs as C h.2
      have st := fun xs => star_of (chk_plain h.1) xs X.env
      refine ⟨PA.imp (pa_cons P R1 (st _)) fun σ H Q ⟨F, env, ds, ok, h, k⟩ => ?_, PA.imp (pa_cons P R2 (st _)) fun σ H Q ⟨F, env, ds, b, ok, h, k⟩ => ?_, PA.imp (pa_cons P R3 (st _)) fun σ H Q ⟨F, env, ds, ok, h, k⟩ => ?_⟩
      · obtain ⟨r, h1, h⟩ := bnd (show (ev c env a).bind _ = some ds by simpa only [evs] using h)
        obtain ⟨d, h2, h⟩ := bnd h
        obtain ⟨dr, h3, h⟩ := bnd h
        cases h
        refine ⟨F, env, r, ok, h1, fun v F1 H1 x1 w1 n1 => ?_⟩
        obtain ⟨_, F2, x2, w2⟩ := own_rp h2 x1 w1 n1
        exact ⟨F2, env, dr, ok.ext x2, h3, fun vs F3 H3 x3 w3 => k (v :: vs) F3 H3 (x2.trans x3) (.cons (w2.mono x3.fr) w3)⟩
      · obtain ⟨r, h1, h⟩ := bnd (show (ev c env a).bind _ = some (ds, b) by simpa only [evb] using h)
        obtain ⟨⟨dr, b'⟩, h3, h⟩ := bnd h
        cases h
        refine ⟨F, env, r, ok, h1, fun v F1 H1 x1 w1 n1 => ?_⟩
        by_cases hb : (isVar a && r.isOwn) = true
        · refine ⟨F1, env, dr, b', ok.ext x1, h3, fun vs F3 H3 x3 w3 w4 => k (v :: vs) F3 H3 (x1.trans x3) (by
            obtain ⟨G1, s1, s2, nt, w3⟩ := w3
            obtain ⟨G2, s3, s4, nt2, w5⟩ := (w1.ext x3).lend s1 s2 nt
            exact ⟨G2, s1.trans s3, s4, nt2, .cons w5 (w3.mono s3)⟩) fun e => ?_⟩
          rw [hb] at e
          cases e
        · have ho : ownD a r = some r.d := by unfold ownD; rw [if_neg hb]
          obtain ⟨_, F2, x2, w2⟩ := own_rp ho x1 w1 n1
          exact ⟨F2, env, dr, b', ok.ext x2, h3, fun vs F3 H3 x3 w3 w4 => k (v :: vs) F3 H3 (x2.trans x3) (by
            obtain ⟨G1, s1, s2, nt, w3⟩ := w3
            exact ⟨G1, s1, s2, nt, .cons ((w2.mono x3.fr).mono s1) w3⟩) fun e => by
            have hb' : (isVar a && r.isOwn) = false := by simpa using hb
            rw [hb', Bool.false_or] at e
            exact .cons (w2.mono x3.fr) (w4 e)⟩
      · obtain ⟨r, h1, h⟩ := bnd (show (ev c env a).bind _ = some ds by simpa only [evr] using h)
        obtain ⟨dr, h3, h⟩ := bnd h
        cases h
        exact ⟨F, env, r, ok, h1, fun v F1 H1 x1 w1 n1 => ⟨F1, env, dr, ok.ext x1, h3, fun vs F3 H3 x3 w3 => k (v :: vs) F3 H3 (x1.trans x3) (.cons (w1.ext x3) w3)⟩⟩
    · cases h
theorem sndI : ∀ (it : Itr) {X : Cx} {s : Sx} {c : Cl}, CO X s c → ∀ {tg e : Expr}, chkI it s tg e = true → PI X tg e (tI X.K c it)
  | .ex a, X, s, c, C, tg, e, h => by
    unfold chkI at h
    have P := (sndP a C h).pe
    refine PI.imp (PI.or (pi_list P) (PI.or (pi_tup P) (pi_str P))) fun σ H R ⟨F, env, items, ok, h, k⟩ => ?_
    obtain ⟨r, h1, h2⟩ := bnd (show (ev c env a).bind itemsOf = some items by simpa only [evi] using h)
    have hb : borI c env (.ex a) = false → (isVar a && r.isOwn) = false := fun e => by
      simpa [borI, h1] using e
    rcases items_cases h2 with ⟨z, rfl, rfl⟩ | hs
    · exact .inr (.inr ⟨F, env, _, ok, h1, fun v F1 H1 x1 w1 _ => ⟨z, w1.str, k _ F1 H1 x1 (wd_str z) fun _ => ⟨F1, x1, wd_str z⟩⟩⟩)
    · by_cases ht : ∃ ds, r = .fz (.tuple ds)
      · obtain ⟨ds, rfl⟩ := ht
        refine .inr (.inl ⟨F, env, _, ok, h1, fun v F1 H1 x1 w1 n1 => ?_⟩)
        cases w1.rpF with
        | tup ta ra =>
          cases hs
          exact ⟨_, rfl, ⟨_, Same.sqT x1.sub ta.sqT⟩, k _ F1 H1 x1 (wd_tup (fun H2 q => Same.sqT q (Same.sqT x1.sub ta.sqT)) ra) fun _ => ⟨F1, x1, wd_tup (fun H2 q => Same.sqT q ta.sqT) ra⟩⟩
      · refine .inl ⟨F, env, r, ok, h1, fun v F1 H1 x1 w1 n1 => ?_⟩
        obtain ⟨kd, p, vs, rfl, q1, q2, q3, q4⟩ := seqv2 x1 w1 n1 hs
        cases kd with
        | false => exact absurd (q4 rfl) ht
        | true => exact ⟨p, rfl, ⟨vs, q1⟩, k _ F1 H1 x1 (wd_list (fun H2 q => q.seq q1) q2) fun e => by
            obtain ⟨F2, x2, z1, z2⟩ := q3 (hb e)
            exact ⟨F2, x2, wd_list (fun H2 q => q.seq z1) z2⟩⟩
  | .exD i k, X, s, c, C, tg, e, h => by
    unfold chkI at h
    split at h
    · simp only [Bool.and_eq_true, decide_eq_true_eq] at h
      obtain ⟨⟨⟨h1, h2⟩, h3⟩, h4⟩ := h
      refine PI.imp (pi_list (pe_xd C h1 h2 h3 (sndP k C h4).pe (ix_of (chk_plain h4)))) fun σ H R ⟨F, env, items, ok, h, kk⟩ => ?_
      exact ⟨F, env, items, ok, by unfold xdD; simpa only [evi] using h, fun q vs F' H' x w ra => ⟨q, rfl, ⟨vs, SqL.of w⟩, kk _ F' H' x (wd_list (fun H2 z => z.seq (SqL.of w)) ra) fun e => by cases e⟩⟩
    · cases h
  | .zipD i k j l, X, s, c, C, tg, e, h => by
    unfold chkI at h
    split at h
    · simp only [Bool.and_eq_true, decide_eq_true_eq] at h
      obtain ⟨⟨⟨⟨h1, h2⟩, ht⟩, ⟨⟨⟨a1, a2⟩, a3⟩, a4⟩⟩, ⟨⟨⟨b1, b2⟩, b3⟩, b4⟩⟩ := h
      obtain ⟨g1, g2⟩ := C.gl h1 h2 (by decide +kernel)
      subst h1
      cases tg with
      | Tuple es kk tp =>
        refine PI.imp (pi_zipQ g1 g2 (pa_cons (pe_xd C a1 a2 a3 (sndP k C a4).pe (ix_of (chk_plain a4))) (pa_cons (pe_xd C b1 b2 b3 (sndP l C b4).pe (ix_of (chk_plain b4))) pa_nil (star_of rfl _ _)) (star_of rfl _ _)) (star_of rfl _ _) (by rfl)) fun σ H R ⟨F, env, items, ok, h, kk⟩ => ?_
        obtain ⟨dss, h4, h5⟩ := bnd (show (onAt env i).bind _ = some items by simpa only [evi] using h)
        obtain ⟨n, h6, h7⟩ := bnd h5
        obtain ⟨xs, h8, h9⟩ := bnd h7
        have hx : xdD c env i k = some xs := by unfold xdD; rw [h4, Option.bind_some, h6]; exact h8
        obtain ⟨ess, h10, h11⟩ := bnd h9
        obtain ⟨m, h12, h13⟩ := bnd h11
        obtain ⟨ys, h14, rfl⟩ := mpd h13
        have hy : xdD c env j l = some ys := by unfold xdD; rw [h10, Option.bind_some, h12]; exact h14
        refine ⟨F, env, xs, ok, hx, fun p vs F1 H1 x1 w1 r1 => ⟨F1, env, ys, ok.ext x1, hy, fun q ws F2 H2 x2 w2 r2 => ?_⟩⟩
        have w1' := x2.same _ _ w1
        exact ⟨true, true, p, q, vs, ws, rfl, SqL.of w1', SqL.of w2, kk _ F2 H2 (x1.trans x2) (wd_zip (fun H3 s3 => ⟨Same.sq (k := true) s3 (SqL.of w1'), Same.sq (k := true) s3 (SqL.of w2)⟩) (r1.mono x2.fr) r2) fun e => by cases e⟩
      | _ => cases ht
    · cases h
  | .r1 a, X, s, c, C, tg, e, h => by
    unfold chkI at h
    split at h
    · simp only [Bool.and_eq_true, decide_eq_true_eq] at h
      obtain ⟨⟨h1, h2⟩, h3⟩ := h
      obtain ⟨g1, g2⟩ := C.gl h1 h2 (by decide +kernel)
      subst h1
      have st := star_of (chk_plain h3) [] X.env
      refine PI.imp (pi_range1 g1 g2 (pa_cons (sndP a C h3).pe pa_nil st) (by rw [st]; rfl)) fun σ H R ⟨F, env, items, ok, h, k⟩ => ?_
      obtain ⟨n, h4, h5⟩ := bnd (show ((ev c env a).bind asInt).bind _ = some items by simpa only [evi] using h)
      obtain ⟨r, h6, h7⟩ := bnd h4
      obtain rfl := asInt_eq h7
      obtain ⟨⟨b1, b2⟩, rfl⟩ := itd h5
      exact ⟨F, env, _, ok, h6, fun v F1 H1 x1 w1 _ => ⟨n, by rw [w1.int], by omega, by omega, k _ F1 H1 x1 (wd_rng 0 _) fun _ => ⟨F1, x1, wd_rng 0 _⟩⟩⟩
    · cases h
  | .r2 a b, X, s, c, C, tg, e, h => by
    unfold chkI at h
    split at h
    · simp only [Bool.and_eq_true, decide_eq_true_eq] at h
      obtain ⟨⟨⟨h1, h2⟩, h3⟩, h3'⟩ := h
      obtain ⟨g1, g2⟩ := C.gl h1 h2 (by decide +kernel)
      subst h1
      have st' := star_of (chk_plain h3') [] X.env
      have st := star_of (chk_plain h3)
      refine PI.imp (pi_range2 g1 g2 (pa_cons (sndP a C h3).pe (pa_cons (sndP b C h3').pe pa_nil st') (st _ _)) (by rw [st, st']; rfl) (by rw [st']; rfl)) fun σ H R ⟨F, env, items, ok, h, k⟩ => ?_
      obtain ⟨m, h4, h5⟩ := bnd (show ((ev c env a).bind asInt).bind _ = some items by simpa only [evi] using h)
      obtain ⟨r, h6, h7⟩ := bnd h4
      obtain rfl := asInt_eq h7
      obtain ⟨n, h8, h5⟩ := bnd h5
      obtain ⟨r, h9, h7⟩ := bnd h8
      obtain rfl := asInt_eq h7
      obtain ⟨⟨b1, b2, b3, b4⟩, rfl⟩ := itd h5
      exact ⟨F, env, _, ok, h6, fun v F1 H1 x1 w1 _ => ⟨F1, env, _, ok.ext x1, h9, fun u F2 H2 x2 w2 _ => ⟨m, n, by rw [w1.int, w2.int], ⟨by omega, by omega, by omega, by omega⟩, k _ F2 H2 (x1.trans x2) (wd_rng m _) fun _ => ⟨F2, x1.trans x2, wd_rng m _⟩⟩⟩⟩
    · cases h
  | .r3 a b d, X, s, c, C, tg, e, h => by
    unfold chkI at h
    split at h
    · simp only [Bool.and_eq_true, decide_eq_true_eq] at h
      obtain ⟨⟨⟨⟨h1, h2⟩, h3⟩, h3'⟩, h3''⟩ := h
      obtain ⟨g1, g2⟩ := C.gl h1 h2 (by decide +kernel)
      subst h1
      have st'' := star_of (chk_plain h3'') [] X.env
      have st' := star_of (chk_plain h3')
      have st := star_of (chk_plain h3)
      refine PI.imp (pi_range3 g1 g2 (pa_cons (sndP a C h3).pe (pa_cons (sndP b C h3').pe (pa_cons (sndP d C h3'').pe pa_nil st'') (st' _ _)) (st _ _)) (st _ _) (by rw [st', st'']; rfl)) fun σ H R ⟨F, env, items, ok, h, k⟩ => ?_
      obtain ⟨m, h4, h5⟩ := bnd (show ((ev c env a).bind asInt).bind _ = some items by simpa only [evi] using h)
      obtain ⟨r, h6, h7⟩ := bnd h4
      obtain rfl := asInt_eq h7
      obtain ⟨n, h8, h5⟩ := bnd h5
      obtain ⟨r, h9, h7⟩ := bnd h8
      obtain rfl := asInt_eq h7
      obtain ⟨l, h10, h5⟩ := bnd h5
      obtain ⟨r, h11, h7⟩ := bnd h10
      obtain rfl := asInt_eq h7
      obtain ⟨⟨b1, b2, b3, b4, rfl⟩, rfl⟩ := itd h5
      exact ⟨F, env, _, ok, h6, fun v F1 H1 x1 w1 _ => ⟨F1, env, _, ok.ext x1, h9, fun u F2 H2 x2 w2 _ => ⟨F2, env, _, (ok.ext x1).ext x2, h11, fun z F3 H3 x3 w3 _ => ⟨m, n, -1, (m - n).toNat, by rw [w1.int, w2.int, w3.int], RgC.neg (by omega) (by omega) (by omega) (by omega), k _ F3 H3 (x1.trans (x2.trans x3)) (wd_rngC m _ _) fun _ => ⟨F3, x1.trans (x2.trans x3), wd_rngC m _ _⟩⟩⟩⟩⟩
    · cases h
  | .zip a b, X, s, c, C, tg, e, h => by
    unfold chkI at h
    split at h
    · simp only [Bool.and_eq_true, decide_eq_true_eq] at h
      obtain ⟨⟨⟨⟨h1, h2⟩, ht⟩, h3⟩, h3'⟩ := h
      obtain ⟨g1, g2⟩ := C.gl h1 h2 (by decide +kernel)
      subst h1
      have st' := star_of (chk_plain h3') [] X.env
      have st := star_of (chk_plain h3)
      cases tg with
      | Tuple es kk tp =>
        refine PI.imp (pi_zipQ g1 g2 (pa_cons (sndP a C h3).pe (pa_cons (sndP b C h3').pe pa_nil st') (st _ _)) (st _ _) (by rw [st']; rfl)) fun σ H R ⟨F, env, items, ok, h, k⟩ => ?_
        obtain ⟨r1, h4, h5⟩ := bnd (show (ev c env a).bind _ = some items by simpa only [evi] using h)
        obtain ⟨r2, h6, h7⟩ := bnd h5
        obtain ⟨ds, h8, h9⟩ := bnd h7
        obtain ⟨es, h10, h11⟩ := bnd h9
        cases h11
        have hb1 : ∀ e, borI c env (.zip a b) = e → ((isVar a && r1.isOwn) || (isVar b && r2.isOwn)) = e := fun e z => by
          simpa [borI, h4, h6] using z
        refine ⟨F, env, r1, ok, h4, fun v F1 H1 x1 w1 n1 => ?_⟩
        -- the first one is frozen, where it may be
        obtain ⟨k1, a1, vs, rfl, p1, p2, p3, _⟩ := seqv2 x1 w1 n1 h8
        by_cases f1 : (isVar a && r1.isOwn) = true
        · refine ⟨F1, env, r2, ok.ext x1, h6, fun u F2 H2 x2 w2 n2 => ?_⟩
          obtain ⟨k2, a2, ws, rfl, q1, q2, q3, _⟩ := seqv2 x2 w2 n2 h10
          refine ⟨k1, k2, a1, a2, vs, ws, rfl, Same.sq x2.same p1, q1, k _ F2 H2 (x1.trans x2) (wd_zip (fun H3 s3 => ⟨Same.sq s3 (Same.sq x2.same p1), Same.sq s3 q1⟩) (p2.mono x2.fr) q2) fun e => ?_⟩
          have := hb1 _ e
          rw [f1] at this
          cases this
        · obtain ⟨F1', x1', p4, p5⟩ := p3 (by simpa using f1)
          refine ⟨F1', env, r2, ok.ext x1', h6, fun u F2 H2 x2 w2 n2 => ?_⟩
          obtain ⟨k2, a2, ws, rfl, q1, q2, q3, _⟩ := seqv2 x2 w2 n2 h10
          refine ⟨k1, k2, a1, a2, vs, ws, rfl, Same.sq x2.same p1, q1, k _ F2 H2 (x1'.trans x2) (wd_zip (fun H3 s3 => ⟨Same.sq s3 (Same.sq x2.same p1), Same.sq s3 q1⟩) (p5.mono x2.fr) q2) fun e => ?_⟩
          have hb2 := hb1 _ e
          simp only [Bool.or_eq_false_iff] at hb2
          obtain ⟨F2', x2', q4, q5⟩ := q3 hb2.2
          exact ⟨F2', x1'.trans x2', wd_zip (fun H3 s3 => ⟨Same.sq s3 (Same.sq x2'.fr p4), Same.sq s3 q4⟩) (p5.mono x2'.fr) q5⟩
      | _ => cases ht
    · cases h
  | .zip3 a b a3, X, s, c, C, tg, e, h => by
    unfold chkI at h
    split at h
    · simp only [Bool.and_eq_true, decide_eq_true_eq] at h
      obtain ⟨⟨⟨⟨⟨h1, h2⟩, ht⟩, h3⟩, h3'⟩, h3''⟩ := h
      obtain ⟨g1, g2⟩ := C.gl h1 h2 (by decide +kernel)
      subst h1
      have st'' := star_of (chk_plain h3'') [] X.env
      have st' := star_of (chk_plain h3')
      have st := star_of (chk_plain h3)
      cases tg with
      | Tuple es kk tp =>
        refine PI.imp (pi_zipR g1 g2 (pa_cons (sndP a C h3).pe (pa_cons (sndP b C h3').pe (pa_cons (sndP a3 C h3'').pe pa_nil st'') (st' _ _)) (st _ _)) (st _ _) (by rw [st' _ _, st'']; rfl)) fun σ H R ⟨F, env, items, ok, h, k⟩ => ?_
        obtain ⟨r1, h4, h5⟩ := bnd (show (ev c env a).bind _ = some items by simpa only [evi] using h)
        obtain ⟨r2, h6, h7⟩ := bnd h5
        obtain ⟨r3, h60, h70⟩ := bnd h7
        obtain ⟨ds, h8, h9⟩ := bnd h70
        obtain ⟨es, h10, h11⟩ := bnd h9
        obtain ⟨fs, h12, h13⟩ := bnd h11
        cases h13
        have hb1 : ∀ e, borI c env (.zip3 a b a3) = e → ((isVar a && r1.isOwn) || ((isVar b && r2.isOwn) || (isVar a3 && r3.isOwn))) = e := fun e z => by
          simpa [borI, h4, h6, h60] using z
        by_cases ff : ((isVar a && r1.isOwn) || ((isVar b && r2.isOwn) || (isVar a3 && r3.isOwn))) = true
        · refine ⟨F, env, r1, ok, h4, fun v F1 H1 x1 w1 n1 => ?_⟩
          obtain ⟨k1, a1, vs, rfl, p1, p2, _, _⟩ := seqv2 x1 w1 n1 h8
          refine ⟨F1, env, r2, ok.ext x1, h6, fun u F2 H2 x2 w2 n2 => ?_⟩
          obtain ⟨k2, a2, ws, rfl, q1, q2, _, _⟩ := seqv2 x2 w2 n2 h10
          refine ⟨F2, env, r3, (ok.ext x1).ext x2, h60, fun u3 F3 H3 x3 w3 n3 => ?_⟩
          obtain ⟨k3, a4, us, rfl, t1, t2, _, _⟩ := seqv2 x3 w3 n3 h12
          refine ⟨k1, k2, k3, a1, a2, a4, vs, ws, us, rfl, Same.sq x3.same (Same.sq x2.same p1), Same.sq x3.same q1, t1, k _ F3 H3 (x1.trans (x2.trans x3)) (wd_zip3 (fun H4 s4 => ⟨Same.sq s4 (Same.sq x3.same (Same.sq x2.same p1)), Same.sq s4 (Same.sq x3.same q1), Same.sq s4 t1⟩) ((p2.mono x2.fr).mono x3.fr) (q2.mono x3.fr) t2) fun e => ?_⟩
          have := hb1 _ e
          rw [ff] at this
          cases this
        · have ff2 : ((isVar a && r1.isOwn) || ((isVar b && r2.isOwn) || (isVar a3 && r3.isOwn))) = false := by simpa using ff
          simp only [Bool.or_eq_false_iff] at ff2
          obtain ⟨f1, f2, f3⟩ := ff2
          refine ⟨F, env, r1, ok, h4, fun v F1 H1 x1 w1 n1 => ?_⟩
          obtain ⟨k1, a1, vs, rfl, _, _, p3, _⟩ := seqv2 x1 w1 n1 h8
          obtain ⟨F1', x1', p4, p5⟩ := p3 f1
          refine ⟨F1', env, r2, ok.ext x1', h6, fun u F2 H2 x2 w2 n2 => ?_⟩
          obtain ⟨k2, a2, ws, rfl, _, _, q3, _⟩ := seqv2 x2 w2 n2 h10
          obtain ⟨F2', x2', q4, q5⟩ := q3 f2
          refine ⟨F2', env, r3, (ok.ext x1').ext x2', h60, fun u3 F3 H3 x3 w3 n3 => ?_⟩
          obtain ⟨k3, a4, us, rfl, _, _, t3, _⟩ := seqv2 x3 w3 n3 h12
          obtain ⟨F3', x3', t4, t5⟩ := t3 f3
          have y1 := Same.sq x3'.fr (Same.sq x2'.fr p4)
          have y2 := Same.sq x3'.fr q4
          have z1 := (p5.mono x2'.fr).mono x3'.fr
          have z2 := q5.mono x3'.fr
          exact ⟨k1, k2, k3, a1, a2, a4, vs, ws, us, rfl, Same.sq x3'.sub y1, Same.sq x3'.sub y2, Same.sq x3'.sub t4, k _ F3' H3 (x1'.trans (x2'.trans x3')) (wd_zip3 (fun H4 s4 => ⟨Same.sq s4 (Same.sq x3'.sub y1), Same.sq s4 (Same.sq x3'.sub y2), Same.sq s4 (Same.sq x3'.sub t4)⟩) z1 z2 t5) fun _ => ⟨F3', x1'.trans (x2'.trans x3'), wd_zip3 (fun H4 s4 => ⟨Same.sq s4 y1, Same.sq s4 y2, Same.sq s4 t4⟩) z1 z2 t5⟩⟩
      | _ => cases ht
    · cases h
  | .en a, X, s, c, C, tg, e, h => by
    unfold chkI at h
    split at h
    · simp only [Bool.and_eq_true, decide_eq_true_eq] at h
      obtain ⟨⟨⟨h1, h2⟩, ht⟩, h3⟩ := h
      obtain ⟨g1, g2⟩ := C.gl h1 h2 (by decide +kernel)
      subst h1
      have st := star_of (chk_plain h3) [] X.env
      cases tg with
      | Tuple es kk tp =>
        refine PI.imp (PI.or (pi_enumQ g1 g2 (sndP a C h3).pe st) (pi_enumT g1 g2 (sndP a C h3).pe st)) fun σ H R ⟨F, env, items, ok, h, k⟩ => ?_
        obtain ⟨r1, h4, h5⟩ := bnd (show (ev c env a).bind _ = some items by simpa only [evi] using h)
        obtain ⟨ds, h6, rfl⟩ := mpd h5
        have hb1 : borI c env (.en a) = false → (isVar a && r1.isOwn) = false := fun z => by
          simpa [borI, h4] using z
        rcases items_eq h6 with h6 | ⟨z, rfl, rfl⟩
        · refine .inl ⟨F, env, r1, ok, h4, fun v F1 H1 x1 w1 n1 => ?_⟩
          obtain ⟨k1, a1, vs, rfl, p1, p2, p3, _⟩ := seqv2 x1 w1 n1 h6
          refine ⟨k1, a1, vs, rfl, p1, k _ F1 H1 x1 (wd_enum (fun H3 s3 => Same.sq s3 p1) p2) fun e => ?_⟩
          obtain ⟨F2, x2, q1, q2⟩ := p3 (hb1 e)
          exact ⟨F2, x2, wd_enum (fun H3 s3 => Same.sq s3 q1) q2⟩
        · exact .inr ⟨F, env, _, ok, h4, fun v F1 H1 x1 w1 n1 => ⟨z, w1.str, k _ F1 H1 x1 (wd_enumT z) fun _ => ⟨F1, x1, wd_enumT z⟩⟩⟩
      | _ => cases ht
    · cases h
  | .rv a, X, s, c, C, tg, e, h => by
    unfold chkI at h
    split at h
    · simp only [Bool.and_eq_true, decide_eq_true_eq] at h
      obtain ⟨⟨h1, h2⟩, h3⟩ := h
      obtain ⟨g1, g2⟩ := C.gl h1 h2 (by decide +kernel)
      subst h1
      have st := star_of (chk_plain h3) [] X.env
      refine PI.imp (RT.pi_revA g1 g2 (sndP a C h3).pe st) fun σ H R ⟨F, env, items, ok, h, k⟩ => ?_
      obtain ⟨ds, h4, rfl⟩ := mpd (show ((ev c env a).bind RV.seq).map List.reverse = some items by simpa only [evi] using h)
      obtain ⟨r1, h4, h5⟩ := bnd h4
      have hb1 : borI c env (.rv a) = false → (isVar a && r1.isOwn) = false := fun z => by
        simpa [borI, h4] using z
      refine ⟨F, env, r1, ok, h4, fun v F1 H1 x1 w1 n1 => ?_⟩
      obtain ⟨k1, a1, vs, rfl, p1, p2, p3, _⟩ := seqv2 x1 w1 n1 h5
      cases k1 with
      | true =>
        refine ⟨a1, vs, rfl, .inl ⟨p1, k _ F1 H1 x1 (wd_rev (fun H3 s3 => s3.seq p1) p2) fun e => ?_⟩⟩
        obtain ⟨F2, x2, q1, q2⟩ := p3 (hb1 e)
        exact ⟨F2, x2, wd_rev (fun H3 s3 => s3.seq q1) q2⟩
      | false =>
        refine ⟨a1, vs, rfl, .inr ⟨p1, k _ F1 H1 x1 (wd_revT (fun H3 s3 => Same.sqT s3 p1) p2) fun e => ?_⟩⟩
        obtain ⟨F2, x2, q1, q2⟩ := p3 (hb1 e)
        exact ⟨F2, x2, wd_revT (fun H3 s3 => Same.sqT s3 q1) q2⟩
    · cases h
end
end
end Mn

namespace Mn
open PySem PySem.Spec PyProof.Rows L2

def chkR (j : Nat) : Rbs → Sx → List Stmt → Bool
  | .nil, s, st => match st with
    | [] => true
    | _ => false
  | .st k e r, s, st => match st with
    | .Assign [.Subscript (.Name x _) ix _] v _ :: more => decide (s.N[j]? = some x) && s.vis x && okN x && chkE k s ix && chkE e s v && chkR j r s more
    | _ => false
  | .ifs t a r, s, st => match st with
    | .If x y [] _ :: more => chkE t s x && chkR j a s y && chkR j r s more
    | _ => false
/-- the call of a def that may raise -/
def chkX (f : Nat) (es : Exs) (s : Sx) (y : Str) (xs : List Expr) : Bool := decide (s.xns[f]? = some y) && s.glo y && okN y && !xs.isEmpty && chkEs es s xs
/-- except D as n: j = n -/
def chkH (D : Str) (j n : Nat) (s : Sx) : List ExceptHandler → Bool
  | [.ExceptHandler (some (.Name d _)) (some nn) [.Assign [.Name m _] (.Name n2 _) _] _] => decide (d = D) && s.glo d && okN d && decide (s.N[n]? = some nn) && decide (s.sc.names.lookup nn = some .local) && decide (s.N[j]? = some m) && s.loc m && decide (n2 = nn) && s.vis nn && okN nn
  | _ => false
mutual
def chkS : Sm → Sx → Stmt → Bool
  | .asg i e, s, st => match st with
    | .Assign [.Name x _] v _ => decide (s.N[i]? = some x) && s.loc x && chkE e s v
    | _ => false
  | .unp is e, s, st => match st with
    | .Assign [.Tuple ts k pos] v _ => chkNs s is ts && chkE e s v && !isTup v
    | _ => false
  | .app i e, s, st => match st with
    | .Expr (.Call (.Attribute (.Name x _) nm apos) [v] [] cpos) _ => decide (nm = "append") && (apos.endLine == cpos.line) && decide (s.N[i]? = some x) && s.vis x && okN x && chkE e s v
    | _ => false
  | .ext i e, s, st => match st with
    | .Expr (.Call (.Attribute (.Name x _) nm apos) [v] [] cpos) _ => decide (nm = "extend") && (apos.endLine == cpos.line) && decide (s.N[i]? = some x) && s.vis x && okN x && chkE e s v
    | _ => false
  | .pop j i e, s, st => match st with
    | .Assign [.Name y _] (.Call (.Attribute (.Name x _) nm apos) [v] [] cpos) _ => decide (nm = "pop") && (apos.endLine == cpos.line) && decide (s.N[i]? = some x) && s.vis x && okN x && chkE e s v && decide (s.N[j]? = some y) && s.loc y
    | _ => false
  | .sti i k e, s, st => match st with
    | .Assign [.Subscript (.Name x _) ix _] v _ => decide (s.N[i]? = some x) && s.vis x && okN x && chkE k s ix && chkE e s v
    | _ => false
  | .clr i, s, st => match st with
    | .Expr (.Call (.Attribute (.Name x _) nm apos) [] [] cpos) _ => decide (nm = "clear") && (apos.endLine == cpos.line) && decide (s.N[i]? = some x) && s.vis x && okN x
    | _ => false
  | .ifs t a b, s, st => match st with
    | .If x y z _ => chkE t s x && chkSs a s y && chkSs b s z
    | _ => false
  | .for_ tg it b, s, st => match st with
    | .For x y z [] _ => chkI it s x y && chkTg s tg x && chkSs b s z
    | _ => false
  | .asgD i e tg it own, s, st => match st with
    | .Assign [.Name x _] v _ => decide (s.N[i]? = some x) && s.loc x && chkE (.comp e tg it .emp own) s v
    | _ => false
  | .asgL i e, s, st => match st with
    | .Assign [.Name x _] (.List [v] _) _ => decide (s.N[i]? = some x) && s.loc x && chkE e s v
    | _ => false
  | .appD i e, s, st => match st with
    | .Expr (.Call (.Attribute (.Name x _) nm apos) [v] [] cpos) _ => decide (nm = "append") && (apos.endLine == cpos.line) && decide (s.N[i]? = some x) && s.vis x && okN x && chkE e s v
    | _ => false
  | .appI i k e, s, st => match st with
    | .Expr (.Call (.Attribute (.Subscript (.Name x _) ix _) nm apos) [v] [] cpos) _ => decide (nm = "append") && (apos.endLine == cpos.line) && decide (s.N[i]? = some x) && s.vis x && okN x && chkE k s ix && chkE e s v
    | _ => false
  | .popI i k, s, st => match st with
    | .Expr (.Call (.Attribute (.Subscript (.Name x _) ix _) nm apos) [] [] cpos) _ => decide (nm = "pop") && (apos.endLine == cpos.line) && decide (s.N[i]? = some x) && s.vis x && okN x && chkE k s ix
    | _ => false
  | .popD i, s, st => match st with
    | .Expr (.Call (.Attribute (.Name x _) nm apos) [] [] cpos) _ => decide (nm = "pop") && (apos.endLine == cpos.line) && decide (s.N[i]? = some x) && s.vis x && okN x
    | _ => false
  | .retX e k, s, st => match st with
    | .Return (some (.Subscript x ix _)) _ => chkE e s x && chkE k s ix
    | _ => false
  | .stiD i k e, s, st => match st with
    | .Assign [.Subscript (.Name x _) ix _] v _ => decide (s.N[i]? = some x) && s.vis x && okN x && chkE k s ix && chkE e s v
    | _ => false
  | .forR j i b, s, st => match st with
    | .For (.Name y _) (.Name x _) z [] _ => decide (s.N[j]? = some y) && s.loc y && decide (s.N[i]? = some x) && s.vis x && okN x && chkR j b s z
    | _ => false
  | .tryN b, s, st => match st with
    | .Try x (_ :: _) [] [] _ => chkSs b s x
    | _ => false
  | .whl t b, s, st => match st with
    | .While x y [] _ => chkE t s x && chkSs b s y
    | _ => false
  | .ret e, s, st => match st with
    | .Return (some x) _ => chkE e s x
    | _ => false
  | .retN, s, st => match st with
    | .Return none _ => true
    | _ => false
  | .drp e, s, st => match st with
    | .Expr (.Call x y z p) _ => chkE e s (.Call x y z p)
    | _ => false
  | .rse C m, s, st => match st with
    | .Raise (some (.Call (.Name x _) [.Constant (.str y) _ _] [] _)) none _ => decide (x = C) && decide (y = m) && s.glo x && okN x
    | _ => false
  | .rs1 C e, s, st => match st with
    | .Raise (some (.Call (.Name x _) [v] [] _)) none _ => decide (x = C) && s.glo x && okN x && chkE e s v
    | _ => false
  | .asgC i f es, s, st => match st with
    | .Assign [.Name x _] (.Call (.Name y _) xs [] _) _ => decide (s.N[i]? = some x) && s.loc x && chkX f es s y xs
    | _ => false
  | .retC f es, s, st => match st with
    | .Return (some (.Call (.Name y _) xs [] _)) _ => chkX f es s y xs
    | _ => false
  | .drpC f es, s, st => match st with
    | .Expr (.Call (.Name y _) xs [] _) _ => chkX f es s y xs
    | _ => false
  | .tryC i f es D j n, s, st => match st with
    | .Try [.Assign [.Name x _] (.Call (.Name y _) xs [] _) _] hd [] [] _ => decide (s.N[i]? = some x) && s.loc x && chkX f es s y xs && chkH D j n s hd
    | _ => false
  | .tryE f es D j n, s, st => match st with
    | .Try [.Expr (.Call (.Name y _) xs [] _) _] hd [] [] _ => chkX f es s y xs && chkH D j n s hd
    | _ => false
  | .nop, s, st => match st with
    | .Expr (.Constant (.str _) _ _) _ => true
    | .Pass _ => true
    | _ => false
  | .nev, s, st => true
  | .cont, s, st => match st with
    | .Continue _ => true
    | _ => false
  | .brk, s, st => match st with
    | .Break _ => true
    | _ => false
def chkSs : Sms → Sx → List Stmt → Bool
  | .nil, s, st => match st with
    | [] => true
    | _ => false
  | .cons a r, s, st => match st with
    | x :: xs => chkS a s x && chkSs r s xs
    | _ => false
  | .frz i r, s, st => chkSs r s st
  | .del i r, s, st => chkSs r s st
end

structure StOk (K : PySem.W.Frag) (F0 H0 F H : Hp) (env : Ev) (σ : L2.St) : Prop where
  ext : Ext F0 H0 F H
  ok : EnvOk K F H env σ
  own : ∀ i p, OwnAt H env σ i p → H0 p = none
  sep : ∀ i j p, OwnAt H env σ i p → OwnAt H env σ j p → i = j
section
variable {K : PySem.W.Frag} {F0 H0 F H F' H' : Hp} {env : Ev} {σ : L2.St}
theorem OwnAt.there (ok : EnvOk K F H env σ) {i : Nat} {p : Addr} (h : OwnAt H env σ i p) : F p = none ∧ ∃ o, H p = some o := by
  obtain ⟨r, v, h1, h2, h3⟩ := h
  obtain ⟨v', h4, w⟩ := ok.at_ i r h1
  rw [h2] at h4
  cases h4
  cases w with
  | fz q => exact h3.elim
  | own f e q =>
    cases q with
    | on a nd np =>
      rcases h3 with h3 | ⟨q', vs, e1, e2, e3⟩
      · cases h3; exact ⟨f, _, e⟩
      · cases e1
        rw [e] at e2
        cases e2
        obtain ⟨q2, hq, e4⟩ := List.mem_map.mp e3
        cases e4
        obtain ⟨f2, vs2, h2⟩ := a.mem _ hq
        exact ⟨f2, _, h2⟩
    | _ => cases h3; exact ⟨f, _, e⟩
/-- what was owned behind a step was owned ahead of it -/
theorem OwnAt.back (ok : EnvOk K F H env σ) (x : Same H H') {i : Nat} {p : Addr} (h : OwnAt H' env σ i p) : OwnAt H env σ i p := by
  obtain ⟨r, v, h1, h2, h3⟩ := h
  refine ⟨r, v, h1, h2, ?_⟩
  obtain ⟨v', h4, w⟩ := ok.at_ i r h1
  rw [h2] at h4
  cases h4
  cases w with
  | fz q => exact h3
  | own f e q =>
    cases q with
    | on a nd np =>
      rcases h3 with h3 | ⟨q', vs, e1, e2, e3⟩
      · exact .inl h3
      · cases e1
        have := x _ _ e
        rw [this] at e2
        cases e2
        exact .inr ⟨_, _, rfl, e, e3⟩
    | _ => exact h3
theorem StOk.step (st : StOk K F0 H0 F H env σ) (x : Ext F H F' H') : StOk K F0 H0 F' H' env σ := ⟨st.ext.trans x, st.ok.ext x, fun i p h => st.own i p (h.back st.ok x.same), fun i j p h h' => st.sep i j p (h.back st.ok x.same) (h'.back st.ok x.same)⟩
theorem StOk.rebase (a : Ext F0 H0 F H) {F2 H2 : Hp} (st : StOk K F H0 F2 H2 env σ) : StOk K F0 H0 F2 H2 env σ :=
  ⟨⟨a.fr.trans st.ext.fr, st.ext.sub, st.ext.same, fun b o e => (st.ext.new b o e).elim (fun q => a.new b o q) .inr⟩, st.ok, st.own, st.sep⟩
theorem StOk.based (st : StOk K F0 H0 F H env σ) : StOk K F H0 F H env σ := ⟨⟨Same.refl _, st.ext.sub, st.ext.same, fun _ _ e => .inl e⟩, st.ok, st.own, st.sep⟩
/-- a name is stored: what it takes is new -/
theorem StOk.setN (st : StOk K F0 H0 F H env σ) (x : Ext F H F' H') {i : Nat} {v : V} {r : RV} (hi : i < env.length) (w : View K F' H' v r) (n : ∀ p, Foot H' r v p → H p = none) : StOk K F0 H0 F' H' (env.set i (some r)) (σ.set i (some v)) := by
  have ok' := st.ok.ext x
  have key : ∀ j p, OwnAt H' (env.set i (some r)) (σ.set i (some v)) j p → (j = i ∧ H p = none) ∨ (j ≠ i ∧ OwnAt H env σ j p) := fun j p h => by
    obtain ⟨r', u, h1, h2, h3⟩ := h
    by_cases e : i = j
    · subst e
      rw [List.getElem?_set_self hi] at h1
      cases h1
      rw [List.getElem?_set_self (by rw [← st.ok.len]; exact hi)] at h2
      cases h2
      exact .inl ⟨rfl, n p h3⟩
    · rw [List.getElem?_set_ne e] at h1 h2
      exact .inr ⟨fun z => e z.symm, OwnAt.back st.ok x.same ⟨r', u, h1, h2, h3⟩⟩
  refine ⟨st.ext.trans x, ok'.set hi w, fun j p h => ?_, fun j k p h1 h2 => ?_⟩
  · rcases key j p h with ⟨_, e⟩ | ⟨_, h⟩
    · exact st.ext.same.free e
    · exact st.own j p h
  · rcases key j p h1 with ⟨e1, e⟩ | ⟨_, g1⟩
    · rcases key k p h2 with ⟨e2, _⟩ | ⟨_, g2⟩
      · rw [e1, e2]
      · obtain ⟨_, o, q⟩ := g2.there st.ok
        rw [e] at q; cases q
    · rcases key k p h2 with ⟨e2, e⟩ | ⟨_, g2⟩
      · obtain ⟨_, o, q⟩ := g1.there st.ok
        rw [e] at q; cases q
      · exact st.sep j k p g1 g2
theorem StOk.set (st : StOk K F0 H0 F H env σ) (x : Ext F H F' H') {i : Nat} {v : V} {r : RV} (hi : i < env.length) (w : View K F' H' v r) (n : New r v H H') : StOk K F0 H0 F' H' (env.set i (some r)) (σ.set i (some v)) := st.setN x hi w n
/-- an owned object is changed -/
theorem StOk.upd (st : StOk K F0 H0 F H env σ) {i : Nat} {p : Addr} {o : HO} {r r0 : RV} (h0 : env[i]? = some (some r0)) (hf0 : r0.flat = true) (ho0 : r0.isOwn = true) (h3 : σ[i]? = some (some (.ref p))) (hf : r.flat = true) (q : Own K F (L2.upd H p o) p o r) : StOk K F0 H0 F (L2.upd H p o) (env.set i (some r)) σ := by
  have hi : i < env.length := (List.getElem?_eq_some_iff.mp h0).1
  have foot0 : ∀ H p', Foot H r0 (.ref p) p' ↔ p' = p := fun H p' => by
    cases r0 with
    | fz d => cases ho0
    | on d => cases hf0
    | _ => exact ⟨fun h => by cases h; rfl, fun h => by subst h; exact (rfl : V.ref _ = V.ref _)⟩
  have foot1 : ∀ H p', Foot H r (.ref p) p' → p' = p := fun H p' h => by
    cases r with
    | fz d => exact h.elim
    | on d => cases hf
    | _ => cases h; rfl
  have hp : OwnAt H env σ i p := ⟨r0, _, h0, h3, (foot0 H p).mpr rfl⟩
  have f := (hp.there st.ok).1
  have apart : ∀ j p', OwnAt H env σ j p' → j ≠ i → p' ≠ p := fun j p' h e z => by subst z; exact e (st.sep j i _ h hp)
  have key : ∀ j p', OwnAt (L2.upd H p o) (env.set i (some r)) σ j p' → OwnAt H env σ j p' := fun j p' hj => by
    obtain ⟨r', u, z1, z2, z3⟩ := hj
    by_cases e : i = j
    · subst e
      rw [List.getElem?_set_self hi] at z1
      cases z1
      rw [h3] at z2
      cases z2
      rw [foot1 _ _ z3]
      exact hp
    · rw [List.getElem?_set_ne e] at z1
      refine ⟨r', u, z1, z2, ?_⟩
      cases r' with
      | on d =>
        rcases z3 with z3 | ⟨q', vs, e1, e2, e3⟩
        · exact .inl z3
        · subst e1
          have ne : q' ≠ p := apart j q' ⟨.on d, _, z1, z2, .inl rfl⟩ (fun z => e z.symm)
          rw [upd_ne ne] at e2
          exact .inr ⟨_, _, rfl, e2, e3⟩
      | _ => exact z3
  refine ⟨st.ext.write (st.own i p hp) f, ⟨fun b u e => by rw [upd_ne (ne_of_none e f)]; exact st.ok.sub _ _ e, by rw [List.length_set]; exact st.ok.len, fun j r' hj => ?_⟩, fun j p' hj => st.own j p' (key j p' hj), fun j k p' hj hk => st.sep j k p' (key j p' hj) (key k p' hk)⟩
  by_cases e : i = j
  · subst e
    rw [List.getElem?_set_self hi] at hj
    cases hj
    exact ⟨.ref p, h3, .own f upd_same q⟩
  · rw [List.getElem?_set_ne e] at hj
    obtain ⟨v, z1, w⟩ := st.ok.at_ j r' hj
    refine ⟨v, z1, ?_⟩
    cases w with
    | fz q' => exact .fz q'
    | own f' e' q' =>
      rename_i p' o'
      have fo : ∀ p2, Foot H r' (.ref p') p2 → p2 ≠ p := fun p2 h => apart j p2 ⟨r', _, hj, z1, h⟩ fun z => e z.symm
      cases q' with
      | lst a => exact .own f' (by rw [upd_ne (fo p' rfl)]; exact e') (.lst a)
      | dK a => exact .own f' (by rw [upd_ne (fo p' rfl)]; exact e') (.dK a)
      | dT a => exact .own f' (by rw [upd_ne (fo p' rfl)]; exact e') (.dT a)
      | on a nd np => exact .own f' (by rw [upd_ne (fo p' (.inl rfl))]; exact e') (.on (a.other fun q hq => fo q (.inr ⟨p', _, rfl, e', List.mem_map.mpr ⟨q, hq, rfl⟩⟩)) nd np)
theorem StOk.onAt {K : PySem.W.Frag} {F0 H0 F H : Hp} {env : Ev} {σ : L2.St} (st : StOk K F0 H0 F H env σ) {i : Nat} {dss : List (List PyData)} (h : onAt env i = some dss) : ∃ p qs, env[i]? = some (some (.on dss)) ∧ σ[i]? = some (some (.ref p)) ∧ F p = none ∧ H p = some (.lst (qs.map V.ref)) ∧ InAll K F H qs dss ∧ qs.Nodup ∧ (∀ q ∈ qs, q ≠ p) := by
  have h1 := onAt_eq h
  obtain ⟨v, h2, w⟩ := st.ok.at_ i _ h1
  cases w with
  | own f e q =>
    cases q with
    | on a nd np => exact ⟨_, _, h1, h2, f, e, a, nd, np⟩
/-- an owned list of lists takes new places: the old ones, or such as are new -/
theorem StOk.onW {K : PySem.W.Frag} {F0 H0 F H : Hp} {env : Ev} {σ : L2.St} (st : StOk K F0 H0 F H env σ) {i : Nat} {dss dss' : List (List PyData)} {p : Addr} {qs qs' : List Addr} {H' : Hp}
    (h1 : env[i]? = some (some (.on dss))) (h2 : σ[i]? = some (some (.ref p))) (f : F p = none) (e : H p = some (.lst (qs.map V.ref)))
    (hq : ∀ b, b ∈ qs' → b ∈ qs ∨ (F b = none ∧ H0 b = none ∧ ∀ j, ¬ OwnAt H env σ j b)) (nd : qs'.Nodup) (np : ∀ q ∈ qs', q ≠ p) (e' : H' p = some (.lst (qs'.map V.ref))) (a : InAll K F H' qs' dss')
    (oth : ∀ b, b ≠ p → b ∉ qs' → H' b = H b) : StOk K F0 H0 F H' (env.set i (some (.on dss'))) σ := by
  have hi : i < env.length := (List.getElem?_eq_some_iff.mp h1).1
  have op : OwnAt H env σ i p := ⟨_, _, h1, h2, .inl rfl⟩
  have oq : ∀ b ∈ qs, OwnAt H env σ i b := fun b hb => ⟨_, _, h1, h2, .inr ⟨p, _, rfl, e, List.mem_map.mpr ⟨b, hb, rfl⟩⟩⟩
  -- what other slots own is none of these
  have away : ∀ j b, OwnAt H env σ j b → j ≠ i → b ≠ p ∧ b ∉ qs' := fun j b hb hj => ⟨fun z => by subst z; exact hj (st.sep j i _ hb op), fun z => by
    rcases hq b z with y | ⟨_, _, y⟩
    · exact hj (st.sep j i b hb (oq b y))
    · exact y j hb⟩
  have keep : ∀ b o, F b = some o → H' b = H b := fun b o hb => oth b (fun z => by subst z; rw [f] at hb; cases hb) (fun z => by
    obtain ⟨y, _⟩ := a.mem b z
    rw [y] at hb; cases hb)
  have h0 : ∀ b o, H0 b = some o → H' b = H b := fun b o hb => oth b (fun z => by subst z; rw [st.own i _ op] at hb; cases hb) (fun z => by
    rcases hq b z with y | ⟨_, y, _⟩
    · rw [st.own i b (oq b y)] at hb; cases hb
    · rw [y] at hb; cases hb)
  have key : ∀ j b, OwnAt H' (env.set i (some (.on dss'))) σ j b → (j = i ∧ (b = p ∨ b ∈ qs')) ∨ (j ≠ i ∧ OwnAt H env σ j b) := fun j b hb => by
    obtain ⟨r, v, z1, z2, z3⟩ := hb
    by_cases ej : i = j
    · subst ej
      rw [List.getElem?_set_self hi] at z1
      cases z1
      rw [h2] at z2
      cases z2
      refine .inl ⟨rfl, ?_⟩
      rcases z3 with z3 | ⟨q, vs, y1, y2, y3⟩
      · cases z3; exact .inl rfl
      · cases y1
        rw [e'] at y2
        cases y2
        obtain ⟨q2, hq2, y4⟩ := List.mem_map.mp y3
        cases y4
        exact .inr hq2
    · rw [List.getElem?_set_ne ej] at z1
      refine .inr ⟨fun z => ej z.symm, r, v, z1, z2, ?_⟩
      cases r with
      | on d =>
        rcases z3 with z3 | ⟨q, vs, y1, y2, y3⟩
        · exact .inl z3
        · subst y1
          obtain ⟨w1, w2⟩ := away j q ⟨.on d, _, z1, z2, .inl rfl⟩ (fun z => ej z.symm)
          rw [oth q w1 w2] at y2
          exact .inr ⟨_, _, rfl, y2, y3⟩
      | _ => exact z3
  refine ⟨⟨st.ext.fr, fun b o hb => by rw [keep b o hb]; exact st.ext.sub _ _ hb, fun b o hb => by rw [h0 b o hb]; exact st.ext.same _ _ hb, st.ext.new⟩, ⟨fun b o hb => by rw [keep b o hb]; exact st.ok.sub _ _ hb, by rw [List.length_set]; exact st.ok.len, fun j r hj => ?_⟩, fun j b hb => ?_, fun j k b hj hk => ?_⟩
  · by_cases ej : i = j
    · subst ej
      rw [List.getElem?_set_self hi] at hj
      cases hj
      exact ⟨_, h2, .own f e' (.on a nd np)⟩
    · rw [List.getElem?_set_ne ej] at hj
      obtain ⟨v, z1, w⟩ := st.ok.at_ j r hj
      refine ⟨v, z1, ?_⟩
      cases w with
      | fz q' => exact .fz q'
      | own f2 e2 q2 =>
        rename_i p2 o2
        have fo : ∀ b, Foot H r (.ref p2) b → H' b = H b := fun b z => by
          obtain ⟨w1, w2⟩ := away j b ⟨r, _, hj, z1, z⟩ (fun z => ej z.symm)
          exact oth b w1 w2
        cases q2 with
        | lst ra => exact .own f2 (by rw [fo p2 rfl]; exact e2) (.lst ra)
        | dK ra => exact .own f2 (by rw [fo p2 rfl]; exact e2) (.dK ra)
        | dT ra => exact .own f2 (by rw [fo p2 rfl]; exact e2) (.dT ra)
        | on a2 nd2 np2 =>
          have : ∀ {qs : List Addr} {dss : List (List PyData)}, InAll K F H qs dss → (∀ q ∈ qs, H' q = H q) → InAll K F H' qs dss := fun {qs} => by
            induction qs with
            | nil => intro dss z _; cases z; exact .nil
            | cons q qs ih =>
              intro dss z n
              cases z with
              | cons f3 h3 ra t3 => exact .cons f3 (by rw [n q (by simp)]; exact h3) ra (ih t3 fun q' h' => n q' (by simp [h']))
          exact .own f2 (by rw [fo p2 (.inl rfl)]; exact e2) (.on (this a2 fun q hq => fo q (.inr ⟨p2, _, rfl, e2, List.mem_map.mpr ⟨q, hq, rfl⟩⟩)) nd2 np2)
  · rcases key j b hb with ⟨_, z⟩ | ⟨_, z⟩
    · rcases z with rfl | z
      · exact st.own i _ op
      · rcases hq b z with y | ⟨_, y, _⟩
        · exact st.own i b (oq b y)
        · exact y
    · exact st.own j b z
  · rcases key j b hj with ⟨ej, z⟩ | ⟨ej, z⟩
    · rcases key k b hk with ⟨ek, y⟩ | ⟨ek, y⟩
      · rw [ej, ek]
      · obtain ⟨w1, w2⟩ := away k b y ek
        rcases z with rfl | z
        · exact absurd rfl w1
        · exact absurd z w2
    · rcases key k b hk with ⟨ek, y⟩ | ⟨ek, y⟩
      · obtain ⟨w1, w2⟩ := away j b z ej
        rcases y with rfl | y
        · exact absurd rfl w1
        · exact absurd y w2
      · exact st.sep j k b z y
/-- a slot is forgotten -/
theorem StOk.del (st : StOk K F0 H0 F H env σ) (i : Nat) : StOk K F0 H0 F H (env.set i none) σ := by
  have key : ∀ (j : Nat) (r : RV), (env.set i none)[j]? = some (some r) → env[j]? = some (some r) := fun j r h => by
    rw [List.getElem?_set] at h
    split at h
    · split at h <;> cases h
    · exact h
  have ow : ∀ j p, OwnAt H (env.set i none) σ j p → OwnAt H env σ j p := fun j p ⟨r, v, z1, z2, z3⟩ => ⟨r, v, key j r z1, z2, z3⟩
  exact ⟨st.ext, ⟨st.ok.sub, by rw [List.length_set]; exact st.ok.len, fun j r h => st.ok.at_ j r (key j r h)⟩, fun j p h => st.own j p (ow j p h), fun j k p hj hk => st.sep j k p (ow j p hj) (ow k p hk)⟩
/-- more is frozen: places that nothing else owns -/
theorem StOk.cold (st : StOk K F0 H0 F H env σ) {F' : Hp} (x : Ext F H F' H → True) (fr : Same F F') (sub : Same F' H) (nw : ∀ b o, F' b = some o → F b = some o ∨ H0 b = none) (aw : ∀ j p, OwnAt H env σ j p → F' p = none) : StOk K F0 H0 F' H env σ := by
  refine ⟨⟨st.ext.fr.trans fr, sub, st.ext.same, fun b o e => (nw b o e).elim (fun z => st.ext.new b o z) .inr⟩, ⟨sub, st.ok.len, fun j r h => ?_⟩, st.own, st.sep⟩
  obtain ⟨v, h1, w⟩ := st.ok.at_ j r h
  refine ⟨v, h1, ?_⟩
  cases w with
  | fz q => exact .fz (q.mono fr)
  | own f e q =>
    rename_i p o
    have fo : ∀ p2, Foot H r (.ref p) p2 → F' p2 = none := fun p2 z => aw j p2 ⟨r, _, h, h1, z⟩
    cases q with
    | lst a => exact .own (fo p rfl) e (.lst (a.mono fr))
    | dK a => exact .own (fo p rfl) e (.dK (a.mono fr))
    | dT a => exact .own (fo p rfl) e (.dT (a.mono fr))
    | on a nd np =>
      have : ∀ {qs : List Addr} {dss : List (List PyData)}, InAll K F H qs dss → (∀ q ∈ qs, F' q = none) → InAll K F' H qs dss := fun {qs} => by
        induction qs with
        | nil => intro dss z _; cases z; exact .nil
        | cons q qs ih =>
          intro dss z n
          cases z with
          | cons f2 h2 ra t2 => exact .cons (n q (by simp)) h2 (ra.mono fr) (ih t2 fun q' h' => n q' (by simp [h']))
      exact .own (fo p (.inl rfl)) e (.on (this a fun q hq => fo q (.inr ⟨p, _, rfl, e, List.mem_map.mpr ⟨q, hq, rfl⟩⟩)) nd np)
/-- an owned thing is frozen -/
theorem StOk.frz (st : StOk K F0 H0 F H env σ) {i : Nat} {r : RV} (h : env[i]? = some (some r)) : ∃ F', StOk K F0 H0 F' H (env.set i (some (.fz r.d))) σ := by
  classical
  have hi : i < env.length := (List.getElem?_eq_some_iff.mp h).1
  obtain ⟨v, h1, w⟩ := st.ok.at_ i r h
  let P : Addr → Prop := fun b => Foot H r v b
  have st1 := st.del i
  have fr : Same F (coldF F H P) := fun b o e => by
    unfold coldF
    split
    · exact st.ok.sub _ _ e
    · exact e
  have sub : Same (coldF F H P) H := fun b o e => by
    unfold coldF at e
    split at e
    · exact e
    · exact st.ok.sub _ _ e
  have own : ∀ p, P p → OwnAt H env σ i p := fun p hp => ⟨r, v, h, h1, hp⟩
  have st2 : StOk K F0 H0 (coldF F H P) H (env.set i none) σ := st1.cold (fun _ => trivial) fr sub (fun b o e => by
    unfold coldF at e
    split at e
    · rename_i hb
      exact .inr (st.own i b (own b hb))
    · exact .inl e) fun j p hj => by
    have hj2 : OwnAt H env σ j p := by
      obtain ⟨r', v', z1, z2, z3⟩ := hj
      by_cases e : i = j
      · subst e
        rw [List.getElem?_set_self hi] at z1
        cases z1
      · rw [List.getElem?_set_ne e] at z1
        exact ⟨r', v', z1, z2, z3⟩
    have hne : j ≠ i := fun e => by
      subst e
      obtain ⟨r', v', z1, _, _⟩ := hj
      rw [List.getElem?_set_self hi] at z1
      cases z1
    unfold coldF
    rw [if_neg (fun hp => hne (st.sep j i p hj2 (own p hp)))]
    exact (hj2.there st.ok).1
  have rp : Rp K (coldF F H P) v r.d := by
    cases w with
    | fz q => exact q.mono fr
    | own f e q =>
      rename_i p o
      have at_ : ∀ b, P b → coldF F H P b = H b := fun b hb => if_pos hb
      cases q with
      | lst a => exact .lst (by rw [at_ p rfl]; exact e) (a.mono fr)
      | dK a => exact .dK (by rw [at_ p rfl]; exact e) (a.mono fr)
      | dT a => exact .dT (by rw [at_ p rfl]; exact e) (a.mono fr)
      | on a nd np =>
        have : ∀ {qs : List Addr} {dss : List (List PyData)}, InAll K F H qs dss → (∀ q ∈ qs, P q) → RpAll K (coldF F H P) (qs.map V.ref) (dss.map PyData.list) := fun {qs} => by
          induction qs with
          | nil => intro dss z _; cases z; exact .nil
          | cons q qs ih =>
            intro dss z n
            cases z with
            | cons f2 h2 ra t2 => exact .cons (.lst (by rw [at_ q (n q (by simp))]; exact h2) (ra.mono fr)) (ih t2 fun q' h' => n q' (by simp [h']))
        exact .lst (by rw [at_ p (.inl rfl)]; exact e) (this a fun q hq => .inr ⟨p, _, rfl, e, List.mem_map.mpr ⟨q, hq, rfl⟩⟩)
  refine ⟨_, st2.ext, ⟨st2.ok.sub, by rw [List.length_set]; exact st.ok.len, fun j r' hj => ?_⟩, fun j p hj => st2.own j p ?_, fun j k p hj hk => st2.sep j k p ?_ ?_⟩
  · by_cases e : i = j
    · subst e
      rw [List.getElem?_set_self hi] at hj
      cases hj
      exact ⟨v, h1, .fz rp⟩
    · rw [List.getElem?_set_ne e] at hj
      exact st2.ok.at_ j r' (by rw [List.getElem?_set_ne e]; exact hj)
  all_goals
    first
    | (obtain ⟨r', v', z1, z2, z3⟩ := hj
       by_cases e : i = j
       · subst e
         rw [List.getElem?_set_self hi] at z1
         cases z1
         exact z3.elim
       · rw [List.getElem?_set_ne e] at z1
         exact ⟨r', v', by rw [List.getElem?_set_ne e]; exact z1, z2, z3⟩)
    | (obtain ⟨r', v', z1, z2, z3⟩ := hk
       by_cases e : i = k
       · subst e
         rw [List.getElem?_set_self hi] at z1
         cases z1
         exact z3.elim
       · rw [List.getElem?_set_ne e] at z1
         exact ⟨r', v', by rw [List.getElem?_set_ne e]; exact z1, z2, z3⟩)
end
def PostO (K : PySem.W.Frag) (W : XK) (F0 H0 : Hp) (o : Out) (D : Ends) : Prop := match o with
  | .nx env => ∀ F σ H, StOk K F0 H0 F H env σ → D.nx σ H
  | .rt r => (∀ v F H, Ext F0 H0 F H → View K F H v r → New r v H0 H → D.rt v H) ∧ ∀ d, r = .xr d → ∀ F H cv dd, Ext F0 H0 F H → Xat K F cv dd d → W cv dd H
  | .bk env => ∀ F σ H, StOk K F0 H0 F H env σ → D.bk σ H
  | .ct env => ∀ F σ H, StOk K F0 H0 F H env σ → D.ct σ H
def tS (K : PySem.W.Frag) (W : XK) (c : Cl) (s : Sm) : TS := fun D σ H => ∃ F0 H0 F env o, StOk K F0 H0 F H env σ ∧ exS c s env = some o ∧ PostO K W F0 H0 o D
def tSs (K : PySem.W.Frag) (W : XK) (c : Cl) (s : Sms) : TS := fun D σ H => ∃ F0 H0 F env o, StOk K F0 H0 F H env σ ∧ exSs c s env = some o ∧ PostO K W F0 H0 o D
theorem olAt_eq {env : Ev} {i : Nat} {ds : List PyData} (h : olAt env i = some ds) : env[i]? = some (some (.ol ds)) := by
  unfold olAt at h
  obtain ⟨r, h1, h2⟩ := bnd h
  split at h2
  · cases h2
    cases q : env[i]? with
    | none => rw [q] at h1; cases h1
    | some o => rw [q] at h1; exact congrArg some h1
  · cases h2
theorem StOk.ol {K : PySem.W.Frag} {F0 H0 F H : Hp} {env : Ev} {σ : L2.St} (st : StOk K F0 H0 F H env σ) {i : Nat} {ds : List PyData} (h : olAt env i = some ds) : ∃ p vs, env[i]? = some (some (.ol ds)) ∧ σ[i]? = some (some (.ref p)) ∧ F p = none ∧ H p = some (.lst vs) ∧ RpAll K F vs ds := by
  have h1 := olAt_eq h
  obtain ⟨v, h2, w⟩ := st.ok.at_ i _ h1
  cases w with
  | own f e q =>
    cases q with
    | lst ra => exact ⟨_, _, h1, h2, f, e, ra⟩
theorem swap_no {e : Expr} (h : ∀ a b c d, e ≠ .ListComp a b c d) (h2 : ∀ a b c d, e ≠ .SetComp a b c d) (h3 : ∀ a b c d p, e ≠ .DictComp a b c d p) (t : Option Expr) (l : Nat) (env : Env) : swapsWith e t l env = pure false := by
  cases e with
  | ListComp a b c d => exact absurd rfl (h a b c d)
  | SetComp a b c d => exact absurd rfl (h2 a b c d)
  | DictComp a b c d p => exact absurd rfl (h3 a b c d p)
  | _ => rfl
theorem chk_comp {a : Ex} {s : Sx} {e : Expr} (h : chkE a s e = true) : (∀ x y z p, e ≠ .SetComp x y z p) ∧ (∀ x y z p q, e ≠ .DictComp x y z p q) ∧ ((∀ x y z p, e ≠ .ListComp x y z p) ∨ ∃ b tg it t own, a = .comp b tg it t own) := by
  cases e with
  | SetComp x y z p => cases a <;> simp [chkE] at h
  | DictComp x y z p q => cases a <;> simp [chkE] at h
  | ListComp x y z p =>
    refine ⟨(fun _ _ _ _ q => nomatch q), (fun _ _ _ _ _ q => nomatch q), .inr ?_⟩
    cases a <;> first | exact ⟨_, _, _, _, _, rfl⟩ | simp [chkE] at h
  | _ => exact ⟨(fun _ _ _ _ q => nomatch q), (fun _ _ _ _ _ q => nomatch q), .inl (fun _ _ _ _ q => nomatch q)⟩
section
variable {X : Cx} {s : Sx} {c : Cl}
/-- name = value, whatever stands to the right -/
theorem ps_asgN (C : CO X s c) {i : Nat} {x : Str} {a : Ex} {v : Expr} {px pos : Pos} (hi : s.N[i]? = some x) (hl : s.loc x = true) (h : chkE a s v = true) : PS X (.Assign [.Name x px] v pos) (tAsg (tE X.K c a) (gName i)) := by
  have hi' : X.N[i]? = some x := by rw [C.N]; exact hi
  obtain ⟨l1, l2⟩ := C.locv hl
  have P := (sndP a C h).pe
  obtain ⟨q1, q2, q3⟩ := chk_comp h
  rcases q3 with q3 | ⟨b, tg, it, t, own, rfl⟩
  · exact ps_set C.nd hi' l1 P (swap_no q3 q1 q2 _ _ _) l2
  · have hc := h
    unfold chkE at hc
    split at hc
    · rename_i elt tg' iter ifs kk scope p
      have sw : ∃ b, swapsWith (.ListComp elt [⟨tg', iter, ifs, kk⟩] scope p) (some (.Name x px)) pos.line X.env = pure b ∧ (b = true → X.env.scope.names.lookup x = some .local) := by
        refine ⟨_, rfl, fun e => ?_⟩
        simp only [Bool.and_eq_true, beq_iff_eq] at e
        exact e.1.1.2
      obtain ⟨b0, sw, hb⟩ := sw
      cases b0 with
      | false => exact ps_set C.nd hi' l1 P sw l2
      | true =>
        simp only [Bool.and_eq_true, decide_eq_true_eq] at hc
        obtain ⟨⟨⟨⟨⟨⟨h0, h1⟩, h2⟩, h3⟩, h4⟩, h5⟩, h6⟩ := hc
        subst h0
        refine PS.imp (ps_setLc (g := gS X.K tg) (tt := tTs X.K c t) (te := tE X.K c b) C.calm C.nd hi' (hb rfl) sw (sndI it C h3) (blkOk_by (own := ownN s own) (by rw [C.N, C.sc]; exact h1)) (fun s1 H A cl fp => pg_tg C.blk h4) (fun s1 H A cl fp => sndTs t C.blk h6) (fun s1 H A cl fp => (sndP b C.blk h5).pe) (set_of (chkI_plain h3) _)) fun D σ H h => ?_
        rw [ownN_map]
        exact comp_ok h2 h
    · cases hc
end
end Mn

namespace Mn
open PySem PySem.Spec PyProof.Rows L2
section
variable {K : PySem.W.Frag} {F0 H0 F H F' H' : Hp} {env : Ev} {σ : L2.St} {c : Cl}
theorem InAll.snoc {q : Addr} {vs : List V} {ds : List PyData} : ∀ {qs : List Addr} {dss : List (List PyData)}, InAll K F H qs dss → F q = none → H q = some (.lst vs) → RpAll K F vs ds → InAll K F H (qs ++ [q]) (dss ++ [ds])
  | _, _, .nil, f, h, r => .cons f h r .nil
  | _, _, .cons f' h' r' t, f, h, r => .cons f' h' r' (InAll.snoc t f h r)
/-- place by place -/
theorem InAll.of : ∀ {qs : List Addr} {dss : List (List PyData)}, qs.length = dss.length → (∀ (k : Nat) q ds, qs[k]? = some q → dss[k]? = some ds → F q = none ∧ ∃ vs, H q = some (.lst vs) ∧ RpAll K F vs ds) → InAll K F H qs dss
  | [], [], _, _ => .nil
  | q :: qs, ds :: dss, e, h => by
    obtain ⟨h1, vs, h2, h3⟩ := h 0 q ds rfl rfl
    exact .cons h1 h2 h3 (InAll.of (by simpa using e) fun k q' ds' a b => h (k + 1) q' ds' (by simpa using a) (by simpa using b))
  | [], _ :: _, e, _ => by simp at e
  | _ :: _, [], e, _ => by simp at e
theorem InAll.nth2 {qs : List Addr} {dss : List (List PyData)} (a : InAll K F H qs dss) {k : Nat} {q : Addr} {ds : List PyData} (hq : qs[k]? = some q) (hd : dss[k]? = some ds) : F q = none ∧ ∃ vs, H q = some (.lst vs) ∧ RpAll K F vs ds := by
  obtain ⟨q', vs, h1, h2, h3, h4⟩ := a.nth hd
  rw [hq] at h1
  cases h1
  exact ⟨h2, vs, h3, h4⟩
theorem InAll.at2 {qs : List Addr} {dss : List (List PyData)} {n : Int} {ds : List PyData} (a : InAll K F H qs dss) (h : L2.atI dss n = some ds) : ∃ q vs, L2.atI (qs.map V.ref) n = some (.ref q) ∧ q ∈ qs ∧ F q = none ∧ H q = some (.lst vs) ∧ RpAll K F vs ds := by
  unfold L2.atI at h ⊢
  rw [List.length_map, a.len]
  obtain ⟨j, h1, h2⟩ := bnd h
  obtain ⟨q, vs, h3, h4, h5, h6⟩ := a.nth h2
  refine ⟨q, vs, ?_, List.mem_of_getElem? h3, h4, h5, h6⟩
  rw [h1]
  show (qs.map V.ref)[j]? = _
  rw [List.getElem?_map, h3]
  rfl
theorem nodup_snoc {q : Addr} : ∀ {qs : List Addr}, qs.Nodup → q ∉ qs → (qs ++ [q]).Nodup := fun {qs} h n => by
  rw [List.nodup_append]
  refine ⟨h, by simp, fun a ha b hb e => ?_⟩
  rw [List.mem_singleton] at hb
  subst hb; subst e
  exact n ha
theorem nodup_set {q : Addr} : ∀ {qs : List Addr} (j : Nat), qs.Nodup → q ∉ qs → (qs.set j q).Nodup
  | [], j, h, n => by simpa using h
  | a :: qs, 0, h, n => by
    rw [List.set_cons_zero, List.nodup_cons]
    exact ⟨fun z => n (List.mem_cons_of_mem _ z), (List.nodup_cons.mp h).2⟩
  | a :: qs, j + 1, h, n => by
    rw [List.set_cons_succ, List.nodup_cons]
    refine ⟨fun z => ?_, nodup_set j (List.nodup_cons.mp h).2 fun z => n (List.mem_cons_of_mem _ z)⟩
    rcases List.mem_or_eq_of_mem_set z with y | y
    · exact (List.nodup_cons.mp h).1 y
    · exact n (by rw [y]; simp)
theorem compD_snoc {f : PyData → Option (List PyData)} {x : PyData} {y : List PyData} (hx : f x = some y) : ∀ {xs : List PyData} {ds : List (List PyData)}, compD f xs = some ds → compD f (xs ++ [x]) = some (ds ++ [y])
  | [], ds, h => by
    cases h
    simp only [List.nil_append, compD, hx, Option.bind_some]
  | z :: zs, ds, h => by
    obtain ⟨o', h1, h⟩ := bnd (show (f z).bind _ = some ds from h)
    obtain ⟨r, h2, h⟩ := bnd h
    have ih := compD_snoc hx h2
    have e : compD f (z :: zs ++ [x]) = (f z).bind fun y => (compD f (zs ++ [x])).bind fun ys => some (y :: ys) := rfl
    rw [e, h1, Option.bind_some, ih, Option.bind_some]
    cases h
    rfl
theorem compD_all {f : PyData → Option (List PyData)} : ∀ {xs : List PyData} {ds : List (List PyData)}, compD f xs = some ds → ∀ (i : Nat) x, xs[i]? = some x → (∃ o, f x = some o)
  | [], ds, h, i, x, hx => by simp at hx
  | y :: ys, ds, h, 0, x, hx => by
    obtain ⟨o', h1, h⟩ := bnd (show (f y).bind _ = some ds from h)
    simp at hx
    subst hx
    exact ⟨o', h1⟩
  | y :: ys, ds, h, i + 1, x, hx => by
    obtain ⟨o', h1, h⟩ := bnd (show (f y).bind _ = some ds from h)
    obtain ⟨r, h2, h⟩ := bnd h
    exact compD_all h2 i x (by simpa using hx)
theorem asRow_eq {r : RV} {ds : List PyData} (h : asRow r = some ds) : r = .ol ds := by
  unfold asRow at h
  split at h
  · cases h; rfl
  · cases h
theorem row_eq {a : Ex} {r : RV} {ds : List PyData} (h : (if isVar a then none else asRow r) = some ds) : isVar a = false ∧ r = .ol ds := by
  split at h
  · cases h
  · exact ⟨(Bool.not_eq_true _).mp ‹_›, asRow_eq h⟩
/-- a new list, as a view of it shows -/
theorem view_row {F1 H1 : Hp} {v : V} {ds : List PyData} (w : View K F1 H1 v (.ol ds)) (n : New (.ol ds) v H H1) : ∃ q vs, v = .ref q ∧ H q = none ∧ F1 q = none ∧ H1 q = some (.lst vs) ∧ RpAll K F1 vs ds := by
  cases w with
  | own f e q =>
    cases q with
    | lst ra =>
      exact ⟨_, _, rfl, n _ rfl, f, e, ra⟩
theorem compD_ok {a : Ex} {tg : Tg} {it : Itr} {own : List Nat} {items : List PyData} {dss : List (List PyData)} {Q : VK} (ht : tgIn tg own = true) (ok : EnvOk K F H env σ) (h1 : evi c env it = some items)
    (h2 : compD (fun x => (bindT tg (wipeE env own) x).bind fun env' => (ev c env' a).bind fun r => if isVar a then none else asRow r) items = some dss) (hl : items.length ≤ LIM)
    (k : ∀ v F' H', Ext F H F' H' → View K F' H' v (.on dss) → (∀ p, Foot H' (.on dss) v p → H p = none) → Q v H') : tLc (tI K c it) (gS K tg) (tTs K c .emp) (tE K c a) own σ H Q := by
  refine ⟨F, env, items, ok, h1, fun J F1 H1 x1 wd _ D nD => ?_⟩
  let f : PyData → Option (List PyData) := fun x => (bindT tg (wipeE env own) x).bind fun env' => (ev c env' a).bind fun r => if isVar a then none else asRow r
  have h2 : compD f items = some dss := h2
  let Pv : Nat → Hp → Prop := fun i Hc => ∃ Fc qs es, Ext F1 H1 Fc Hc ∧ Hc D = some (.lst (qs.map V.ref)) ∧ Fc D = none ∧ InAll K Fc Hc qs es ∧ qs.Nodup ∧ (∀ q ∈ qs, q ≠ D ∧ H1 q = none) ∧ compD f (items.take i) = some es ∧ es.length = i
  refine ⟨fun i m Hc => m = items.length - i ∧ i ≤ items.length ∧ Pv i Hc, ⟨items.length, by simp, Nat.zero_le _, F1, [], [], Ext.lay0 x1.sub nD, upd_same, x1.sub.free nD, .nil, List.nodup_nil, by simp, rfl, rfl⟩, ?_⟩
  rintro i m Hc ⟨rfl, hi, Fc, qs, es, xc, hD, fD, ia, nd, aw, hc, hes⟩
  obtain ⟨w1, w2⟩ := wd Hc Fc xc.same xc.fr xc.sub
  by_cases hlt : i < items.length
  · obtain ⟨go, yl⟩ := w2 i items[i] (by simp [hlt])
    refine .inr ⟨go, Pv (i + 1), fun H' p => ⟨items.length - (i + 1), by omega, rfl, hlt, p⟩, fun x H' y => ?_⟩
    obtain ⟨F3, x3, rp⟩ := yl x H' y
    obtain ⟨o, ho⟩ := compD_all h2 i items[i] (by simp [hlt])
    have hsn := compD_snoc ho hc
    have tk : items.take (i + 1) = items.take i ++ [items[i]] := by rw [List.take_add_one, List.getElem?_eq_getElem hlt]; rfl
    rw [← tk] at hsn
    obtain ⟨env', b1, ho⟩ := bnd (show (bindT tg (wipeE env own) items[i]).bind _ = some o from ho)
    obtain ⟨r', b3, ho⟩ := bnd ho
    obtain ⟨hv, rfl⟩ := row_eq ho
    refine ⟨F3, wipeE env own, items[i], env', (((ok.ext x1).ext xc).ext x3).wipe own, rp, b1, fun σ' hw ok' _ => ⟨by rw [hw own ht]; exact wipe_idem (fun _ h => h), F3, env', true, ok', rfl, fun F4 H4 x4 => ?_⟩⟩
    have D4 : H4 D = some (.lst (qs.map V.ref)) := x4.same _ _ (x3.same _ _ hD)
    have f4 : F4 D = none := x4.out (x3.out fD hD) (x3.same _ _ hD)
    refine iteT ⟨F4, env', .ol o, ok'.ext x4, b3, fun v F5 H5 x5 w5 n5 => ?_⟩
    obtain ⟨q, vs, rfl, hq, fq, e5, ra⟩ := view_row w5 (n5 hv)
    have D5 : H5 D = some (.lst (qs.map V.ref)) := x5.same _ _ D4
    have f5 : F5 D = none := x5.out f4 D4
    have hqD : q ≠ D := fun z => by subst z; rw [D4] at hq; cases hq
    have ia5 := ((ia.ext x3).ext x4).ext x5
    have hqs : q ∉ qs := fun z => by
      obtain ⟨_, vs', y⟩ := ((ia.ext x3).ext x4).mem q z
      rw [hq] at y; cases y
    refine ⟨qs.map V.ref, D5, ?_, F5, qs ++ [q], es ++ [o], ?_, by rw [List.map_append]; exact upd_same, f5, ?_, nodup_snoc nd hqs, fun b hb => ?_, hsn, by rw [List.length_append, hes]; rfl⟩
    · rw [List.length_map, ia.len, hes]
      exact LIM_lt (by omega)
    · exact (xc.trans (x3.trans (x4.trans x5))).write nD f5
    · refine (ia5.other fun b hb => (aw b hb).1).snoc fq ?_ ra
      rw [upd_ne hqD]
      exact e5
    · rcases List.mem_append.mp hb with hb | hb
      · exact aw b hb
      · rw [List.mem_singleton] at hb
        subst hb
        exact ⟨hqD, (xc.same.trans (x3.same.trans x4.same)).free hq⟩
  · have e : i = items.length := by omega
    subst e
    rw [List.take_length, h2] at hc
    cases hc
    refine .inl ⟨w1, k _ Fc Hc (x1.trans xc) (.own fD hD (.on ia nd fun b hb => (aw b hb).1)) fun p hp => ?_⟩
    rcases hp with hp | ⟨q, vs, e1, e2, e3⟩
    · cases hp
      exact x1.same.free nD
    · cases e1
      rw [hD] at e2
      cases e2
      obtain ⟨b, hb, e4⟩ := List.mem_map.mp e3
      cases e4
      exact x1.same.free (aw _ hb).2
/-- the layer's own answer to a comprehension that is stored -/
theorem ps_asgLc {X : Cx} {s : Sx} (C : CO X s c) {i : Nat} {x : Str} {a : Ex} {tg : Tg} {it : Itr} {own : List Nat} {v : Expr} {px pos : Pos} (hi : s.N[i]? = some x) (hl : s.loc x = true) (h : chkE (.comp a tg it .emp own) s v = true) :
    tgIn tg own = true ∧ PS X (.Assign [.Name x px] v pos) (tAsg (tLc (tI X.K c it) (gS X.K tg) (tTs X.K c .emp) (tE X.K c a) own) (gName i)) := by
  have hi' : X.N[i]? = some x := by rw [C.N]; exact hi
  obtain ⟨l1, l2⟩ := C.locv hl
  unfold chkE at h
  split at h
  · rename_i elt tg' iter ifs kk scope p
    simp only [Bool.and_eq_true, decide_eq_true_eq] at h
    obtain ⟨⟨⟨⟨⟨⟨h0, h1⟩, h2⟩, h3⟩, h4⟩, h5⟩, h6⟩ := h
    subst h0
    refine ⟨h2, ?_⟩
    have sw : ∃ b, swapsWith (.ListComp elt [⟨tg', iter, ifs, 0⟩] scope p) (some (.Name x px)) pos.line X.env = pure b ∧ (b = true → X.env.scope.names.lookup x = some .local) := by
      refine ⟨_, rfl, fun e => ?_⟩
      simp only [Bool.and_eq_true, beq_iff_eq] at e
      exact e.1.1.2
    obtain ⟨b0, sw, hb⟩ := sw
    cases b0 with
    | false =>
      have P := pe_lc (pos := p) (g := gS X.K tg) (tt := tTs X.K c .emp) (te := tE X.K c a) C.calm C.nd (sndI it C h3) (blkOk_by (own := ownN s own) (by rw [C.N, C.sc]; exact h1)) (fun s1 H A cl fp => pg_tg C.blk h4) (fun s1 H A cl fp => sndTs .emp C.blk h6) (fun s1 H A cl fp => (sndP a C.blk h5).pe) (set_of (chkI_plain h3) _)
      rw [ownN_map] at P
      exact ps_set C.nd hi' l1 P sw l2
    | true =>
      have P := ps_setLc (g := gS X.K tg) (tt := tTs X.K c .emp) (te := tE X.K c a) C.calm C.nd hi' (hb rfl) sw (sndI it C h3) (blkOk_by (own := ownN s own) (by rw [C.N, C.sc]; exact h1)) (fun s1 H A cl fp => pg_tg C.blk h4) (fun s1 H A cl fp => sndTs .emp C.blk h6) (fun s1 H A cl fp => (sndP a C.blk h5).pe) (set_of (chkI_plain h3) _)
      rw [ownN_map] at P
      exact P
  · cases h
/-- ownership is taken up again -/
theorem StOk.add (st : StOk K F0 H0 F H env σ) {i : Nat} {v : V} {r : RV} (hi : env[i]? = some none) (hv : σ[i]? = some (some v)) (w : View K F H v r) (n : ∀ p, Foot H r v p → H0 p = none ∧ ∀ k, ¬ OwnAt H env σ k p) : StOk K F0 H0 F H (env.set i (some r)) σ := by
  have hlt : i < env.length := (List.getElem?_eq_some_iff.mp hi).1
  have key : ∀ j p, OwnAt H (env.set i (some r)) σ j p → (j = i ∧ Foot H r v p) ∨ OwnAt H env σ j p := fun j p ⟨r', u, h1, h2, h3⟩ => by
    by_cases e : i = j
    · subst e
      rw [List.getElem?_set_self hlt] at h1
      cases h1
      rw [hv] at h2
      cases h2
      exact .inl ⟨rfl, h3⟩
    · rw [List.getElem?_set_ne e] at h1
      exact .inr ⟨r', u, h1, h2, h3⟩
  refine ⟨st.ext, ⟨st.ok.sub, by rw [List.length_set]; exact st.ok.len, fun j r' hj => ?_⟩, fun j p h => ?_, fun j k p h1 h2 => ?_⟩
  · by_cases e : i = j
    · subst e
      rw [List.getElem?_set_self hlt] at hj
      cases hj
      exact ⟨v, hv, w⟩
    · rw [List.getElem?_set_ne e] at hj
      exact st.ok.at_ j r' hj
  · rcases key j p h with ⟨_, z⟩ | z
    · exact (n p z).1
    · exact st.own j p z
  · rcases key j p h1 with ⟨e1, z1⟩ | z1
    · rcases key k p h2 with ⟨e2, z2⟩ | z2
      · rw [e1, e2]
      · exact absurd z2 ((n p z1).2 k)
    · rcases key k p h2 with ⟨e2, z2⟩ | z2
      · exact absurd z1 ((n p z2).2 j)
      · exact st.sep j k p z1 z2
/-- a name that the form has forgotten is stored -/
theorem StOk.sto (st : StOk K F0 H0 F H env σ) {j : Nat} (hj : env[j]? = some none) (x : Option V) : StOk K F0 H0 F H env (σ.set j x) ∧ ∀ k p, OwnAt H env (σ.set j x) k p ↔ OwnAt H env σ k p := by
  have ne : ∀ k r, env[k]? = some (some r) → j ≠ k := fun k r h e => by subst e; rw [hj] at h; cases h
  have key : ∀ k p, OwnAt H env (σ.set j x) k p ↔ OwnAt H env σ k p := fun k p =>
    ⟨fun ⟨r, u, h1, h2, h3⟩ => ⟨r, u, h1, by rw [List.getElem?_set_ne (ne k r h1)] at h2; exact h2, h3⟩,
     fun ⟨r, u, h1, h2, h3⟩ => ⟨r, u, h1, by rw [List.getElem?_set_ne (ne k r h1)]; exact h2, h3⟩⟩
  exact ⟨⟨st.ext, ⟨st.ok.sub, by rw [List.length_set]; exact st.ok.len, fun k r h => by rw [List.getElem?_set_ne (ne k r h)]; exact st.ok.at_ k r h⟩,
    fun k p h => st.own k p ((key k p).mp h), fun k l p h1 h2 => st.sep k l p ((key k p).mp h1) ((key l p).mp h2)⟩, key⟩
open Classical in
/-- the heap without what env owns -/
noncomputable def restH (H : Hp) (env : Ev) (σ : L2.St) : Hp := fun b => if ∃ k, OwnAt H env σ k b then none else H b
theorem restH_own {b : Addr} {k : Nat} (h : OwnAt H env σ k b) : restH H env σ b = none := by
  unfold restH
  rw [if_pos ⟨k, h⟩]
theorem restH_ne {b : Addr} (h : ∀ k, ¬ OwnAt H env σ k b) : restH H env σ b = H b := by
  unfold restH
  rw [if_neg (fun ⟨k, z⟩ => h k z)]
theorem restH_sub : Same (restH H env σ) H := fun b o e => by
  unfold restH at e
  split at e
  · cases e
  · exact e
/-- a step is looked at from a base that knows what stands -/
theorem StOk.under (st : StOk K F0 H0 F H env σ) : StOk K F (restH H env σ) F H env σ := ⟨⟨Same.refl _, st.ok.sub, restH_sub, fun _ _ e => .inl e⟩, st.ok, fun i p h => restH_own h, st.sep⟩
theorem StOk.lift (st : StOk K F0 H0 F H env σ) {F' H' : Hp} {env' : Ev} {σ' : L2.St} (s2 : StOk K F (restH H env σ) F' H' env' σ') : StOk K F0 H0 F' H' env' σ' := by
  have base : ∀ b, restH H env σ b = none → H0 b = none := fun b e => by
    classical
    by_cases z : ∃ k, OwnAt H env σ k b
    · obtain ⟨k, z⟩ := z
      exact st.own k b z
    · rw [restH_ne fun k y => z ⟨k, y⟩] at e
      exact st.ext.same.free e
  refine ⟨⟨st.ext.fr.trans s2.ext.fr, s2.ext.sub, fun b o e => ?_, fun b o e => ?_⟩, s2.ok, fun i p h => base p (s2.own i p h), s2.sep⟩
  · refine s2.ext.same b o ?_
    rw [restH_ne fun k y => by rw [st.own k b y] at e; cases e]
    exact st.ext.same b o e
  · rcases s2.ext.new b o e with z | z
    · exact st.ext.new b o z
    · exact .inr (base b z)
end
end Mn

namespace Mn
open PySem PySem.Spec PyProof.Rows L2
section
variable {X : Cx} {s : Sx} {c : Cl}
/-- a name's reading where an owned list stands there -/
theorem var_i (C : CO X s c) {i : Nat} {x : Str} {px : Pos} (hi : s.N[i]? = some x) (hv : s.vis x = true) (hk : okN x = true) : PE X (.Name x px) (tVar i) := pe_var (by rw [C.N]; exact hi) (C.vis hv) (okN1 hk).1 (okN1 hk).2
theorem name_base {x nm : Str} {px : Pos} {env : Env} : attributeBase (.Name x px) nm env (eval (.Name x px) env) = eval (.Name x px) env := rfl
theorem dataAt {K : PySem.W.Frag} {F0 H0 F H : Hp} {env : Ev} {σ : L2.St} {a : Ex} {r : RV} {d : PyData} {Q : VK} (st : StOk K F0 H0 F H env σ) (h : ev c env a = some r) (ho : ownD a r = some d)
    (k : ∀ v F' H', Ext F H F' H' → Rp K F' v d → Q v H') : tE K c a σ H Q :=
  ⟨F, env, r, st.ok, h, fun v F1 H1 x1 w1 n1 => by
    obtain ⟨_, F2, x2, w2⟩ := own_rp ho x1 w1 n1
    exact k v F2 H1 x2 w2⟩
theorem lt_len {K : PySem.W.Frag} {F H : Hp} {env : Ev} {σ : L2.St} {x : Str} {i : Nat} {pins : List (Addr × Obj)} {s' : Shared} (C : CO X s c) (ok : EnvOk K F H env σ) (I : Inv X pins σ H s') (hi : s.N[i]? = some x) : i < env.length := by
  rw [ok.len, I.len, C.N]
  exact (List.getElem?_eq_some_iff.mp hi).1
/-- statements know how many slots there are -/
theorem PS.len {st : Stmt} {t t' : TS} (h : PS X st t) (f : ∀ D σ H, σ.length = X.N.length → t' D σ H → t D σ H) : PS X st t' := ⟨fun pins s σ H D I q => h.run pins s σ H D I (f D σ H I.len q)⟩
theorem set_len {K : PySem.W.Frag} {F0 H0 F H : Hp} {env : Ev} {σ : L2.St} (st : StOk K F0 H0 F H env σ) {i : Nat} {x : Str} (C : CO X s c) (hi : s.N[i]? = some x) (hN : σ.length = X.N.length) : i < env.length := by
  rw [st.ok.len, hN, C.N]
  exact (List.getElem?_eq_some_iff.mp hi).1
theorem swap_call {f : Expr} {xs : List Expr} {ks : List Keyword} {p : Pos} (t : Option Expr) (l : Nat) (env : Env) : swapsWith (.Call f xs ks p) t l env = pure false := rfl
theorem swap_sub {v o ix : Expr} {p : Pos} (l : Nat) (env : Env) : swapsWithSole [.Subscript o ix p] v l env = pure false := by
  show swapsWith v (some (.Subscript o ix p)) l env = pure false
  cases v <;> rfl
theorem swap_tup {v : Expr} {ts : List Expr} {k : Nat} {p : Pos} (l : Nat) (env : Env) : swapsWithSole [.Tuple ts k p] v l env = pure false := by
  show swapsWith v (some (.Tuple ts k p)) l env = pure false
  cases v <;> rfl
theorem stores_sub {v o ix : Expr} {p : Pos} (env : Env) : swappedStores [.Subscript o ix p] v env = pure none := rfl
theorem stores_tup {v : Expr} {ts : List Expr} {k : Nat} {p : Pos} (h : isTup v = false) (env : Env) : swappedStores [.Tuple ts k p] v env = pure none := by
  cases v with
  | Tuple _ _ _ => cases h
  | _ => rfl
theorem asg_sub {o ix : Expr} {p : Pos} (h : plainX ix = true) (env : Env) (v : Value) : assign (.Subscript o ix p) env v = (do
      let ov ← holding [v] (eval o env)
      let iv ← holding [v, ov] (eval ix env)
      standAt p
      holding [v, ov, iv] (setItem ov iv v)
      release [v, ov, iv] []) := by
  cases ix with
  | Slice _ _ _ _ => cases h
  | _ => rfl
theorem nodup_at : ∀ {qs : List Addr}, qs.Nodup → ∀ {i j : Nat} {q : Addr}, qs[i]? = some q → qs[j]? = some q → i = j
  | [], _, i, j, q, h, _ => by simp at h
  | a :: qs, nd, 0, 0, q, _, _ => rfl
  | a :: qs, nd, 0, j + 1, q, h1, h2 => by
    simp at h1; subst h1
    exact absurd (List.mem_of_getElem? (by simpa using h2)) (List.nodup_cons.mp nd).1
  | a :: qs, nd, i + 1, 0, q, h1, h2 => by
    simp at h2; subst h2
    exact absurd (List.mem_of_getElem? (by simpa using h1)) (List.nodup_cons.mp nd).1
  | a :: qs, nd, i + 1, j + 1, q, h1, h2 => congrArg (· + 1) (nodup_at (List.nodup_cons.mp nd).2 (by simpa using h1) (by simpa using h2))
theorem ixN_nat {n : Nat} {k : Int} (h0 : 0 ≤ k) (h : k < n) : ixN n k = some k.toNat := by
  unfold ixN
  rw [if_pos h0, if_pos h]
structure COS (X : Cx) (s : Sx) (c : Cl) (W : XK) : Prop extends CO X s c where
  tk : Takes X (fun cv dd _ H => W cv dd H)
  po : PassesOwn (model X.prog X.w) X.A X.env X.xe
  stk : X.stack = X.env :: X.outer
  frm : X.env.frame = some X.env.locals
theorem CO.other {X : Cx} {s : Sx} {c : Cl} (C : CO X s c) (pn : List (Addr × Obj)) (xe : Value → Shared → Prop) : CO (X.tr pn xe) s c :=
  ⟨C.sc, C.N, C.nd, C.fn, C.calm, C.un, C.bn, fun f x h => let ⟨np, h1, h2⟩ := C.fns f x h; ⟨np, h1, ⟨h2.ex⟩⟩, C.gls, fun f x h => let ⟨np, h1, h2⟩ := C.xfn f x h; ⟨np, h1, ⟨h2.ex⟩⟩, C.xc, C.x1, C.gd⟩
theorem COS.nox {X : Cx} {s : Sx} {c : Cl} {W : XK} (C : COS X s c W) : COS X.nox s c (fun _ _ _ => False) where
  toCO := C.toCO.other X.pn _
  tk := fun _ _ ⟨_, _, _, _, _, _, _, _, _, _, _, _, _, _, _, _, h⟩ => h.elim
  po := PassesOwn.never
  stk := C.stk
  frm := C.frm
theorem forL_step {K : PySem.W.Frag} {W : XK} {tg : Tg} {it : Mn.Itr} {b : Sms} {σ : L2.St} {H : Hp} {D : Ends} (h : tS K W c (.for_ tg it b) D σ H) : tFor (tI K c it) (gS K tg) (tSs K W c b) D σ H := by
  obtain ⟨F0, H0, F, env, o, st, h, post⟩ := h
  have h : (if borI c env it = true then none else (evi c env it).bind fun items => forL (fun env x => (bindT tg env x).bind fun env' => exSs c b env') items env) = some o := by simpa only [exS] using h
  by_cases hb : borI c env it = true
  · rw [if_pos hb] at h; cases h
  rw [if_neg hb] at h
  obtain ⟨items, h1, h2⟩ := bnd h
  refine ⟨F, env, items, st.ok, h1, fun J F1 H1 x1 wd wf => ?_⟩
  obtain ⟨F2, x2, wd⟩ := wf (by simpa using hb)
  have st2 := st.step x2
  let f : Ev → PyData → Option Out := fun env x => (bindT tg env x).bind fun env' => exSs c b env'
  have h2 : forL f items env = some o := h2
  let Pv : Nat → L2.St → Hp → Prop := fun i σ' H' => ∃ F' env', StOk K F2 H0 F' H' env' σ' ∧ forL f (items.drop i) env' = some o
  refine ⟨fun i m σ' H' => m = items.length - i ∧ i ≤ items.length ∧ Pv i σ' H', ⟨items.length, by simp, Nat.zero_le _, F2, env, st2.based, h2⟩, ?_⟩
  rintro i m σ' H' ⟨rfl, hi, F', env', st', hf⟩
  obtain ⟨w1, w2⟩ := wd H' F' (st'.ext.fr.trans st'.ext.sub) st'.ext.fr st'.ext.sub
  by_cases hlt : i < items.length
  · obtain ⟨go, yl⟩ := w2 i items[i] (by simp [hlt])
    have hd : items.drop i = items[i] :: items.drop (i + 1) := List.drop_eq_getElem_cons hlt
    rw [hd] at hf
    obtain ⟨o', hf1, hf2⟩ := bnd (show (f env' items[i]).bind _ = some o from hf)
    obtain ⟨env2, hf3, hf4⟩ := bnd (show (bindT tg env' items[i]).bind _ = some o' from hf1)
    refine .inr ⟨go, Pv (i + 1), fun σ2 H2 p => ⟨items.length - (i + 1), by omega, rfl, hlt, p⟩, fun x H3 y => ?_⟩
    obtain ⟨F3, x3, rp⟩ := yl x H3 y
    have st3 := st'.step x3
    refine ⟨F3, env', items[i], env2, st3.ok, rp, hf3, fun σ2 _ ok2 ho => ?_⟩
    refine ⟨F2, H0, F3, env2, o', ⟨st3.ext, ok2, fun j p q => st3.own j p (ho j p q), fun j k p q1 q2 => st3.sep j k p (ho j p q1) (ho k p q2)⟩, hf4, ?_⟩
    cases o' with
    | nx e2 => exact fun F4 σ4 H4 s4 => ⟨F4, e2, s4, hf2⟩
    | ct e2 => exact fun F4 σ4 H4 s4 => ⟨F4, e2, s4, hf2⟩
    | bk e2 =>
      cases hf2
      exact fun F4 σ4 H4 s4 => post F4 σ4 H4 (s4.rebase st2.ext)
    | rt r =>
      cases hf2
      have up : ∀ {F4 H4}, Ext F2 H0 F4 H4 → Ext F0 H0 F4 H4 := fun x4 => ⟨st2.ext.fr.trans x4.fr, x4.sub, x4.same, fun b o e => (x4.new b o e).elim (fun q => st2.ext.new b o q) .inr⟩
      exact ⟨fun v F4 H4 x4 w n => post.1 v F4 H4 (up x4) w n, fun d e F4 H4 cv dd x4 q => post.2 d e F4 H4 cv dd (up x4) q⟩
  · have e : i = items.length := by omega
    subst e
    rw [List.drop_length] at hf
    cases hf
    exact .inl ⟨w1, post F' σ' H' (st'.rebase st2.ext)⟩
theorem whl_step {K : PySem.W.Frag} {W : XK} {t : Ex} {b : Sms} {σ : L2.St} {H : Hp} {D : Ends} (h : tS K W c (.whl t b) D σ H) : tWhile (tT K c t) (tSs K W c b) D σ H := by
  obtain ⟨F0, H0, F, env, o, st, h, post⟩ := h
  let tt : Ev → Option Bool := fun env => (ev c env t).bind asBool
  let f : Ev → Option Out := fun env => exSs c b env
  have h : whlL tt f FUEL env = some o := by simpa only [exS] using h
  let Pv : Nat → L2.St → Hp → Prop := fun m σ' H' => ∃ F' env', StOk K F0 H0 F' H' env' σ' ∧ whlL tt f m env' = some o
  refine ⟨Pv, ⟨FUEL, F, env, st, h⟩, ?_⟩
  rintro m σ' H' ⟨F', env', st', hf⟩
  cases m with
  | zero => cases hf
  | succ m =>
    obtain ⟨k, h1, h2⟩ := bnd (show (tt env').bind _ = some o from hf)
    obtain ⟨r, h3, h4⟩ := bnd (show (ev c env' t).bind asBool = some k from h1)
    obtain rfl := asBool_eq h4
    refine ⟨F', env', k, st'.ok, h3, fun F1 H1 x1 => ?_⟩
    cases k with
    | false =>
      cases h2
      exact iteF (post F1 σ' H1 (st'.step x1))
    | true =>
      obtain ⟨o', h5, h6⟩ := bnd (show (f env').bind _ = some o from h2)
      refine iteT ⟨Pv m, fun σ2 H2 p => ⟨m, Nat.lt_succ_self m, p⟩, F0, H0, F1, env', o', st'.step x1, h5, ?_⟩
      cases o' with
      | nx e2 => exact fun F4 σ4 H4 s4 => ⟨F4, e2, s4, h6⟩
      | ct e2 => exact fun F4 σ4 H4 s4 => ⟨F4, e2, s4, h6⟩
      | bk e2 => cases h6; exact post
      | rt r => cases h6; exact post

end
def tR (K : PySem.W.Frag) (c : Cl) (j : Nat) (b : Rbs) : TS := fun D σ H => ∃ F0 H0 F env env', StOk K F0 H0 F H env σ ∧ exR c j b env = some env' ∧ ∀ F' H', StOk K F0 H0 F' H' env' σ → D.nx σ H'
theorem sndR : ∀ (b : Rbs) {X : Cx} {s : Sx} {c : Cl} {j : Nat} {W : XK}, COS X s c W → ∀ {st : List Stmt}, chkR j b s st = true → PSs X st (tR X.K c j b)
  | .nil, X, s, c, j, W, C, st, h => by
    unfold chkR at h
    split at h
    · refine PSs.imp pss_nil fun D σ H ⟨F0, H0, F, env, env', st, h, post⟩ => ?_
      cases h
      exact post F H st
    · cases h
  | .st k e r, X, s, c, j, W, C, st, h => by
    unfold chkR at h
    split at h
    · simp only [Bool.and_eq_true, decide_eq_true_eq] at h
      obtain ⟨⟨⟨⟨⟨h1, h2⟩, h3⟩, h4⟩, h5⟩, h6⟩ := h
      have hp := chk_plain h4
      refine PSs.imp (pss_cons (ps_asg (sndP e C.toCO h5).pe (pg_sub (var_i C.toCO h1 h2 h3) (sndP k C.toCO h4).pe set_list (fun v => asg_sub hp _ v)) (swap_sub _ _) (stores_sub _) rfl) (sndR r C h6)) fun D σ H ⟨F0, H0, F, env, env', st, h, post⟩ => ?_
      obtain ⟨r0, g2, h⟩ := bnd (show (ev c env e).bind _ = some env' from h)
      obtain ⟨d, g3, h⟩ := bnd h
      obtain ⟨ds, g1, h⟩ := bnd h
      obtain ⟨n, g4, h⟩ := bnd h
      obtain ⟨r', g4, g5⟩ := bnd g4
      obtain rfl := asInt_eq g5
      obtain ⟨m, g6, h⟩ := bnd h
      obtain ⟨p, vs, oa, hσ, hF, hH, ra⟩ := st.ol g1
      refine dataAt st g2 g3 fun v F1 H1 x1 rp => ?_
      have st1 := st.step x1
      refine ⟨.ref p, hσ, F1, env, _, st1.ok, g4, fun u F2 H2 x2 w2 n2 => ?_⟩
      have st2 := st1.step x2
      have hH2 := x2.same _ _ (x1.same _ _ hH)
      refine ⟨p, vs, n, m, rfl, by rw [w2.int], hH2, by rw [ra.length]; exact g6, ?_⟩
      exact ⟨F0, H0, F2, _, env', st2.upd oa rfl rfl hσ rfl (.lst ((ra.mono (x1.fr.trans x2.fr)).set m (rp.mono x2.fr))), h, post⟩
    · cases h
  | .ifs t a r, X, s, c, j, W, C, st, h => by
    unfold chkR at h
    split at h
    · simp only [Bool.and_eq_true] at h
      obtain ⟨⟨h1, h2⟩, h3⟩ := h
      refine PSs.imp (pss_cons (ps_if (sndP t C.toCO h1).pt (sndR a C h2) pss_nil) (sndR r C h3)) fun D σ H ⟨F0, H0, F, env, env', st, h, post⟩ => ?_
      obtain ⟨k, g1, h⟩ := bnd (show ((ev c env t).bind asBool).bind _ = some env' from h)
      obtain ⟨r0, g1, g2⟩ := bnd g1
      obtain rfl := asBool_eq g2
      refine ⟨F, env, k, st.ok, g1, fun F1 H1 x1 => ?_⟩
      cases k with
      | true =>
        obtain ⟨env2, g3, g4⟩ := bnd h
        exact iteT ⟨F0, H0, F1, env, env2, st.step x1, g3, fun F2 H2 s2 => ⟨F0, H0, F2, env2, env', s2, g4, post⟩⟩
      | false => exact iteF ⟨F0, H0, F1, env, env', st.step x1, h, post⟩
    · cases h
theorem exR_env {c : Cl} {j : Nat} : ∀ (b : Rbs) {env env' : Ev}, exR c j b env = some env' → env'.set j none = env.set j none
  | .nil, env, env', h => by cases h; rfl
  | .st k e r, env, env', h => by
    obtain ⟨r0, g2, h⟩ := bnd (show (ev c env e).bind _ = some env' from h)
    obtain ⟨d, g3, h⟩ := bnd h
    obtain ⟨ds, g1, h⟩ := bnd h
    obtain ⟨n, g4, h⟩ := bnd h
    obtain ⟨m, g6, h⟩ := bnd h
    rw [exR_env r h, List.set_set]
  | .ifs t a r, env, env', h => by
    obtain ⟨k, g1, h⟩ := bnd (show ((ev c env t).bind asBool).bind _ = some env' from h)
    cases k with
    | true =>
      obtain ⟨env2, g3, g4⟩ := bnd h
      rw [exR_env r g4, exR_env a g3]
    | false => exact exR_env r h
theorem rowsD_at {f : List PyData → Option (List PyData)} : ∀ {dss dss' : List (List PyData)}, rowsD f dss = some dss' → dss'.length = dss.length ∧ ∀ (k : Nat) es, dss[k]? = some es → ∃ es', dss'[k]? = some es' ∧ f es = some es'
  | [], _, h => by cases h; exact ⟨rfl, fun k es h => by simp at h⟩
  | d :: r, _, h => by
    obtain ⟨y, h1, h⟩ := bnd (show (f d).bind _ = some _ from h)
    obtain ⟨ys, h2, h⟩ := bnd h
    cases h
    obtain ⟨e1, e2⟩ := rowsD_at h2
    refine ⟨by simp [e1], fun k es hk => ?_⟩
    cases k with
    | zero => simp at hk; subst hk; exact ⟨y, rfl, h1⟩
    | succ k => simpa using e2 k es (by simpa using hk)
theorem forR_step {K : PySem.W.Frag} {W : XK} {c : Cl} {j i : Nat} {b : Rbs} {σ : L2.St} {H : Hp} {D : Ends} (hjl : j < σ.length) (h : tS K W c (.forR j i b) D σ H) : tFor (iList K (tVar i)) (gName j) (tR K c j b) D σ H := by
  obtain ⟨F0, H0, F, env, o, st, h, post⟩ := h
  have h : (if i = j then none else (onAt env i).bind fun dss => (rowsD (fun es => (exR c j b ((env.set i none).set j (some (.ol es)))).bind fun env' => olAt env' j) dss).bind fun dss' => some (Out.nx ((env.set i (some (.on dss'))).set j none))) = some o := by simpa only [exS] using h
  by_cases hij : i = j
  · rw [if_pos hij] at h; cases h
  rw [if_neg hij] at h
  obtain ⟨dss, g1, h⟩ := bnd h
  obtain ⟨dss', g2, h⟩ := bnd h
  cases h
  obtain ⟨p0, qs, h1, h2, f0, e0, ia, nd, np⟩ := st.onAt g1
  have hil : i < env.length := (List.getElem?_eq_some_iff.mp h1).1
  have hjl' : j < env.length := by rw [st.ok.len]; exact hjl
  let env1 : Ev := (env.set i none).set j none
  have st1 : StOk K F0 H0 F H env1 σ := (st.del i).del j
  have hi1 : env1[i]? = some none := by
    show ((env.set i none).set j none)[i]? = _
    rw [List.getElem?_set_ne (fun e => hij e.symm), List.getElem?_set_self hil]
  have hj1 : env1[j]? = some none := by
    show ((env.set i none).set j none)[j]? = _
    rw [List.getElem?_set_self (by rw [List.length_set]; exact hjl')]
  have back : ∀ k r, env1[k]? = some (some r) → env[k]? = some (some r) ∧ k ≠ i ∧ k ≠ j := fun k r hk => by
    have a1 : k ≠ i := fun e => by subst e; rw [hi1] at hk; cases hk
    have a2 : k ≠ j := fun e => by subst e; rw [hj1] at hk; cases hk
    refine ⟨?_, a1, a2⟩
    have hk : ((env.set i none).set j none)[k]? = some (some r) := hk
    rw [List.getElem?_set_ne (fun e => a2 e.symm), List.getElem?_set_ne (fun e => a1 e.symm)] at hk
    exact hk
  have own0 : ∀ a, (a = p0 ∨ a ∈ qs) → OwnAt H env σ i a := fun a ha => by
    refine ⟨_, _, h1, h2, ?_⟩
    rcases ha with rfl | ha
    · exact .inl rfl
    · exact .inr ⟨p0, _, rfl, e0, List.mem_map.mpr ⟨a, ha, rfl⟩⟩
  have nob : ∀ a, (a = p0 ∨ a ∈ qs) → H0 a = none ∧ ∀ k, ¬ OwnAt H env1 σ k a := fun a ha => ⟨st.own i a (own0 a ha), fun k ⟨r, u, z1, z2, z3⟩ => by
    obtain ⟨y1, y2, y3⟩ := back k r z1
    exact y2 (st.sep k i a ⟨r, u, y1, z2, z3⟩ (own0 a ha))⟩
  obtain ⟨rl, rf⟩ := rowsD_at g2
  let Pv : Nat → L2.St → Hp → Prop := fun t σ' H' => ∃ F', StOk K F0 H0 F' H' env1 σ' ∧ (∀ k, k ≠ j → σ'[k]? = σ[k]?) ∧ F' p0 = none ∧ H' p0 = some (.lst (qs.map V.ref)) ∧ InAll K F' H' qs (dss'.take t ++ dss.drop t) ∧ (∀ a, (a = p0 ∨ a ∈ qs) → ∀ k, ¬ OwnAt H' env1 σ' k a)
  refine ⟨.ref p0, h2, p0, rfl, ⟨_, SqL.of e0⟩, fun t m σ' H' => m = dss.length - t ∧ t ≤ dss.length ∧ Pv t σ' H', ⟨dss.length, by simp, Nat.zero_le _, F, st1, fun _ _ => rfl, f0, e0, by simpa using ia, fun a ha => (nob a ha).2⟩, ?_⟩
  rintro t m σ' H' ⟨rfl, ht, F', s', hσ, f', e', ia', no'⟩
  by_cases hlt : t < dss.length
  · have hq : t < qs.length := by rw [ia.len]; exact hlt
    have hmem : qs[t] ∈ qs := List.getElem_mem hq
    refine .inr ⟨⟨qs.map V.ref, .ref qs[t], SqL.of e', by simp [hq]⟩, Pv (t + 1), fun σ2 H2 p => ⟨dss.length - (t + 1), by omega, rfl, hlt, p⟩, ?_⟩
    rintro x H3 ⟨rfl, hx⟩
    have hx := hx _ (SqL.of e')
    rw [List.getElem?_map, List.getElem?_eq_getElem hq] at hx
    obtain rfl : V.ref qs[t] = x := Option.some.inj hx
    obtain ⟨s2, ow⟩ := s'.sto hj1 (some (.ref qs[t]))
    have hjs : j < σ'.length := by rw [← s'.ok.len]; show j < ((env.set i none).set j none).length; rw [List.length_set, List.length_set]; exact hjl'
    have hd : (dss'.take t ++ dss.drop t)[t]? = some dss[t] := by
      rw [List.getElem?_append_right (by rw [List.length_take]; omega), List.length_take, Nat.min_eq_left (by omega), Nat.sub_self, List.getElem?_drop, Nat.add_zero, List.getElem?_eq_getElem hlt]
    obtain ⟨fq, vs, eq, ra⟩ := ia'.nth2 (List.getElem?_eq_getElem hq) hd
    have hσj : (σ'.set j (some (.ref qs[t])))[j]? = some (some (.ref qs[t])) := List.getElem?_set_self hjs
    have s3 := s2.add (i := j) (v := .ref qs[t]) (r := .ol dss[t]) hj1 hσj (.own fq eq (.lst ra)) fun a ha => by
      cases ha
      exact ⟨(nob _ (.inr hmem)).1, fun k z => no' _ (.inr hmem) k ((ow k _).mp z)⟩
    obtain ⟨es', gd, gf⟩ := rf t dss[t] (List.getElem?_eq_getElem hlt)
    obtain ⟨env3, g3, g4⟩ := bnd gf
    have envEq : env1.set j (some (.ol dss[t])) = (env.set i none).set j (some (.ol dss[t])) := List.set_set ..
    refine ⟨F', restH _ _ _, F', _, env3, s3.under, by rw [envEq]; exact g3, fun F4 H4 s4 => ?_⟩
    have s5 := s3.lift s4
    have e3 := exR_env b g3
    have s6 : StOk K F0 H0 F4 H4 env1 (σ'.set j (some (.ref qs[t]))) := by
      have := s5.del j
      rw [e3, List.set_set] at this
      exact this
    have ol3 := olAt_eq g4
    obtain ⟨p3, vs3, z1, z2, z3, z4, z5⟩ := s5.ol g4
    rw [hσj] at z2
    cases z2
    -- what else stands there is as it was
    have fr : ∀ a, (a = p0 ∨ a ∈ qs) → a ≠ qs[t] → restH H3 (env1.set j (some (.ol dss[t]))) (σ'.set j (some (.ref qs[t]))) a = H3 a := fun a ha hne => restH_ne fun k ⟨r, u, y1, y2, y3⟩ => by
      by_cases hk : j = k
      · subst hk
        rw [List.getElem?_set_self (List.getElem?_eq_some_iff.mp hj1).1] at y1
        cases y1
        rw [hσj] at y2
        cases y2
        cases y3
        exact hne rfl
      · rw [List.getElem?_set_ne hk] at y1
        exact no' a ha k ((ow k a).mp ⟨r, u, y1, y2, y3⟩)
    have keep : ∀ a o, (a = p0 ∨ a ∈ qs) → a ≠ qs[t] → F' a = none → H3 a = some o → H4 a = some o ∧ F4 a = none := fun a o ha hne fa ea => by
      refine ⟨s4.ext.same a o (by rw [fr a ha hne]; exact ea), ?_⟩
      cases q : F4 a with
      | none => rfl
      | some u =>
        rcases s4.ext.new a u q with y | y
        · rw [fa] at y; cases y
        · rw [fr a ha hne, ea] at y; cases y
    have hp0 : p0 ≠ qs[t] := fun e => np _ hmem e.symm
    obtain ⟨k1, k2⟩ := keep p0 _ (.inl rfl) hp0 f' e'
    refine ⟨F4, s6, fun k hk => by rw [List.getElem?_set_ne (fun e => hk e.symm)]; exact hσ k hk, k2, k1, InAll.of ?_ fun k a ds ha hds => ?_, fun a ha k => ?_⟩
    · rw [List.length_append, List.length_take, List.length_drop, ia.len, rl]
      omega
    · have hkq : k < qs.length := (List.getElem?_eq_some_iff.mp ha).1
      have ham : a ∈ qs := List.mem_of_getElem? ha
      by_cases hkt : k = t
      · subst hkt
        rw [List.getElem?_eq_getElem hkq] at ha
        cases ha
        rw [List.getElem?_append_left (by rw [List.length_take, rl]; omega), List.getElem?_take_of_lt (Nat.lt_succ_self _), gd] at hds
        cases hds
        exact ⟨z3, vs3, z4, z5⟩
      · have hne : a ≠ qs[t] := fun e => by
          have e2 : qs[k] = a := Option.some.inj (by rw [← List.getElem?_eq_getElem hkq]; exact ha)
          exact hkt ((List.getElem?_inj hkq nd).mp (by rw [List.getElem?_eq_getElem hkq, List.getElem?_eq_getElem hq, e2.trans e]))
        have hds' : (dss'.take t ++ dss.drop t)[k]? = some ds := by
          rw [← hds]
          by_cases hkl : k < t
          · rw [List.getElem?_append_left (by rw [List.length_take, rl]; omega), List.getElem?_append_left (by rw [List.length_take, rl]; omega), List.getElem?_take_of_lt hkl, List.getElem?_take_of_lt (by omega)]
          · rw [List.getElem?_append_right (by rw [List.length_take]; omega), List.getElem?_append_right (by rw [List.length_take]; omega), List.length_take, List.length_take, Nat.min_eq_left (by omega), Nat.min_eq_left (by omega), List.getElem?_drop, List.getElem?_drop]
            congr 1
            omega
        obtain ⟨y1, ws, y2, y3⟩ := ia'.nth2 ha hds'
        obtain ⟨y4, y5⟩ := keep a _ (.inr ham) hne y1 y2
        exact ⟨y5, ws, y4, y3.mono s4.ext.fr⟩
    · intro z
      obtain ⟨r, u, y1, y2, y3⟩ := z
      have hkj := (back k r y1).2.2
      have hown : OwnAt H4 env3 (σ'.set j (some (.ref qs[t]))) k a := by
        refine ⟨r, u, ?_, y2, y3⟩
        have y1 : (((env.set i none).set j none))[k]? = some (some r) := y1
        rw [← List.set_set (b := none) (a := some (RV.ol dss[t])), ← e3, List.getElem?_set_ne (fun e => hkj e.symm)] at y1
        exact y1
      by_cases hne : a = qs[t]
      · subst hne
        exact hkj (s5.sep k j _ hown ⟨_, _, ol3, hσj, rfl⟩)
      · have y := s4.own k a hown
        rw [fr a ha hne] at y
        rcases ha with rfl | ha
        · rw [e'] at y; cases y
        · obtain ⟨_, ws, y4⟩ := ia'.mem a ha
          rw [y4] at y; cases y
  · have e : t = dss.length := by omega
    subst e
    have ia2 : InAll K F' H' qs dss' := by
      rw [List.drop_length, List.append_nil, List.take_of_length_le (by omega)] at ia'
      exact ia'
    refine .inl ⟨⟨qs.map V.ref, SqL.of e', by rw [List.length_map, ia.len]; exact Nat.le_refl _⟩, ?_⟩
    have hσi : σ'[i]? = some (some (.ref p0)) := by rw [hσ i hij]; exact h2
    have s7 := s'.add hi1 hσi (.own f' e' (.on ia2 nd np)) fun a ha => by
      have : a = p0 ∨ a ∈ qs := by
        rcases ha with ha | ⟨q, ws, y1, y2, y3⟩
        · cases ha; exact .inl rfl
        · cases y1
          rw [e'] at y2
          cases y2
          obtain ⟨a2, y4, y5⟩ := List.mem_map.mp y3
          cases y5
          exact .inr y4
      exact ⟨(nob a this).1, no' a this⟩
    refine post F' σ' H' ?_
    have e8 : env1.set i (some (.on dss')) = (env.set i (some (.on dss'))).set j none := by
      show ((env.set i none).set j none).set i _ = _
      rw [List.set_comm _ _ (fun e => hij e.symm), List.set_set]
    rw [← e8]
    exact s7
def tCX (K : PySem.W.Frag) (Wx : WX) (c : Cl) (f : Nat) (es : Exs) : TE := fun σ H Q => ∃ F env r, EnvOk K F H env σ ∧ evx c env f es = some r ∧ (∀ v F' H', Ext F H F' H' → View K F' H' v r → New r v H H' → Q v H') ∧
  ∀ d, r = .xr d → ∀ F' H' cv dd, Ext F H F' H' → Xat K F' cv dd d → Wx cv dd σ H'
section
variable {X : Cx} {s : Sx} {c : Cl} {Wx : WX}
theorem pe_callX (C : CO X s c) (tk : Takes X Wx) {f : Nat} {y : Str} {es : Exs} {xs : List Expr} {p pos : Pos} (h : chkX f es s y xs = true) : PE X (.Call (.Name y p) xs [] pos) (tCX X.K Wx c f es) := by
  unfold chkX at h
  simp only [Bool.and_eq_true, decide_eq_true_eq, Bool.not_eq_true'] at h
  obtain ⟨⟨⟨⟨h1, h2⟩, h3⟩, h4⟩, h5⟩ := h
  obtain ⟨np, hnp, ⟨k, fa, fd, ps, hr, hm, hkp, hb, hF⟩⟩ := C.xfn f y h1
  have hp := chks_plain h5
  cases xs with
  | nil => cases h4
  | cons e xs =>
    refine PE.imp (L2.pe_callS (E := WE Wx) hF hr (C.glo h2) hm hkp hb (fun σ => passAt tk σ) (sndEs es C h5).2.1 (okN1 h3).1 (star_of (hp e (by simp)) xs _) (plain_any fun x hx => hp x (List.mem_cons_of_mem _ hx))) fun σ H Q ⟨F, env, r, ok, g, k1, k2⟩ => ?_
    obtain ⟨⟨ds, b⟩, g1, g2⟩ := bnd (show (evb c env es).bind (fun p => if p.2 = true then none else c.callx f p.1) = some r from g)
    dsimp only at g2
    by_cases hb : b = true
    · rw [if_pos hb] at g2; cases g2
    rw [if_neg hb] at g2
    refine ⟨F, env, ds, b, ok, g1, fun vs F' H' xt w1 w2 => ?_⟩
    refine ⟨F', ds, r, xt.sub, w2 (by simpa using hb), hnp ds r g2, g2, fun v F2 H2 x2 w n => k1 v F2 H2 (xt.trans x2) w (new_back xt.same n), fun d e F2 H2 cv dd x2 q => k2 d e F2 H2 cv dd (xt.trans x2) q⟩
theorem noXr {K : PySem.W.Frag} {F H : Hp} {v : V} {d : PyData} (w : View K F H v (.xr d)) : False := by
  cases w with
  | own _ _ q => cases q
/-- the clause that keeps what it caught -/
theorem kept_st {K : PySem.W.Frag} {F0 H0 F H F' H' : Hp} {env : Ev} {σ : L2.St} (st : StOk K F0 H0 F H env σ) (x : Ext F H F' H') {n j : Nat} (hn : n < env.length) (hj : j < env.length) (nj : j ≠ n) {cv : Value} {dd : Option Addr} {d : PyData} (q : Xat K F' cv dd d) {a : Addr} (na : H' a = none) :
    StOk K F0 H0 (L2.upd F' a (ExC cv dd a)) (L2.upd H' a (ExC cv dd a)) ((env.set n none).set j (some (.fz d))) ((((σ.set n (some (.ref a))).set j (some (.ref a)))).set n none) := by
  have st1 := (st.step x).del n
  have e1 : (env.set n none)[n]? = some none := List.getElem?_set_self hn
  have st2 := (st1.sto e1 (some (.ref a))).1
  have x2 : Ext F' H' (L2.upd F' a (ExC cv dd a)) (L2.upd H' a (ExC cv dd a)) := Ext.lay x.sub na
  have st3 := st2.set x2 (i := j) (v := .ref a) (by rw [List.length_set]; exact hj) (.fz (q.rp (x.sub.free na))) newFz
  exact (st3.sto (by rw [List.getElem?_set_ne nj]; exact e1) none).1
theorem chkH_ok {D : Str} {j n : Nat} {hd : List ExceptHandler} (C : CO X s c) (h : chkH D j n s hd = true) (nd : X.N.Nodup) : ∃ q1 nn m q3 n2 q4 q5 q2, hd = [.ExceptHandler (some (.Name D q1)) (some nn) [.Assign [.Name m q3] (.Name n2 q4) q5] q2] ∧ Gl X D ∧ (D == ("__debug__" : Str)) = false ∧ X.N[n]? = some nn ∧ X.env.kindOf nn = some .local ∧ s.N[j]? = some m ∧ s.N[n]? = some nn ∧
    ∀ (a : Addr) (pn : List (Addr × Obj)), PSs (X.suite a pn) [.Assign [.Name m q3] (.Name n2 q4) q5] (tAsg (tVar n) (gName j)) := by
  unfold chkH at h
  split at h
  · simp only [Bool.and_eq_true, decide_eq_true_eq] at h
    obtain ⟨⟨⟨⟨⟨⟨⟨⟨⟨h1, h2⟩, h3⟩, h4⟩, h5⟩, h6⟩, h7⟩, h8⟩, h9⟩, h10⟩ := h
    subst h1 h8
    obtain ⟨l1, l2⟩ := C.locv h7
    refine ⟨_, _, _, _, _, _, _, _, rfl, C.glo h2, (okN1 h3).1, by rw [C.N]; exact h4, ?_, h6, h4, fun a pn => pss_one (ps_set (X := X.suite a pn) nd (by show X.N[j]? = _; rw [C.N]; exact h6) l1 (pe_var (X := X.suite a pn) (by show X.N[n]? = _; rw [C.N]; exact h4) (C.vis h9) (okN1 h10).1 (okN1 h10).2) rfl l2)⟩
    show X.env.scope.names.lookup _ = _
    rw [C.sc]; exact h5
  · cases h
end
section
variable {X : Cx} {s : Sx} {c : Cl}
mutual
theorem sndS : ∀ (a : Sm) {X : Cx} {s : Sx} {c : Cl} {W : XK}, COS X s c W → ∀ {st : Stmt}, chkS a s st = true → PS X st (tS X.K W c a)
  | .asg i e, X, s, c, W, C, st, h => by
    unfold chkS at h
    split at h
    · simp only [Bool.and_eq_true, decide_eq_true_eq] at h
      obtain ⟨⟨h1, h2⟩, h3⟩ := h
      refine PS.len (ps_asgN C.toCO h1 h2 h3) fun D σ H hN ⟨F0, H0, F, env, o, st, h, post⟩ => ?_
      obtain ⟨r, h4, h5⟩ := bnd (show (ev c env e).bind _ = some o by simpa only [exS] using h)
      have hlt := set_len st C.toCO h1 hN
      by_cases hb : (isVar e && r.isOwn) = true
      · rw [if_pos hb] at h5; cases h5
      · rw [if_neg hb] at h5
        cases h5
        refine ⟨F, env, r, st.ok, h4, fun v F1 H1 x1 w1 n1 => post F1 _ H1 (st.set x1 hlt w1 ?_)⟩
        cases hv : isVar e with
        | false => exact n1 hv
        | true =>
          rw [hv, Bool.true_and] at hb
          cases r with
          | fz d => exact newFz
          | ol _ => exact absurd rfl hb
          | od _ => exact absurd rfl hb
          | on _ => exact absurd rfl hb
          | xr _ => exact absurd rfl hb
    · cases h
  | .unp is e, X, s, c, W, C, st, h => by
    unfold chkS at h
    split at h
    · simp only [Bool.and_eq_true, Bool.not_eq_true'] at h
      obtain ⟨⟨h1, h2⟩, h3⟩ := h
      refine PS.imp (ps_asg (sndP e C.toCO h2).pe (pg_tg C.toCO (tg := .tp is) h1) (swap_tup _ _) (stores_tup h3 _) rfl) fun D σ H ⟨F0, H0, F, env, o, st, h, post⟩ => ?_
      obtain ⟨r, h4, h5⟩ := bnd (show (ev c env e).bind _ = some o by simpa only [exS] using h)
      obtain ⟨d, h6, h7⟩ := bnd h5
      obtain ⟨env2, h8, rfl⟩ := mpd h7
      refine dataAt st h4 h6 fun v F1 H1 x1 rp => ?_
      have st1 := st.step x1
      exact ⟨F1, env, d, env2, st1.ok, rp, h8, fun σ2 _ ok2 ho => post F1 σ2 H1 ⟨st1.ext, ok2, fun j p q => st1.own j p (ho j p q), fun j k p q1 q2 => st1.sep j k p (ho j p q1) (ho k p q2)⟩⟩
    · cases h
  | .app i e, X, s, c, W, C, st, h => by
    unfold chkS at h
    split at h
    · simp only [Bool.and_eq_true, decide_eq_true_eq] at h
      obtain ⟨⟨⟨⟨⟨h1, h2⟩, h3⟩, h4⟩, h5⟩, h6⟩ := h
      subst h1
      have hp := chk_plain h6
      refine PS.imp (ps_expr (pe_bm PySem.F.plainAttrs_list PySem.F.slot_list_append PySem.F.type_list_append mt_append (var_i C.toCO h3 h4 h5) (pa_cons (sndP e C.toCO h6).pe pa_nil (star_of hp _ _)) name_base (few1 hp _) h2 (star_of hp _ _) (by rfl)) (swap_call _ _ _)) fun D σ H ⟨F0, H0, F, env, o, st, h, post⟩ => ?_
      obtain ⟨ds, g1, h⟩ := bnd (show (olAt env i).bind _ = some o by simpa only [exS] using h)
      obtain ⟨r, g2, h⟩ := bnd h
      obtain ⟨d, g3, h⟩ := bnd h
      obtain ⟨g4, rfl⟩ := itd h
      obtain ⟨p, vs, oa, hσ, hF, hH, ra⟩ := st.ol g1
      refine ⟨.ref p, hσ, .inl ⟨rfl, vs, SqL.of hH⟩, dataAt st g2 g3 fun v F1 H1 x1 rp => ?_⟩
      have st1 := st.step x1
      have hH1 := x1.same _ _ hH
      refine ⟨p, vs, v, rfl, rfl, hH1, by rw [ra.length]; exact LIM_lt g4, post F1 σ _ ?_⟩
      exact st1.upd oa rfl rfl hσ rfl (.lst ((ra.mono x1.fr).append (.cons rp .nil)))
    · cases h
  | .ext i e, X, s, c, W, C, st, h => by
    unfold chkS at h
    split at h
    · simp only [Bool.and_eq_true, decide_eq_true_eq] at h
      obtain ⟨⟨⟨⟨⟨h1, h2⟩, h3⟩, h4⟩, h5⟩, h6⟩ := h
      subst h1
      have hp := chk_plain h6
      refine PS.imp (ps_expr (pe_bm PySem.F.plainAttrs_list PySem.F.slot_list_extend PySem.F.type_list_extend (MtR.or mt_extend mt_extendT) (var_i C.toCO h3 h4 h5) (pa_cons (sndP e C.toCO h6).pe pa_nil (star_of hp _ _)) name_base (few1 hp _) h2 (star_of hp _ _) (by rfl)) (swap_call _ _ _)) fun D σ H ⟨F0, H0, F, env, o, st, h, post⟩ => ?_
      obtain ⟨ds, g1, h⟩ := bnd (show (olAt env i).bind _ = some o by simpa only [exS] using h)
      obtain ⟨r, g2, h⟩ := bnd h
      obtain ⟨es, g3, h⟩ := bnd h
      obtain ⟨g4, rfl⟩ := itd h
      obtain ⟨p, vs, oa, hσ, hF, hH, ra⟩ := st.ol g1
      refine ⟨.ref p, hσ, .inl ⟨rfl, vs, SqL.of hH⟩, F, env, r, st.ok, g2, fun v F1 H1 x1 w1 n1 => ?_⟩
      have st1 := st.step x1
      have hH1 := x1.same _ _ hH
      rcases RV.seqT_eq g3 with rfl | g3
      · cases w1.rpF with
        | tup ta rb =>
          refine .inr ⟨p, _, vs, _, rfl, rfl, hH1, Same.sqT x1.sub ta.sqT, by rw [ra.length, rb.length]; exact LIM_ok g4, post F1 σ _ ?_⟩
          exact st1.upd oa rfl rfl hσ rfl (.lst ((ra.mono x1.fr).append rb))
      · obtain ⟨q, ws, rfl, hq, rb⟩ := w1.lstv x1.sub g3
        refine .inl ⟨p, q, vs, ws, rfl, rfl, hH1, hq, by rw [ra.length, rb.length]; exact LIM_ok g4, post F1 σ _ ?_⟩
        exact st1.upd oa rfl rfl hσ rfl (.lst ((ra.mono x1.fr).append rb))
    · cases h
  | .pop j i e, X, s, c, W, C, st, h => by
    unfold chkS at h
    split at h
    · simp only [Bool.and_eq_true, decide_eq_true_eq] at h
      obtain ⟨⟨⟨⟨⟨⟨⟨h1, h2⟩, h3⟩, h4⟩, h5⟩, h6⟩, h7⟩, h8⟩ := h
      subst h1
      have hp := chk_plain h6
      obtain ⟨l1, l2⟩ := C.toCO.locv h8
      refine PS.len (ps_set C.nd (by rw [C.N]; exact h7) l1 (pe_bm PySem.F.plainAttrs_list PySem.F.slot_list_pop PySem.F.type_list_pop mt_popAt (var_i C.toCO h3 h4 h5) (pa_cons (sndP e C.toCO h6).pe pa_nil (star_of hp _ _)) name_base (few1 hp _) h2 (star_of hp _ _) (by rfl)) (swap_call _ _ _) l2) fun D σ H hN ⟨F0, H0, F, env, o, st, h, post⟩ => ?_
      have hlt := set_len st C.toCO h7 hN
      have h : (if i = j then none else (olAt env i).bind fun ds => ((ev c env e).bind asInt).bind fun k => if 0 ≤ k then (ds[k.toNat]?).bind fun d => if ds.length ≤ LIM then some (Out.nx ((env.set i (some (.ol (ds.eraseIdx k.toNat)))).set j (some (.fz d)))) else none else none) = some o := by simpa only [exS] using h
      by_cases hij : i = j
      · rw [if_pos hij] at h; cases h
      rw [if_neg hij] at h
      obtain ⟨ds, g1, h⟩ := bnd h
      obtain ⟨k, g2, h⟩ := bnd h
      obtain ⟨r, g2, g3⟩ := bnd g2
      obtain rfl := asInt_eq g3
      obtain ⟨g4, h⟩ := itd' h
      obtain ⟨d, g5, h⟩ := bnd h
      obtain ⟨g6, rfl⟩ := itd h
      obtain ⟨p, vs, oa, hσ, hF, hH, ra⟩ := st.ol g1
      refine ⟨.ref p, hσ, .inl ⟨rfl, vs, SqL.of hH⟩, F, env, _, st.ok, g2, fun v F1 H1 x1 w1 n1 => ?_⟩
      have st1 := st.step x1
      have hH1 := x1.same _ _ hH
      obtain ⟨y, hy, rp⟩ := ra.getD g5
      have hk : k.toNat < vs.length := (List.getElem?_eq_some_iff.mp hy).1
      have hl : vs.length ≤ LIM := by rw [ra.length]; exact g6
      have hl' : vs.length ≤ 1000000 := hl
      refine ⟨p, vs, k, k.toNat, y, rfl, by rw [w1.int], hH1, by omega, by omega, (ixN_seq (ixN_nat g4 (by omega))).1, hy, ?_⟩
      have st2 := st1.upd oa rfl rfl hσ rfl (.lst ((ra.mono x1.fr).eraseIdx k.toNat))
      exact post F1 _ _ (st2.set (.refl st2.ok.sub) (by rw [List.length_set]; exact hlt) (.fz (rp.mono x1.fr)) newFz)
    · cases h
  | .sti i k e, X, s, c, W, C, st, h => by
    unfold chkS at h
    split at h
    · simp only [Bool.and_eq_true, decide_eq_true_eq] at h
      obtain ⟨⟨⟨⟨h1, h2⟩, h3⟩, h4⟩, h5⟩ := h
      have hp := chk_plain h4
      refine PS.imp (ps_asg (sndP e C.toCO h5).pe (pg_sub (var_i C.toCO h1 h2 h3) (sndP k C.toCO h4).pe set_list (fun v => asg_sub hp _ v)) (swap_sub _ _) (stores_sub _) rfl) fun D σ H ⟨F0, H0, F, env, o, st, h, post⟩ => ?_
      obtain ⟨r, g2, h⟩ := bnd (show (ev c env e).bind _ = some o by simpa only [exS] using h)
      obtain ⟨d, g3, h⟩ := bnd h
      obtain ⟨ds, g1, h⟩ := bnd h
      obtain ⟨n, g4, h⟩ := bnd h
      obtain ⟨r', g4, g5⟩ := bnd g4
      obtain rfl := asInt_eq g5
      obtain ⟨j, g6, h⟩ := bnd h
      cases h
      obtain ⟨p, vs, oa, hσ, hF, hH, ra⟩ := st.ol g1
      refine dataAt st g2 g3 fun v F1 H1 x1 rp => ?_
      have st1 := st.step x1
      refine ⟨.ref p, hσ, F1, env, _, st1.ok, g4, fun u F2 H2 x2 w2 n2 => ?_⟩
      have st2 := st1.step x2
      have hH2 := x2.same _ _ (x1.same _ _ hH)
      refine ⟨p, vs, n, j, rfl, by rw [w2.int], hH2, by rw [ra.length]; exact g6, post F2 σ _ ?_⟩
      exact st2.upd oa rfl rfl hσ rfl (.lst ((ra.mono (x1.fr.trans x2.fr)).set j (rp.mono x2.fr)))
    · cases h
  | .clr i, X, s, c, W, C, st, h => by
    unfold chkS at h
    split at h
    · simp only [Bool.and_eq_true, decide_eq_true_eq] at h
      obtain ⟨⟨⟨⟨h1, h2⟩, h3⟩, h4⟩, h5⟩ := h
      subst h1
      refine PS.imp (ps_expr (pe_bm0 PySem.F.plainAttrs_list PySem.F.slot_list_clear PySem.F.type_list_clear mt_clear (var_i C.toCO h3 h4 h5) name_base h2) (swap_call _ _ _)) fun D σ H ⟨F0, H0, F, env, o, st, h, post⟩ => ?_
      obtain ⟨ds, g1, h⟩ := bnd (show (olAt env i).bind _ = some o by simpa only [exS] using h)
      cases h
      obtain ⟨p, vs, oa, hσ, hF, hH, ra⟩ := st.ol g1
      exact ⟨.ref p, hσ, .inl ⟨rfl, vs, SqL.of hH⟩, p, vs, rfl, rfl, hH, post F σ _ (st.upd oa rfl rfl hσ rfl (.lst .nil))⟩
    · cases h
  | .ifs t a b, X, s, c, W, C, st, h => by
    unfold chkS at h
    split at h
    · simp only [Bool.and_eq_true] at h
      obtain ⟨⟨h1, h2⟩, h3⟩ := h
      refine PS.imp (ps_if (sndP t C.toCO h1).pt (sndSs a C h2) (sndSs b C h3)) fun D σ H ⟨F0, H0, F, env, o, st, h, post⟩ => ?_
      obtain ⟨k, g1, h⟩ := bnd (show ((ev c env t).bind asBool).bind _ = some o by simpa only [exS] using h)
      obtain ⟨r, g1, g2⟩ := bnd g1
      obtain rfl := asBool_eq g2
      refine ⟨F, env, k, st.ok, g1, fun F1 H1 x1 => ?_⟩
      cases k with
      | true => exact iteT ⟨F0, H0, F1, env, o, st.step x1, h, post⟩
      | false => exact iteF ⟨F0, H0, F1, env, o, st.step x1, h, post⟩
    · cases h
  | .for_ tg it b, X, s, c, W, C, st, h => by
    unfold chkS at h
    split at h
    · simp only [Bool.and_eq_true] at h
      obtain ⟨⟨h1, h2⟩, h3⟩ := h
      exact PS.imp (ps_for C.po C.calm (sndI it C.toCO h1) (pg_tg C.toCO h2) (sndSs b C h3) (set_of (chkI_plain h1) _)) fun D σ H h => forL_step h
    · cases h
  | .asgD i e tg it own, X, s, c, W, C, st, h => by
    unfold chkS at h
    split at h
    · simp only [Bool.and_eq_true, decide_eq_true_eq] at h
      obtain ⟨⟨h1, h2⟩, h3⟩ := h
      obtain ⟨ht, P⟩ := ps_asgLc C.toCO (px := _) (pos := _) h1 h2 h3
      refine PS.len P fun D σ H hN ⟨F0, H0, F, env, o, st, h, post⟩ => ?_
      obtain ⟨items, g1, h⟩ := bnd (show (evi c env it).bind _ = some o by simpa only [exS] using h)
      obtain ⟨dss, g2, h⟩ := bnd h
      obtain ⟨g3, rfl⟩ := itd h
      have hlt := set_len st C.toCO h1 hN
      exact compD_ok ht st.ok g1 g2 g3 fun v F' H' x w n => post F' _ H' (st.setN x hlt w n)
    · cases h
  | .asgL i e, X, s, c, W, C, st, h => by
    unfold chkS at h
    split at h
    · simp only [Bool.and_eq_true, decide_eq_true_eq] at h
      obtain ⟨⟨h1, h2⟩, h3⟩ := h
      have h1' := h1
      rw [← C.N] at h1'
      have hp := chk_plain h3
      obtain ⟨l1, l2⟩ := C.toCO.locv h2
      refine PS.len (ps_set C.nd h1' l1 (pe_lst (pa_cons (sndP e C.toCO h3).pe pa_nil (star_of hp _ _))) (swap_no (fun _ _ _ _ q => by cases q) (fun _ _ _ _ q => by cases q) (fun _ _ _ _ _ q => by cases q) _ _ _) l2) fun D σ H hN ⟨F0, H0, F, env, o, st, h, post⟩ => ?_
      have y0 : ((ev c env e).bind fun r => (if isVar e then none else asRow r).bind fun es => some (Out.nx (env.set i (some (.on [es]))))) = some o := by simpa only [exS] using h
      obtain ⟨r, g2, y1⟩ := bnd y0
      obtain ⟨es, g3, y2⟩ := bnd y1
      obtain ⟨hv, er⟩ := row_eq g3
      subst er
      cases y2
      have hlt := set_len st C.toCO h1 hN
      refine ⟨F, env, _, st.ok, g2, fun v F1 H1 x1 w1 n1 => ⟨by show 1 ≤ sizeLine; decide, fun p n => ?_⟩⟩
      obtain ⟨q, vs, rfl, hq, fq, eq, ra⟩ := view_row w1 (n1 hv)
      have hqp : q ≠ p := fun z => by subst z; rw [n] at eq; cases eq
      have x2 : Ext F1 H1 F1 (L2.upd H1 p (.lst [V.ref q])) := Ext.lay0 x1.sub n
      refine post F1 _ _ (st.setN (x1.trans x2) hlt (.own (x1.sub.free n) upd_same (.on (qs := [q]) (.cons fq (by rw [upd_ne hqp]; exact eq) ra .nil) (by simp) (by simpa using hqp))) fun b hb => ?_)
      rcases hb with hb | ⟨q', ws, e1, e2, e3⟩
      · cases hb
        exact x1.same.free n
      · cases e1
        rw [upd_same] at e2
        cases e2
        rw [List.mem_singleton] at e3
        cases e3
        exact hq
    · cases h
  | .appD i e, X, s, c, W, C, st, h => by
    unfold chkS at h
    split at h
    · simp only [Bool.and_eq_true, decide_eq_true_eq] at h
      obtain ⟨⟨⟨⟨⟨h1, h2⟩, h3⟩, h4⟩, h5⟩, h6⟩ := h
      subst h1
      have hp := chk_plain h6
      refine PS.imp (ps_expr (pe_bm PySem.F.plainAttrs_list PySem.F.slot_list_append PySem.F.type_list_append mt_append (var_i C.toCO h3 h4 h5) (pa_cons (sndP e C.toCO h6).pe pa_nil (star_of hp _ _)) name_base (few1 hp _) h2 (star_of hp _ _) (by rfl)) (swap_call _ _ _)) fun D σ H ⟨F0, H0, F, env, o, st, h, post⟩ => ?_
      have y0 : ((onAt env i).bind fun dss => (ev c env e).bind fun r => (if isVar e then none else asRow r).bind fun es => if dss.length < LIM then some (Out.nx (env.set i (some (.on (dss ++ [es]))))) else none) = some o := by simpa only [exS] using h
      obtain ⟨dss, g1, y1⟩ := bnd y0
      obtain ⟨r, g2, y2⟩ := bnd y1
      obtain ⟨es, g3, y3⟩ := bnd y2
      obtain ⟨hv, er⟩ := row_eq g3
      obtain ⟨g4, eo⟩ := itd y3
      subst er eo
      obtain ⟨p, qs, oa, hσ, hF, hH, ia, nd, np⟩ := st.onAt g1
      refine ⟨.ref p, hσ, .inl ⟨rfl, _, SqL.of hH⟩, F, env, _, st.ok, g2, fun v F1 H1 x1 w1 n1 => ?_⟩
      have st1 := st.step x1
      obtain ⟨q, vs, rfl, hq, fq, eq, ra⟩ := view_row w1 (n1 hv)
      have back : ∀ j, ¬ OwnAt H1 env σ j q := fun j z => by
        obtain ⟨_, o, y⟩ := (z.back st.ok x1.same).there st.ok
        rw [hq] at y; cases y
      have hH1 := x1.same _ _ hH
      have ia1 := ia.ext x1
      have hqs : q ∉ qs := fun z => back i ⟨_, _, oa, hσ, .inr ⟨p, _, rfl, hH1, List.mem_map.mpr ⟨q, z, rfl⟩⟩⟩
      have hqp : q ≠ p := fun z => by subst z; exact back i ⟨_, _, oa, hσ, .inl rfl⟩
      refine ⟨p, qs.map V.ref, .ref q, rfl, rfl, hH1, by rw [List.length_map, ia.len]; exact LIM_lt g4, post F1 σ _ ?_⟩
      have em : qs.map V.ref ++ [V.ref q] = (qs ++ [q]).map V.ref := by rw [List.map_append]; rfl
      rw [em]
      have ia' : InAll X.K F1 (L2.upd H1 p (.lst ((qs ++ [q]).map V.ref))) qs dss := ia1.other np
      refine st1.onW (qs' := qs ++ [q]) (dss' := dss ++ [es]) oa hσ (x1.out hF hH) hH1 (fun b hb => ?_) (nodup_snoc nd hqs) (fun b hb => ?_) upd_same (ia'.snoc fq (by rw [upd_ne hqp]; exact eq) ra) fun b hb _ => upd_ne hb
      · rcases List.mem_append.mp hb with y | y
        · exact .inl y
        · rw [List.mem_singleton] at y
          subst y
          exact .inr ⟨fq, st.ext.same.free hq, back⟩
      · rcases List.mem_append.mp hb with y | y
        · exact np b y
        · rw [List.mem_singleton] at y
          subst y; exact hqp
    · cases h
  | .appI i k e, X, s, c, W, C, st, h => by
    unfold chkS at h
    split at h
    · simp only [Bool.and_eq_true, decide_eq_true_eq] at h
      obtain ⟨⟨⟨⟨⟨⟨h1, h2⟩, h3⟩, h4⟩, h5⟩, h6⟩, h7⟩ := h
      subst h1
      have hp := chk_plain h7
      refine PS.imp (ps_expr (pe_bm PySem.F.plainAttrs_list PySem.F.slot_list_append PySem.F.type_list_append mt_append (pe_ix ix_list (var_i C.toCO h3 h4 h5) (sndP k C.toCO h6).pe (ix_of (chk_plain h6))) (pa_cons (sndP e C.toCO h7).pe pa_nil (star_of hp _ _)) (by rfl) (few1 hp _) h2 (star_of hp _ _) (by rfl)) (swap_call _ _ _)) fun D σ H ⟨F0, H0, F, env, o, st, h, post⟩ => ?_
      have y0 : ((onAt env i).bind fun dss => ((ev c env k).bind asInt).bind fun n => (ixN dss.length n).bind fun j => (dss[j]?).bind fun ds => (ev c env e).bind fun r => (ownD e r).bind fun d => if ds.length < LIM ∧ dss.length ≤ LIM then some (Out.nx (env.set i (some (.on (dss.set j (ds ++ [d])))))) else none) = some o := by simpa only [exS] using h
      obtain ⟨dss, g1, y1⟩ := bnd y0
      obtain ⟨n, g2, y2⟩ := bnd y1
      obtain ⟨r', g20, g21⟩ := bnd g2
      have er' := asInt_eq g21
      subst er'
      obtain ⟨j, g3, y3⟩ := bnd y2
      obtain ⟨ds, g4, y4⟩ := bnd y3
      obtain ⟨r, g5, y5⟩ := bnd y4
      obtain ⟨d, g6, y6⟩ := bnd y5
      obtain ⟨⟨g7, g8⟩, eo⟩ := itd y6
      subst eo
      obtain ⟨p, qs, oa, hσ, hF, hH, ia, nd, np⟩ := st.onAt g1
      refine ⟨.ref p, hσ, F, env, _, st.ok, g20, fun u F1 H1 x1 w1 _ => ?_⟩
      have hH1 := x1.same _ _ hH
      obtain ⟨q, vs, hq, fq, eq, ra⟩ := ia.nth g4
      have hqm := List.mem_of_getElem? hq
      refine ⟨p, qs.map V.ref, n, .ref q, rfl, by rw [w1.int], SqL.of hH1, by unfold L2.atI; rw [List.length_map, ia.len, g3]; show (qs.map V.ref)[j]? = _; rw [List.getElem?_map, hq]; rfl, ?_⟩
      have eq1 := x1.same _ _ eq
      have st1 := st.step x1
      refine ⟨.inl ⟨rfl, vs, SqL.of eq1⟩, dataAt st1 g5 g6 fun v F2 H2 x2 rp => ?_⟩
      have st2 := st1.step x2
      have eq2 := x2.same _ _ eq1
      have hH2 := x2.same _ _ hH1
      have fq2 := x2.out (x1.out fq eq) eq1
      have hF2 := x2.out (x1.out hF hH) hH1
      refine ⟨q, vs, v, rfl, rfl, eq2, by rw [ra.length]; exact LIM_lt g7, post F2 σ _ ?_⟩
      have hqp := np q hqm
      have ia2 := (ia.ext x1).ext x2
      refine st2.onW (qs' := qs) (dss' := dss.set j (ds ++ [d])) oa hσ hF2 hH2 (fun b hb => .inl hb) nd np (by rw [upd_ne (Ne.symm hqp)]; exact hH2) (InAll.of (by rw [List.length_set, ia.len]) fun k2 a ds2 ha hds => ?_) fun b _ hb => upd_ne fun z => hb (by rw [z]; exact hqm)
      by_cases hk : j = k2
      · subst hk
        rw [hq] at ha
        rw [List.getElem?_set_self (ixN_lt g3)] at hds
        cases ha
        cases hds
        exact ⟨fq2, _, upd_same, ((ra.mono x1.fr).mono x2.fr).append (.cons rp .nil)⟩
      · rw [List.getElem?_set_ne hk] at hds
        obtain ⟨z1, vs2, z2, z3⟩ := ia2.nth2 ha hds
        refine ⟨z1, vs2, ?_, z3⟩
        rw [upd_ne fun z => hk (by
          subst z
          exact nodup_at nd hq ha)]
        exact z2
    · cases h
  | .popI i k, X, s, c, W, C, st, h => by
    unfold chkS at h
    split at h
    · simp only [Bool.and_eq_true, decide_eq_true_eq] at h
      obtain ⟨⟨⟨⟨⟨h1, h2⟩, h3⟩, h4⟩, h5⟩, h6⟩ := h
      subst h1
      refine PS.imp (ps_expr (pe_bm0 PySem.F.plainAttrs_list PySem.F.slot_list_pop PySem.F.type_list_pop mt_pop (pe_ix ix_list (var_i C.toCO h3 h4 h5) (sndP k C.toCO h6).pe (ix_of (chk_plain h6))) (by rfl) h2) (swap_call _ _ _)) fun D σ H ⟨F0, H0, F, env, o, st, h, post⟩ => ?_
      have y0 : ((onAt env i).bind fun dss => ((ev c env k).bind asInt).bind fun n => (ixN dss.length n).bind fun j => (dss[j]?).bind fun ds => if 0 < ds.length ∧ ds.length ≤ LIM ∧ dss.length ≤ LIM then some (Out.nx (env.set i (some (.on (dss.set j ds.dropLast))))) else none) = some o := by simpa only [exS] using h
      obtain ⟨dss, g1, y1⟩ := bnd y0
      obtain ⟨n, g2, y2⟩ := bnd y1
      obtain ⟨r', g20, g21⟩ := bnd g2
      have er' := asInt_eq g21
      subst er'
      obtain ⟨j, g3, y3⟩ := bnd y2
      obtain ⟨ds, g4, y4⟩ := bnd y3
      obtain ⟨⟨g7, g70, g8⟩, eo⟩ := itd y4
      subst eo
      obtain ⟨p, qs, oa, hσ, hF, hH, ia, nd, np⟩ := st.onAt g1
      refine ⟨.ref p, hσ, F, env, _, st.ok, g20, fun u F1 H1 x1 w1 _ => ?_⟩
      have hH1 := x1.same _ _ hH
      obtain ⟨q, vs, hq, fq, eq, ra⟩ := ia.nth g4
      have hqm := List.mem_of_getElem? hq
      refine ⟨p, qs.map V.ref, n, .ref q, rfl, by rw [w1.int], SqL.of hH1, by unfold L2.atI; rw [List.length_map, ia.len, g3]; show (qs.map V.ref)[j]? = _; rw [List.getElem?_map, hq]; rfl, ?_⟩
      have eq1 := x1.same _ _ eq
      have st1 := st.step x1
      have hl := ra.length
      have hy : vs[vs.length - 1]? = some (vs[vs.length - 1]'(by omega)) := List.getElem?_eq_getElem _
      refine ⟨.inl ⟨rfl, vs, SqL.of eq1⟩, q, vs, _, rfl, rfl, eq1, hy, post F1 σ _ ?_⟩
      have fq1 := x1.out fq eq
      have hF1 := x1.out hF hH
      have hqp := np q hqm
      have ia1 := ia.ext x1
      refine st1.onW (qs' := qs) (dss' := dss.set j ds.dropLast) oa hσ hF1 hH1 (fun b hb => .inl hb) nd np (by rw [upd_ne (Ne.symm hqp)]; exact hH1) (InAll.of (by rw [List.length_set, ia.len]) fun k2 a ds2 ha hds => ?_) fun b _ hb => upd_ne fun z => hb (by rw [z]; exact hqm)
      by_cases hk : j = k2
      · subst hk
        rw [hq] at ha
        rw [List.getElem?_set_self (ixN_lt g3)] at hds
        cases ha
        cases hds
        refine ⟨fq1, _, upd_same, ?_⟩
        rw [List.dropLast_eq_take, List.dropLast_eq_take, hl]
        exact (ra.mono x1.fr).take _
      · rw [List.getElem?_set_ne hk] at hds
        obtain ⟨z1, vs2, z2, z3⟩ := ia1.nth2 ha hds
        refine ⟨z1, vs2, ?_, z3⟩
        rw [upd_ne fun z => hk (by
          subst z
          exact nodup_at nd hq ha)]
        exact z2
    · cases h
  | .popD i, X, s, c, W, C, st, h => by
    unfold chkS at h
    split at h
    · simp only [Bool.and_eq_true, decide_eq_true_eq] at h
      obtain ⟨⟨⟨⟨h1, h2⟩, h3⟩, h4⟩, h5⟩ := h
      subst h1
      refine PS.imp (ps_expr (pe_bm0 PySem.F.plainAttrs_list PySem.F.slot_list_pop PySem.F.type_list_pop mt_pop (var_i C.toCO h3 h4 h5) name_base h2) (swap_call _ _ _)) fun D σ H ⟨F0, H0, F, env, o, st, h, post⟩ => ?_
      have y0 : ((onAt env i).bind fun dss => if 0 < dss.length ∧ dss.length ≤ LIM then some (Out.nx (env.set i (some (.on dss.dropLast)))) else none) = some o := by simpa only [exS] using h
      obtain ⟨dss, g1, y1⟩ := bnd y0
      obtain ⟨⟨g7, g8⟩, eo⟩ := itd y1
      subst eo
      obtain ⟨p, qs, oa, hσ, hF, hH, ia, nd, np⟩ := st.onAt g1
      have hl := ia.len
      have hy : (qs.map V.ref)[(qs.map V.ref).length - 1]? = some ((qs.map V.ref)[(qs.map V.ref).length - 1]'(by rw [List.length_map]; omega)) := List.getElem?_eq_getElem _
      refine ⟨.ref p, hσ, .inl ⟨rfl, _, SqL.of hH⟩, p, qs.map V.ref, _, rfl, rfl, hH, hy, post F σ _ ?_⟩
      have em : (qs.map V.ref).dropLast = qs.dropLast.map V.ref := (List.map_dropLast).symm
      rw [em]
      have sub : ∀ b, b ∈ qs.dropLast → b ∈ qs := fun b hb => List.dropLast_subset _ hb
      have ia' : InAll X.K F (L2.upd H p (.lst (qs.dropLast.map V.ref))) qs dss := ia.other np
      refine st.onW (qs' := qs.dropLast) (dss' := dss.dropLast) oa hσ hF hH (fun b hb => .inl (sub b hb)) (nd.sublist (List.dropLast_sublist _)) (fun b hb => np b (sub b hb)) upd_same (InAll.of (by rw [List.length_dropLast, List.length_dropLast, hl]) fun k2 a ds2 ha hds => ?_) fun b hb _ => upd_ne hb
      have l1 : k2 < qs.dropLast.length := (List.getElem?_eq_some_iff.mp ha).1
      have l2 : k2 < dss.dropLast.length := (List.getElem?_eq_some_iff.mp hds).1
      rw [List.dropLast_eq_take, List.getElem?_take_of_lt (by rw [List.length_dropLast] at l1; omega)] at ha
      rw [List.dropLast_eq_take, List.getElem?_take_of_lt (by rw [List.length_dropLast] at l2; omega)] at hds
      exact ia'.nth2 ha hds
    · cases h
  | .retX e k, X, s, c, W, C, st, h => by
    unfold chkS at h
    split at h
    · simp only [Bool.and_eq_true] at h
      refine PS.imp (ps_ret (pe_ix ix_list (sndP e C.toCO h.1).pe (sndP k C.toCO h.2).pe (ix_of (chk_plain h.2)))) fun D σ H ⟨F0, H0, F, env, o, st, h, post⟩ => ?_
      have y0 : ((ev c env e).bind fun r => (if isVar e then none else asOn r).bind fun dss => ((ev c env k).bind asInt).bind fun n => (L2.atI dss n).map fun ds => Out.rt (.ol ds)) = some o := by simpa only [exS] using h
      obtain ⟨r, g1, y1⟩ := bnd y0
      obtain ⟨dss, g2, y2⟩ := bnd y1
      obtain ⟨n, g30, y3⟩ := bnd y2
      obtain ⟨r', g3, g4⟩ := bnd g30
      obtain ⟨ds, g5, eo⟩ := mpd y3
      have er' := asInt_eq g4
      obtain ⟨hv, er⟩ : isVar e = false ∧ r = .on dss := by
        split at g2
        · cases g2
        · refine ⟨(Bool.not_eq_true _).mp ‹_›, ?_⟩
          unfold asOn at g2
          split at g2
          · cases g2; rfl
          · cases g2
      subst er er' eo
      refine ⟨F, env, _, st.ok, g1, fun v F1 H1 x1 w1 n1 => ⟨F1, env, _, st.ok.ext x1, g3, fun u F2 H2 x2 w2 _ => ?_⟩⟩
      have n1 := n1 hv
      cases w1 with
      | own f e' q =>
        cases q with
        | on a nd np =>
          rename_i p qs
          obtain ⟨q2, vs, z1, z2, z3, z4, z5⟩ := (a.ext x2).at2 g5
          refine ⟨_, _, n, _, rfl, w2.int, SqL.of (x2.same _ _ e'), z1, post.1 _ F2 H2 (st.ext.trans (x1.trans x2)) (.own z3 z4 (.lst z5)) fun b hb => ?_⟩
          cases hb
          exact st.ext.same.free (n1 q2 (.inr ⟨_, _, rfl, e', List.mem_map.mpr ⟨q2, z2, rfl⟩⟩))
    · cases h
  | .stiD i k e, X, s, c, W, C, st, h => by
    unfold chkS at h
    split at h
    · simp only [Bool.and_eq_true, decide_eq_true_eq] at h
      obtain ⟨⟨⟨⟨h1, h2⟩, h3⟩, h4⟩, h5⟩ := h
      have hp := chk_plain h4
      refine PS.imp (ps_asg (sndP e C.toCO h5).pe (pg_sub (var_i C.toCO h1 h2 h3) (sndP k C.toCO h4).pe set_list (fun v => asg_sub hp _ v)) (swap_sub _ _) (stores_sub _) rfl) fun D σ H ⟨F0, H0, F, env, o, st, h, post⟩ => ?_
      have y0 : ((ev c env e).bind fun r => (if isVar e then none else asRow r).bind fun es => (onAt env i).bind fun dss => ((ev c env k).bind asInt).bind fun n => (ixN dss.length n).bind fun j => some (Out.nx (env.set i (some (.on (dss.set j es)))))) = some o := by simpa only [exS] using h
      obtain ⟨r, g2, y1⟩ := bnd y0
      obtain ⟨es, g3, y2⟩ := bnd y1
      obtain ⟨hv, er⟩ := row_eq g3
      obtain ⟨dss, g1, y3⟩ := bnd y2
      obtain ⟨n, g40, y4⟩ := bnd y3
      obtain ⟨r', g4, g5⟩ := bnd g40
      have er' := asInt_eq g5
      obtain ⟨m, g6, y5⟩ := bnd y4
      subst er er'
      cases y5
      refine ⟨F, env, _, st.ok, g2, fun v F1 H1 x1 w1 n1 => ?_⟩
      have st1 := st.step x1
      obtain ⟨pz, _, _, hσ, _⟩ := st.onAt g1
      refine ⟨_, hσ, F1, env, _, st1.ok, g4, fun u F2 H2 x2 w2 n2 => ?_⟩
      have st2 := st1.step x2
      obtain ⟨q, vs, rfl, hq, fq, eq, ra⟩ := view_row w1 (n1 hv)
      have fq2 := x2.out fq eq
      have eq2 := x2.same _ _ eq
      obtain ⟨p, qs, oa, hσ2, hF, hH, ia, nd, np⟩ := st2.onAt g1
      rw [hσ] at hσ2
      obtain rfl : pz = p := by cases hσ2; rfl
      have back : ∀ j, ¬ OwnAt H2 env σ j q := fun j z => by
        obtain ⟨_, o, y⟩ := ((z.back st1.ok x2.same).back st.ok x1.same).there st.ok
        rw [hq] at y; cases y
      have hqs : q ∉ qs := fun z => back i ⟨_, _, oa, hσ, .inr ⟨pz, _, rfl, hH, List.mem_map.mpr ⟨q, z, rfl⟩⟩⟩
      have hqp : q ≠ pz := fun z => by subst z; exact back i ⟨_, _, oa, hσ, .inl rfl⟩
      refine ⟨pz, qs.map V.ref, n, m, rfl, by rw [w2.int], hH, by rw [List.length_map, ia.len]; exact g6, post F2 σ _ ?_⟩
      have em : (qs.map V.ref).set m (.ref q) = (qs.set m q).map V.ref := (List.map_set).symm
      rw [em]
      have ia' : InAll X.K F2 (L2.upd H2 pz (.lst ((qs.set m q).map V.ref))) qs dss := ia.other np
      refine st2.onW (qs' := qs.set m q) (dss' := dss.set m es) oa hσ hF hH (fun b hb => ?_) (nodup_set m nd hqs) (fun b hb => ?_) upd_same (InAll.of ?_ fun k a ds ha hds => ?_) fun b hb _ => upd_ne hb
      · rcases List.mem_or_eq_of_mem_set hb with y | y
        · exact .inl y
        · subst y
          exact .inr ⟨fq2, st.ext.same.free hq, back⟩
      · rcases List.mem_or_eq_of_mem_set hb with y | y
        · exact np b y
        · subst y; exact hqp
      · rw [List.length_set, List.length_set, ia.len]
      · by_cases hk : m = k
        · subst hk
          have hl : m < qs.length := by rw [ia.len]; exact ixN_lt g6
          rw [List.getElem?_set_self hl] at ha
          rw [List.getElem?_set_self (ixN_lt g6)] at hds
          cases ha
          cases hds
          exact ⟨fq2, vs, by rw [upd_ne hqp]; exact eq2, ra.mono x2.fr⟩
        · rw [List.getElem?_set_ne hk] at ha hds
          exact ia'.nth2 ha hds
    · cases h
  | .forR j i b, X, s, c, W, C, st, h => by
    unfold chkS at h
    split at h
    · simp only [Bool.and_eq_true, decide_eq_true_eq] at h
      obtain ⟨⟨⟨⟨⟨h1, h2⟩, h3⟩, h4⟩, h5⟩, h6⟩ := h
      have h1' := h1
      rw [← C.N] at h1'
      obtain ⟨l1, l2⟩ := C.toCO.locv h2
      exact PS.len (ps_for C.po C.calm (pi_list (var_i C.toCO h3 h4 h5)) (pg_name C.nd h1' l1 l2) (sndR b C h6)) fun D σ H hN h => forR_step (by rw [hN]; exact (List.getElem?_eq_some_iff.mp h1').1) h
    · cases h
  | .tryN b, X, s, c, W, C, st, h => by
    unfold chkS at h
    split at h
    · refine PS.imp (ps_try_thru (sndSs b C.nox h) pss_nil) fun D σ H ⟨F0, H0, F, env, o, st, h, post⟩ => ?_
      obtain ⟨o', h1, h2⟩ := bnd (show (exSs c b env).bind _ = some o by simpa only [exS] using h)
      by_cases hx : o'.isX = true
      · rw [if_pos hx] at h2; cases h2
      rw [if_neg hx] at h2
      cases h2
      refine ⟨F0, H0, F, env, o, st, h1, ?_⟩
      cases o with
      | rt r => exact ⟨post.1, fun d e => by subst e; exact absurd rfl hx⟩
      | _ => exact post
    · cases h
  | .whl t b, X, s, c, W, C, st, h => by
    unfold chkS at h
    split at h
    · simp only [Bool.and_eq_true] at h
      exact PS.imp (ps_while C.po (sndP t C.toCO h.1).pt (sndSs b C h.2)) fun D σ H h => whl_step h
    · cases h
  | .ret e, X, s, c, W, C, st, h => by
    unfold chkS at h
    split at h
    · by_cases hv : isVar e = true
      · cases e with
        | var i =>
          rename_i x0 pos0
          have h' := h
          unfold chkE at h'
          split at h'
          · simp only [Bool.and_eq_true, decide_eq_true_eq] at h'
            refine PS.imp (ps_ret (var_i C.toCO h'.1.1 h'.1.2 h'.2)) fun D σ H ⟨F0, H0, F, env, o, st, h, post⟩ => ?_
            obtain ⟨r, g1, rfl⟩ := mpd (show (ev c env (.var i)).map Out.rt = some o by simpa only [exS] using h)
            have g2 : env[i]? = some (some r) := by
              have g1 : (env[i]?).join = some r := g1
              cases q : env[i]? with
              | none => rw [q] at g1; cases g1
              | some o => rw [q] at g1; exact congrArg some g1
            obtain ⟨v, hv1, hv2⟩ := st.ok.at_ i r g2
            exact ⟨v, hv1, post.1 v F H st.ext hv2 fun p hp => st.own i p ⟨_, _, g2, hv1, hp⟩⟩
          · cases h'
        | _ => cases hv
      · refine PS.imp (ps_ret (sndP e C.toCO h).pe) fun D σ H ⟨F0, H0, F, env, o, st, h, post⟩ => ?_
        obtain ⟨r, g1, rfl⟩ := mpd (show (ev c env e).map Out.rt = some o by simpa only [exS] using h)
        refine ⟨F, env, r, st.ok, g1, fun v F1 H1 x1 w1 n1 => post.1 v F1 H1 (st.ext.trans x1) w1 ?_⟩
        exact new_back st.ext.same (n1 (by simpa using hv))
    · cases h
  | .retN, X, s, c, W, C, st, h => by
    unfold chkS at h
    split at h
    · refine PS.imp ps_retN fun D σ H ⟨F0, H0, F, env, o, st, h, post⟩ => ?_
      cases h
      exact post.1 .non F H st.ext (.fz .non) newFz
    · cases h
  | .drp e, X, s, c, W, C, st, h => by
    unfold chkS at h
    split at h
    · refine PS.imp (ps_expr (sndP e C.toCO h).pe (swap_call _ _ _)) fun D σ H ⟨F0, H0, F, env, o, st, h, post⟩ => ?_
      obtain ⟨r, g1, rfl⟩ := mpd (show (ev c env e).map (fun _ => Out.nx env) = some o by simpa only [exS] using h)
      exact ⟨F, env, r, st.ok, g1, fun v F1 H1 x1 w1 n1 => post F1 σ H1 (st.step x1)⟩
    · cases h
  | .rse C1 m, X, s, c, W, C, st, h => by
    unfold chkS at h
    split at h
    · simp only [Bool.and_eq_true, decide_eq_true_eq] at h
      obtain ⟨⟨⟨h1, h2⟩, h3⟩, h4⟩ := h
      subst h1 h2
      rename_i x pz y jz p2 pos p3
      by_cases hm : x ∈ c.m0s
      · obtain ⟨E, d1, d2, d3, d4⟩ := C.xc.m0 _ hm
        refine PS.imp (ps_raise C.calm C.tk (pmk_own PySem.F.excBase_ValueError d4 d2 d3.kp (raises_own d3.sb d3.ty) (C.toCO.glo h3) (okN1 h4).1)) fun D σ H ⟨F0, H0, F, env, o, st, h, post⟩ => ?_
        have h : (if c.m0s.contains x then some (Out.rt (.xr (xd0 x))) else none) = some o := by simpa only [exS] using h
        obtain ⟨_, rfl⟩ := itd h
        exact post.2 _ rfl F H _ _ st.ext (.x0 d1)
      · refine PS.imp ps_never fun D σ H ⟨F0, H0, F, env, o, st, h, post⟩ => ?_
        have h : (if c.m0s.contains x then some (Out.rt (.xr (xd0 x))) else none) = some o := by simpa only [exS] using h
        obtain ⟨g, _⟩ := itd h
        exact hm (by simpa using g)
    · cases h
  | .rs1 C1 e, X, s, c, W, C, st, h => by
    unfold chkS at h
    split at h
    · simp only [Bool.and_eq_true, decide_eq_true_eq] at h
      obtain ⟨⟨⟨h1, h2⟩, h3⟩, h4⟩ := h
      subst h1
      rename_i x pz v pos p3
      cases hm : c.m1s.lookup x with
      | none =>
        refine PS.imp ps_never fun D σ H ⟨F0, H0, F, env, o, st, h, post⟩ => ?_
        obtain ⟨r, _, h⟩ := bnd (show (ev c env e).bind _ = some o by simpa only [exS] using h)
        obtain ⟨d, _, h⟩ := bnd h
        rw [hm] at h; cases h
      | some f =>
        obtain ⟨y1, y2⟩ := C.x1 x f hm
        obtain ⟨E, d1, P⟩ := ps_rs1 (p := pz) (pos := pos) (pos2 := p3) C.calm C.tk y1 y2 (C.toCO.glo h2) (okN1 h3).1 (sndP e C.toCO h4).pe (star_of (chk_plain h4) _ _)
        refine PS.imp P fun D σ H ⟨F0, H0, F, env, o, st, h, post⟩ => ?_
        obtain ⟨r, g1, h⟩ := bnd (show (ev c env e).bind _ = some o by simpa only [exS] using h)
        obtain ⟨d, g2, h⟩ := bnd h
        rw [hm] at h
        cases h
        refine dataAt st g1 g2 fun v F1 H1 x1 rp => ?_
        refine mk_go fun dx nd => post.2 _ rfl (L2.upd F1 dx (.xd [(f, v)])) _ _ _ (st.ext.trans (x1.trans (Ext.lay x1.sub nd))) (.x1 d1 upd_same (rp.mono (Same.upd (x1.sub.free nd))))
    · cases h
  | .asgC i f es, X, s, c, W, C, st, h => by
    unfold chkS at h
    split at h
    · simp only [Bool.and_eq_true, decide_eq_true_eq] at h
      obtain ⟨⟨h1, h2⟩, h3⟩ := h
      obtain ⟨l1, l2⟩ := C.toCO.locv h2
      refine PS.len (ps_set C.nd (by rw [C.N]; exact h1) l1 (pe_callX C.toCO C.tk h3) (swap_call _ _ _) l2) fun D σ H hN ⟨F0, H0, F, env, o, st, h, post⟩ => ?_
      have hlt := set_len st C.toCO h1 hN
      obtain ⟨r, g1, g2⟩ := bnd (show (evx c env f es).bind _ = some o by simpa only [exS] using h)
      refine ⟨F, env, r, st.ok, g1, fun v F1 H1 x1 w n => ?_, fun d e F1 H1 cv dd x1 q => ?_⟩
      · cases r with
        | xr d => exact (noXr w).elim
        | _ => cases g2; exact post F1 _ H1 (st.set x1 hlt w n)
      · subst e
        cases g2
        exact post.2 d rfl F1 H1 cv dd (st.ext.trans x1) q
    · cases h
  | .retC f es, X, s, c, W, C, st, h => by
    unfold chkS at h
    split at h
    · refine PS.imp (ps_ret (pe_callX C.toCO C.tk h)) fun D σ H ⟨F0, H0, F, env, o, st, h, post⟩ => ?_
      obtain ⟨r, g1, rfl⟩ := mpd (show (evx c env f es).map Out.rt = some o by simpa only [exS] using h)
      exact ⟨F, env, r, st.ok, g1, fun v F1 H1 x1 w n => post.1 v F1 H1 (st.ext.trans x1) w (new_back st.ext.same n), fun d e F1 H1 cv dd x1 q => post.2 d e F1 H1 cv dd (st.ext.trans x1) q⟩
    · cases h
  | .drpC f es, X, s, c, W, C, st, h => by
    unfold chkS at h
    split at h
    · refine PS.imp (ps_expr (pe_callX C.toCO C.tk h) (swap_call _ _ _)) fun D σ H ⟨F0, H0, F, env, o, st, h, post⟩ => ?_
      obtain ⟨r, g1, g2⟩ := bnd (show (evx c env f es).bind _ = some o by simpa only [exS] using h)
      refine ⟨F, env, r, st.ok, g1, fun v F1 H1 x1 w n => ?_, fun d e F1 H1 cv dd x1 q => ?_⟩
      · cases r with
        | xr d => exact (noXr w).elim
        | _ => cases g2; exact post F1 _ H1 (st.step x1)
      · subst e
        cases g2
        exact post.2 d rfl F1 H1 cv dd (st.ext.trans x1) q
    · cases h
  | .tryC i f es D1 j n, X, s, c, W, C, st, h => by
    unfold chkS at h
    split at h
    · simp only [Bool.and_eq_true, decide_eq_true_eq] at h
      obtain ⟨⟨⟨h1, h2⟩, h3⟩, h4⟩ := h
      obtain ⟨l1, l2⟩ := C.toCO.locv h2
      obtain ⟨q1, nn, m, q3, n2, q4, q5, q2, rfl, k1, k2, k3, k4, k5, k6, k7⟩ := chkH_ok C.toCO h4 C.nd
      by_cases hc : D1 ∈ c.cls
      · obtain ⟨E, d1, d2, d3⟩ := C.xc.ds _ hc
        refine PS.len (ps_try_kept (i := n) (c := .ref E) (tb := fun Wx => tAsg (tCX X.K Wx c f es) (gName i)) C.stk C.frm C.nd k3 k4 ⟨k1, k2, .inl d2⟩ C.tk
          (fun Wx pn xe tk po => pss_one (ps_set (X := X.tr pn xe) C.nd (by show X.N[i]? = _; rw [C.N]; exact h1) l1 (pe_callX (C.toCO.other pn xe) tk h3) (swap_call _ _ _) l2)) k7) fun D σ H hN ⟨F0, H0, F, env, o, st, h, post⟩ => ?_
        have hi := set_len st C.toCO h1 hN
        have hj := set_len st C.toCO k5 hN
        have hn := set_len st C.toCO k6 hN
        simp only [exS] at h
        by_cases hb : (decide (i = n) || decide (j = n) || !c.cls.contains D1) = true
        · rw [if_pos hb] at h; cases h
        rw [if_neg hb] at h
        have nj : j ≠ n := fun e => hb (by simp [e])
        obtain ⟨r, g1, g2⟩ := bnd h
        refine ⟨F, env, r, st.ok, g1, fun v F1 H1 x1 w ne => ?_, fun d e F1 H1 cv dd x1 q => ?_⟩
        · cases r with
          | xr d => exact (noXr w).elim
          | _ => cases g2; exact post F1 _ H1 (st.set x1 hi w ne)
        · subst e
          obtain ⟨nm, g3, g4⟩ := bnd g2
          obtain ⟨g5, rfl⟩ := itd g4
          simp only [Bool.and_eq_true, List.contains_iff_mem] at g5
          obtain ⟨C1, rfl, e1⟩ := q.name g3
          have z := (C.xc.pr nm g5.1 _ hc C1 E e1 d1).2
          rw [g5.2] at z
          exact ⟨true, z, fun _ a na => ⟨_, List.getElem?_set_self (by rw [← st.ok.len]; exact hn), post _ _ _ (kept_st st x1 hn hj nj q na)⟩, fun e => nomatch e⟩
      · refine PS.imp ps_never fun D σ H ⟨F0, H0, F, env, o, st, h, post⟩ => ?_
        simp only [exS] at h
        rw [if_pos (by simp [hc])] at h
        cases h
    · cases h
  | .tryE f es D1 j n, X, s, c, W, C, st, h => by
    unfold chkS at h
    split at h
    · simp only [Bool.and_eq_true, decide_eq_true_eq] at h
      obtain ⟨h3, h4⟩ := h
      obtain ⟨q1, nn, m, q3, n2, q4, q5, q2, rfl, k1, k2, k3, k4, k5, k6, k7⟩ := chkH_ok C.toCO h4 C.nd
      by_cases hc : D1 ∈ c.cls
      · obtain ⟨E, d1, d2, d3⟩ := C.xc.ds _ hc
        refine PS.len (ps_try_kept (i := n) (c := .ref E) (tb := fun Wx => tDrop (tCX X.K Wx c f es)) C.stk C.frm C.nd k3 k4 ⟨k1, k2, .inl d2⟩ C.tk
          (fun Wx pn xe tk po => pss_one (ps_expr (pe_callX (C.toCO.other pn xe) tk h3) (swap_call _ _ _))) k7) fun D σ H hN ⟨F0, H0, F, env, o, st, h, post⟩ => ?_
        have hj := set_len st C.toCO k5 hN
        have hn := set_len st C.toCO k6 hN
        simp only [exS] at h
        by_cases hb : (decide (j = n) || !c.cls.contains D1) = true
        · rw [if_pos hb] at h; cases h
        rw [if_neg hb] at h
        have nj : j ≠ n := fun e => hb (by simp [e])
        obtain ⟨r, g1, g2⟩ := bnd h
        refine ⟨F, env, r, st.ok, g1, fun v F1 H1 x1 w ne => ?_, fun d e F1 H1 cv dd x1 q => ?_⟩
        · cases r with
          | xr d => exact (noXr w).elim
          | _ => cases g2; exact post F1 _ H1 (st.step x1)
        · subst e
          obtain ⟨nm, g3, g4⟩ := bnd g2
          obtain ⟨g5, rfl⟩ := itd g4
          simp only [Bool.and_eq_true, List.contains_iff_mem] at g5
          obtain ⟨C1, rfl, e1⟩ := q.name g3
          have z := (C.xc.pr nm g5.1 _ hc C1 E e1 d1).2
          rw [g5.2] at z
          exact ⟨true, z, fun _ a na => ⟨_, List.getElem?_set_self (by rw [← st.ok.len]; exact hn), post _ _ _ (kept_st st x1 hn hj nj q na)⟩, fun e => nomatch e⟩
      · refine PS.imp ps_never fun D σ H ⟨F0, H0, F, env, o, st, h, post⟩ => ?_
        simp only [exS] at h
        rw [if_pos (by simp [hc])] at h
        cases h
    · cases h
  | .nop, X, s, c, W, C, st, h => by
    unfold chkS at h
    split at h
    · refine PS.imp ps_doc fun D σ H ⟨F0, H0, F, env, o, st, h, post⟩ => ?_
      cases h
      exact post F σ H st
    · refine PS.imp ps_pass fun D σ H ⟨F0, H0, F, env, o, st, h, post⟩ => ?_
      cases h
      exact post F σ H st
    · cases h
  | .nev, X, s, c, W, C, st, h => PS.imp ps_never fun D σ H ⟨F0, H0, F, env, o, st, h, post⟩ => by cases h
  | .cont, X, s, c, W, C, st, h => by
    unfold chkS at h
    split at h
    · refine PS.imp ps_continue fun D σ H ⟨F0, H0, F, env, o, st, h, post⟩ => ?_
      cases h
      exact post F σ H st
    · cases h
  | .brk, X, s, c, W, C, st, h => by
    unfold chkS at h
    split at h
    · refine PS.imp ps_break fun D σ H ⟨F0, H0, F, env, o, st, h, post⟩ => ?_
      cases h
      exact post F σ H st
    · cases h
theorem sndSs : ∀ (a : Sms) {X : Cx} {s : Sx} {c : Cl} {W : XK}, COS X s c W → ∀ {st : List Stmt}, chkSs a s st = true → PSs X st (tSs X.K W c a)
  | .nil, X, s, c, W, C, st, h => by
    unfold chkSs at h
    split at h
    · refine PSs.imp pss_nil fun D σ H ⟨F0, H0, F, env, o, st, h, post⟩ => ?_
      cases h
      exact post F σ H st
    · cases h
  | .cons a r, X, s, c, W, C, st, h => by
    unfold chkSs at h
    split at h
    · simp only [Bool.and_eq_true] at h
      refine PSs.imp (pss_cons (sndS a C h.1) (sndSs r C h.2)) fun D σ H ⟨F0, H0, F, env, o, st, h, post⟩ => ?_
      obtain ⟨o', g1, g2⟩ := bnd (show (exS c a env).bind _ = some o by simpa only [exSs] using h)
      refine ⟨F0, H0, F, env, o', st, g1, ?_⟩
      cases o' with
      | nx e2 => exact fun F' σ' H' st' => ⟨F0, H0, F', e2, o, st', g2, post⟩
      | rt r' => cases g2; exact post
      | bk e2 => cases g2; exact post
      | ct e2 => cases g2; exact post
    · cases h
  | .frz i r, X, s, c, W, C, st, h => by
    unfold chkSs at h
    refine PSs.imp (sndSs r C h) fun D σ H ⟨F0, H0, F, env, o, st, h, post⟩ => ?_
    obtain ⟨v, g1, g2⟩ := bnd (show ((env[i]?).join).bind _ = some o by simpa only [exSs] using h)
    have g1' : env[i]? = some (some v) := by
      cases q : env[i]? with
      | none => rw [q] at g1; cases g1
      | some o => rw [q] at g1; exact congrArg some g1
    obtain ⟨F', st'⟩ := st.frz g1'
    exact ⟨F0, H0, F', _, o, st', g2, post⟩
  | .del i r, X, s, c, W, C, st, h => by
    unfold chkSs at h
    refine PSs.imp (sndSs r C h) fun D σ H ⟨F0, H0, F, env, o, st, h, post⟩ => ?_
    exact ⟨F0, H0, F, _, o, st.del i, by simpa only [exSs] using h, post⟩
end
end
end Mn

namespace Mn
open PySem PySem.Spec PyProof.Rows L2

def spD (K : PySem.W.Frag) (np : Nat) (sem : List PyData → Option RV) : Sp := fun vs H Q _ => ∃ F ds r, Same F H ∧ RpAll K F vs ds ∧ ds.length = np ∧ sem ds = some r ∧ ∀ v F' H', Ext F H F' H' → View K F' H' v r → New r v H H' → Q v H'
def scB (N P : List Str) (sc : Scope) : Bool :=
  decide (sc.kind = .function) && !sc.isCoroutine && !sc.isGenerator && decide N.Nodup && decide (N.take P.length = P) && P.all (fun x => decide (sc.names.lookup x = some .local) || decide (sc.names.lookup x = some .cell)) && sc.names.all (fun y => !decide (y.2 = .free))
theorem scB_ok {N P : List Str} {sc : Scope} (h : scB N P sc = true) : FnScope N P sc := by
  unfold scB at h
  simp only [Bool.and_eq_true, Bool.not_eq_true', decide_eq_true_eq, List.all_eq_true, Bool.or_eq_true, decide_eq_false_iff_not] at h
  obtain ⟨⟨⟨⟨⟨⟨h1, h2⟩, h3⟩, h4⟩, h5⟩, h6⟩, h7⟩ := h
  exact ⟨h1, h2, h3, h4, h5, h6, h7⟩
def chkDX (fns gls xns N ps : List Str) (df : Df) (st : Stmt) : Bool :=
  scB N ps (defScope st) && decide (ps.length = df.np) && decide (N.length = df.n) && chkSs df.body ⟨defScope st, N, fun _ => true, fns, gls, xns⟩ (defBody st)
abbrev chkD (fns gls N ps : List Str) (df : Df) (st : Stmt) : Bool := chkDX fns gls [] N ps df st
/-- what the law's exceptions are: those that may come, those asked for, fields, those raised with a text -/
structure XTab where
  rzs : List Str := []
  cls : List Str := []
  fls : List Str := []
  m0s : List Str := []
  m1s : List (Str × Str) := []
  gds : List (Str × List (Str × Str)) := []
def tabX (sems : List (List PyData → Option RV)) (glb : List PyData) (xs : List (List PyData → Option RV)) (T : XTab) : Cl := ⟨fun j ds => (sems[j]?).bind fun s => s ds, fun j => glb[j]?, fun j ds => (xs[j]?).bind fun s => s ds, T.rzs, T.cls, T.fls, T.m0s, T.m1s, T.gds⟩
abbrev tabC (sems : List (List PyData → Option RV)) (glb : List PyData) : Cl := tabX sems glb [] {}
/-- the promise of a def that may raise -/
def spX (K : PySem.W.Frag) (np : Nat) (sem : List PyData → Option RV) : Sp := fun vs H Q E => ∃ F ds r, Same F H ∧ RpAll K F vs ds ∧ ds.length = np ∧ sem ds = some r ∧ (∀ v F' H', Ext F H F' H' → View K F' H' v r → New r v H H' → Q v H') ∧
  ∀ d, r = .xr d → ∀ F' H' cv dd, Ext F H F' H' → Xat K F' cv dd d → E cv dd H'

section
variable (P : Program) (w : World) (K : PySem.W.Frag) (mg : Str → Option Value) (base : Heap)
/-- a def that may be called -/
structure Cal (k : Nat) (nm : Str) (np : Nat) (sem : List PyData → Option RV) : Prop where
  len : ∀ ds r, sem ds = some r → ds.length = np
  ex : ∃ (f : Addr) (fd : FuncData) (ps : List Str), mg nm = some (.ref f) ∧ PySem.W.keepIn K (.ref f) = true ∧ Binds K fd ps [] ∧ FnOk P w K mg base CX0 k f fd ps (spD K np sem)
structure CalX (k : Nat) (nm : Str) (np : Nat) (sem : List PyData → Option RV) : Prop where
  len : ∀ ds r, sem ds = some r → ds.length = np
  ex : ∃ (f : Addr) (fd : FuncData) (ps : List Str), mg nm = some (.ref f) ∧ PySem.W.keepIn K (.ref f) = true ∧ Binds K fd ps [] ∧ FnOk P w K mg base (L2.CX P w) k f fd ps (spX K np sem)
inductive CalsX (k : Nat) : List Str → List (List PyData → Option RV) → Prop
  | nil : CalsX k [] []
  | cons {j : Nat} {x : Str} {np : Nat} {s : List PyData → Option RV} {xs : List Str} {ss : List (List PyData → Option RV)} : CalX P w K mg base j x np s → j ≤ k → CalsX k xs ss → CalsX k (x :: xs) (s :: ss)
inductive Cals (k : Nat) : List Str → List (List PyData → Option RV) → Prop
  | nil : Cals k [] []
  | cons {j : Nat} {x : Str} {np : Nat} {s : List PyData → Option RV} {xs : List Str} {ss : List (List PyData → Option RV)} : Cal P w K mg base j x np s → j ≤ k → Cals k xs ss → Cals k (x :: xs) (s :: ss)
inductive Gls : List Str → List PyData → Prop
  | nil : Gls [] []
  | cons {x : Str} {d : PyData} {xs : List Str} {ds : List PyData} : (∃ u v, mg x = some u ∧ RelV v u ∧ ∀ F, Rp K F v d) → Gls xs ds → Gls (x :: xs) (d :: ds)
end
section
variable {P : Program} {w : World} {K : PySem.W.Frag} {mg : Str → Option Value} {base : Heap}
theorem Cals.get {k : Nat} {xs : List Str} {ss : List (List PyData → Option RV)} (h : Cals P w K mg base k xs ss) : ∀ {f : Nat} {x : Str}, xs[f]? = some x → ∃ s j np, ss[f]? = some s ∧ j ≤ k ∧ Cal P w K mg base j x np s := by
  induction h with
  | nil => intro f x h; simp at h
  | cons c l _ ih =>
    intro f x h
    cases f with
    | zero => simp at h; subst h; exact ⟨_, _, _, rfl, l, c⟩
    | succ f => exact ih (by simpa using h)
theorem CalsX.get {k : Nat} {xs : List Str} {ss : List (List PyData → Option RV)} (h : CalsX P w K mg base k xs ss) : ∀ {f : Nat} {x : Str}, xs[f]? = some x → ∃ s j np, ss[f]? = some s ∧ j ≤ k ∧ CalX P w K mg base j x np s := by
  induction h with
  | nil => intro f x h; simp at h
  | cons c l _ ih =>
    intro f x h
    cases f with
    | zero => simp at h; subst h; exact ⟨_, _, _, rfl, l, c⟩
    | succ f => exact ih (by simpa using h)
theorem Gls.get {xs : List Str} {ds : List PyData} (h : Gls K mg xs ds) : ∀ {g : Nat} {x : Str} {d : PyData}, xs[g]? = some x → ds[g]? = some d → ∃ u v, mg x = some u ∧ RelV v u ∧ ∀ F, Rp K F v d := by
  induction h with
  | nil => intro g x d h; simp at h
  | cons c _ ih =>
    intro g x d h1 h2
    cases g with
    | zero => simp at h1 h2; subst h1; subst h2; exact c
    | succ g => exact ih (by simpa using h1) (by simpa using h2)
theorem runD_len {c : Cl} {df : Df} {ds : List PyData} {r : RV} (h : runD c df ds = some r) : ds.length = df.np := by
  unfold runD at h
  split at h
  · assumption
  · cases h
theorem rpStart {F : Hp} : ∀ {vs : List V} {ds : List PyData}, RpAll K F vs ds → ∀ (m : Nat) (i : Nat) (r : RV), (ds.map (fun d => some (RV.fz d)) ++ List.replicate m none)[i]? = some (some r) → ∃ v, (vs.map some ++ List.replicate m (none : Option V))[i]? = some (some v) ∧ ∃ d, r = .fz d ∧ Rp K F v d
  | _, _, .nil, m, i, r, h => by
    simp only [List.map_nil, List.nil_append, List.getElem?_replicate] at h
    split at h <;> cases h
  | _, _, .cons a t, m, 0, r, h => by
    simp at h
    subst h
    exact ⟨_, rfl, _, rfl, a⟩
  | _, _, .cons a t, m, i + 1, r, h => by
    obtain ⟨v, h1, h2⟩ := rpStart t m i r (by simpa using h)
    exact ⟨v, by simpa using h1, h2⟩
theorem runX_len {c : Cl} {df : Df} {ds : List PyData} {r : RV} (h : runX c df ds = some r) : ds.length = df.np := by
  unfold runX at h
  split at h
  · assumption
  · cases h
section
variable {fns gls xns : List Str} {ss xss : List (List PyData → Option RV)} {gs : List PyData} {T : XTab} {k : Nat}
theorem no1 {k : Nat} : ∀ nm f, ([] : List (Str × Str)).lookup nm = some f → X1 P w K mg base nm f ∧ 2 ≤ k := fun _ _ h => by cases h
/-- the context of a def -/
theorem co_mk (hs : Cals P w K mg base k fns ss) (hg : Gls K mg gls gs) (hx : CalsX P w K mg base k xns xss) (xc : XcOk K mg T.rzs T.cls T.fls T.m0s) (x1 : ∀ nm f, T.m1s.lookup nm = some f → X1 P w K mg base nm f ∧ 2 ≤ k) (gd : GdAt K mg w T.gds) (bn : ∀ x ∈ bnames, mg x = none) {X : Cx} {sc : Scope} {N : List Str}
    (e1 : X.prog = P) (e2 : X.w = w) (e3 : X.K = K) (e4 : X.mg = mg) (e5 : X.base = base) (e6 : X.env.scope = sc) (e7 : X.N = N) (nd : X.N.Nodup) (e8 : X.fn = fun _ => true) (cm : X.calm = true) (un : X.A.units + 200 < cLine) (hr : Room k X.A) :
    CO X ⟨sc, N, fun _ => true, fns, gls, xns⟩ (tabX ss gs xss T) := {
  sc := e6
  N := e7
  nd := nd
  fn := e8
  calm := cm
  un := un
  bn := by rw [e4]; exact bn
  fns := fun f x h => by
    subst e1 e2 e3 e4 e5
    obtain ⟨sm, j, np, q1, q2, c⟩ := hs.get h
    obtain ⟨fa, fd', ps', p1, p2, p3, p4⟩ := c.ex
    refine ⟨np, fun ds r h => c.len ds r ?_, ⟨CX0, j, fa, fd', ps', hr.mono q2, p1, p2, p3, ?_, fun _ _ _ _ _ h => h⟩⟩
    · have h : (ss[f]?).bind (fun s => s ds) = some r := h
      rw [q1] at h
      exact h
    · refine p4.imp fun vs H Q E ⟨F, ds, r, a1, a2, a3, a4, a5⟩ => ⟨F, ds, r, a1, a2, a3, ?_, a5⟩
      have h : (ss[f]?).bind (fun s => s ds) = some r := a4
      rw [q1] at h
      exact h
  gls := fun g x d h1 h2 => by subst e3 e4; exact hg.get h1 h2
  xfn := fun f x h => by
    subst e1 e2 e3 e4 e5
    obtain ⟨sm, j, np, q1, q2, c⟩ := hx.get h
    obtain ⟨fa, fd', ps', p1, p2, p3, p4⟩ := c.ex
    refine ⟨np, fun ds r h => c.len ds r ?_, ⟨j, fa, fd', ps', hr.mono q2, p1, p2, p3, ?_⟩⟩
    · have h : (xss[f]?).bind (fun s => s ds) = some r := h
      rw [q1] at h
      exact h
    · refine p4.imp fun vs H Q E ⟨F, ds, r, a1, a2, a3, a4, a5⟩ => ⟨F, ds, r, a1, a2, a3, ?_, a5⟩
      have h : (xss[f]?).bind (fun s => s ds) = some r := a4
      rw [q1] at h
      exact h
  xc := by rw [e3, e4]; exact xc
  x1 := fun nm f h => by
    subst e1 e2 e3 e4 e5
    exact ⟨(x1 nm f h).1, hr.mono (x1 nm f h).2⟩
  gd := by subst e2 e3 e4; exact gd }
theorem start_ok {F0 H : Hp} {N : List Str} {vs : List V} {ds : List PyData} {n np : Nat} (sm : Same F0 H) (ra : RpAll K F0 vs ds) (l : ds.length = np) (h3 : N.length = n) :
    StOk K F0 H F0 H (ds.map (fun d => some (RV.fz d)) ++ List.replicate (n - np) none) (L2.start N vs) := by
  have e0 : L2.start N vs = vs.map some ++ List.replicate (n - np) none := by
    unfold L2.start
    rw [ra.length, l, h3]
  have ok : EnvOk K F0 H (ds.map (fun d => some (RV.fz d)) ++ List.replicate (n - np) none) (L2.start N vs) := by
    rw [e0]
    refine ⟨sm, by simp [ra.length], fun i r h => ?_⟩
    obtain ⟨v, q1, d, rfl, q3⟩ := rpStart ra _ i r h
    exact ⟨v, q1, .fz q3⟩
  have no : ∀ i p, OwnAt H (ds.map (fun d => some (RV.fz d)) ++ List.replicate (n - np) none) (L2.start N vs) i p → False := fun i p ⟨r, u, q1, q2, q3⟩ => by
    obtain ⟨v, _, d, rfl, _⟩ := rpStart ra _ i r q1
    exact q3
  exact ⟨.refl sm, ok, fun i p h => (no i p h).elim, fun i j p h _ => (no i p h).elim⟩
/-- a def by its text and the check -/
theorem fn_mkT {x : Str} {st : Stmt} {f : Addr} {fd : FuncData} {N ps : List Str} {df : Df}
    (F : Fun K x x st f fd) (hc : chkDX fns gls xns N ps df st = true) (hs : Cals P w K mg base k fns ss) (hg : Gls K mg gls gs) (hx : CalsX P w K mg base k xns xss) (xc : XcOk K mg T.rzs T.cls T.fls T.m0s) (x1 : ∀ nm f, T.m1s.lookup nm = some f → X1 P w K mg base nm f ∧ 2 ≤ k) (bn : ∀ x ∈ bnames, mg x = none) (gd : GdAt K mg w T.gds := by first | assumption | exact GdAt.none) :
    FnOk P w K mg base CX0 (k + 1) f fd ps (spD K df.np (runD (tabX ss gs xss T) df)) := by
  unfold chkDX at hc
  simp only [Bool.and_eq_true, decide_eq_true_eq] at hc
  obtain ⟨⟨⟨h1, h2⟩, h3⟩, h4⟩ := hc
  have S := scB_ok h1
  refine F.ok S (fun vs H Q E ⟨_, ds, r, _, ra, l, _, _⟩ => by rw [ra.length, l, h2]) fun cdv A outer s H vs Q E hr ⟨F0, ds, r, sm, ra, l, hq, post⟩ => ?_
  let X : Cx := (cxOf CX0 P w K mg base N x (defScope st) f cdv A outer s H E).nox
  have un : X.A.units + 200 < cLine := by have := hr.un; show (A.deeper (envOfC x (defScope st) s.heap.objs.size f cdv)).units + 200 < cLine; omega
  have C0 : CO X ⟨defScope st, N, fun _ => true, fns, gls, xns⟩ (tabX ss gs xss T) := co_mk hs hg hx xc x1 gd bn rfl rfl rfl rfl rfl rfl rfl S.nd rfl rfl un hr
  have C : COS X ⟨defScope st, N, fun _ => true, fns, gls, xns⟩ (tabX ss gs xss T) (fun _ _ _ => False) := { toCO := C0, tk := fun _ _ ⟨_, _, _, _, _, _, _, _, _, _, _, _, _, _, _, _, h⟩ => h.elim, po := PassesOwn.never, stk := rfl, frm := rfl }
  refine ⟨_, sndSs df.body C h4, ?_⟩
  unfold runD at hq
  rw [if_pos l] at hq
  obtain ⟨o, g1, g2⟩ := bnd hq
  refine ⟨F0, H, F0, _, o, start_ok sm ra l h3, g1, ?_⟩
  cases o with
  | rt r' =>
    dsimp only at g2
    by_cases hx' : r'.isX = true
    · rw [if_pos hx'] at g2; cases g2
    rw [if_neg hx'] at g2
    cases g2
    exact ⟨fun v F1 H1 x1 w1 n1 => post v F1 H1 x1 w1 n1, fun d e => by subst e; exact absurd rfl hx'⟩
  | nx e =>
    cases g2
    exact fun F1 σ1 H1 s1 => post .non F1 H1 s1.ext (.fz .non) newFz
  | bk e => cases g2
  | ct e => cases g2
theorem fn_mkX {x : Str} {st : Stmt} {f : Addr} {fd : FuncData} {N ps : List Str} {df : Df}
    (F : Fun K x x st f fd) (hc : chkDX fns gls xns N ps df st = true) (hs : Cals P w K mg base k fns ss) (hg : Gls K mg gls gs) (hx : CalsX P w K mg base k xns xss) (xc : XcOk K mg T.rzs T.cls T.fls T.m0s) (x1 : ∀ nm f, T.m1s.lookup nm = some f → X1 P w K mg base nm f ∧ 2 ≤ k) (bn : ∀ x ∈ bnames, mg x = none) (gd : GdAt K mg w T.gds := by first | assumption | exact GdAt.none) :
    FnOk P w K mg base (L2.CX P w) (k + 1) f fd ps (spX K df.np (runX (tabX ss gs xss T) df)) := by
  unfold chkDX at hc
  simp only [Bool.and_eq_true, decide_eq_true_eq] at hc
  obtain ⟨⟨⟨h1, h2⟩, h3⟩, h4⟩ := hc
  have S := scB_ok h1
  refine F.okX S (fun vs H Q E ⟨_, ds, r, _, ra, l, _, _⟩ => by rw [ra.length, l, h2]) fun cdv A outer s H vs Q E hr ⟨F0, ds, r, sm, ra, l, hq, post, px⟩ => ?_
  let X : Cx := cxOf (L2.CX P w) P w K mg base N x (defScope st) f cdv A outer s H E
  have un : X.A.units + 200 < cLine := by have := hr.un; show (A.deeper (envOfC x (defScope st) s.heap.objs.size f cdv)).units + 200 < cLine; omega
  have C0 : CO X ⟨defScope st, N, fun _ => true, fns, gls, xns⟩ (tabX ss gs xss T) := co_mk hs hg hx xc x1 gd bn rfl rfl rfl rfl rfl rfl rfl S.nd rfl rfl un hr
  have C : COS X ⟨defScope st, N, fun _ => true, fns, gls, xns⟩ (tabX ss gs xss T) E := { toCO := C0, tk := takes_of rfl rfl rfl rfl, po := passes_of rfl, stk := rfl, frm := rfl }
  refine ⟨_, sndSs df.body C h4, ?_⟩
  unfold runX at hq
  rw [if_pos l] at hq
  obtain ⟨o, g1, g2⟩ := bnd hq
  refine ⟨F0, H, F0, _, o, start_ok sm ra l h3, g1, ?_⟩
  cases o with
  | rt r' =>
    cases g2
    exact ⟨fun v F1 H1 x1 w1 n1 => post v F1 H1 x1 w1 n1, fun d e F1 H1 cv dd x1 q => px d e F1 H1 cv dd x1 q⟩
  | nx e =>
    cases g2
    exact fun F1 σ1 H1 s1 => post .non F1 H1 s1.ext (.fz .non) newFz
  | bk e => cases g2
  | ct e => cases g2
theorem cal_mkT {x : Str} {st : Stmt} {f : Addr} {fd : FuncData} {N ps : List Str} {df : Df}
    (F : Fun K x x st f fd) (hm : mg x = some (.ref f)) (hb : Binds K fd ps []) (hc : chkDX fns gls xns N ps df st = true) (hs : Cals P w K mg base k fns ss) (hg : Gls K mg gls gs) (hx : CalsX P w K mg base k xns xss) (xc : XcOk K mg T.rzs T.cls T.fls T.m0s) (x1 : ∀ nm f, T.m1s.lookup nm = some f → X1 P w K mg base nm f ∧ 2 ≤ k) (bn : ∀ x ∈ bnames, mg x = none) (gd : GdAt K mg w T.gds := by first | assumption | exact GdAt.none) :
    Cal P w K mg base (k + 1) x df.np (runD (tabX ss gs xss T) df) :=
  ⟨fun ds r h => runD_len h, f, fd, ps, hm, F.kp, hb, fn_mkT F hc hs hg hx xc x1 bn gd⟩
theorem cal_mkX {x : Str} {st : Stmt} {f : Addr} {fd : FuncData} {N ps : List Str} {df : Df}
    (F : Fun K x x st f fd) (hm : mg x = some (.ref f)) (hb : Binds K fd ps []) (hc : chkDX fns gls xns N ps df st = true) (hs : Cals P w K mg base k fns ss) (hg : Gls K mg gls gs) (hx : CalsX P w K mg base k xns xss) (xc : XcOk K mg T.rzs T.cls T.fls T.m0s) (x1 : ∀ nm f, T.m1s.lookup nm = some f → X1 P w K mg base nm f ∧ 2 ≤ k) (bn : ∀ x ∈ bnames, mg x = none) (gd : GdAt K mg w T.gds := by first | assumption | exact GdAt.none) :
    CalX P w K mg base (k + 1) x df.np (runX (tabX ss gs xss T) df) :=
  ⟨fun ds r h => runX_len h, f, fd, ps, hm, F.kp, hb, fn_mkX F hc hs hg hx xc x1 bn gd⟩
theorem fn_mk {x : Str} {st : Stmt} {f : Addr} {fd : FuncData} {N ps : List Str} {df : Df}
    (F : Fun K x x st f fd) (hc : chkD fns gls N ps df st = true) (hs : Cals P w K mg base k fns ss) (hg : Gls K mg gls gs) (bn : ∀ x ∈ bnames, mg x = none) :
    FnOk P w K mg base CX0 (k + 1) f fd ps (spD K df.np (runD (tabC ss gs) df)) := fn_mkT F hc hs hg .nil XcOk.none no1 bn
theorem cal_mk {x : Str} {st : Stmt} {f : Addr} {fd : FuncData} {N ps : List Str} {df : Df}
    (F : Fun K x x st f fd) (hm : mg x = some (.ref f)) (hb : Binds K fd ps []) (hc : chkD fns gls N ps df st = true) (hs : Cals P w K mg base k fns ss) (hg : Gls K mg gls gs) (bn : ∀ x ∈ bnames, mg x = none) :
    Cal P w K mg base (k + 1) x df.np (runD (tabC ss gs) df) := cal_mkT F hm hb hc hs hg .nil XcOk.none no1 bn
end
def scrD (ns : List Int) : PyData := .dict [(.none, .list (ns.map PyData.int))]
/-- the law's own promise -/
theorem law_sp {sem : List PyData → Option RV} {n : Nat} (h : ∀ ns : List Int, ns.length ≤ n → sem [scrD ns] = some (.fz (.bool true))) (H : Hp) (a : Addr) (ns : List Int) (hl : ns.length ≤ n) (hS : SqL K H a (ns.map V.int)) :
    spD K 1 sem [.ref a] H (fun v _ => v = .bl true) fun _ _ _ => False :=
  ⟨H, [scrD ns], _, Same.refl _, .cons (.scr hS) .nil, rfl, h ns hl, fun v F' H' x w n => w.bool⟩
end
end Mn

namespace Mn
open PySem PySem.Spec PyProof.Rows L2
section
variable {K : PySem.W.Frag} {mg : Str → Option Value} {x : Str}
theorem gl_int {i : Int} {t : Tok} (h : mg x = some (.int i t)) : ∃ u v, mg x = some u ∧ RelV v u ∧ ∀ F, Rp K F v (.int i) := ⟨_, .int i, h, ⟨t, rfl⟩, fun _ => .int i⟩
theorem gl_str {z : Str} {t : Tok} (h : mg x = some (.str z t)) : ∃ u v, mg x = some u ∧ RelV v u ∧ ∀ F, Rp K F v (.str z) := ⟨_, .str z, h, ⟨t, rfl⟩, fun _ => .str z⟩
theorem gl_tup {a : Addr} {its : List Value} {n : Nat} {sl : Array (Option Value)} {vs : List V} {ds : List PyData} (h : mg x = some (.ref a)) (l : K.lookup a = some ⟨.type "tuple", none, .seq its.toArray n, sl⟩) (hv : Vals vs its) (hd : ∀ F, RpAll K F vs ds) (hl : its.length ≤ 1000) :
    ∃ u v, mg x = some u ∧ RelV v u ∧ ∀ F, Rp K F v (.tuple ds) :=
  ⟨_, .ref a, h, rfl, fun F => .tup (.inr ⟨_, its.toArray, n, l, rfl, rfl, rfl, by rw [sizeLine_eq]; simpa using Nat.le_trans hl (by decide), by simpa using hv⟩) (hd F)⟩
theorem pr_of {C E : Addr} {b : Bool} (d : XcD K E) (s : PySem.W.subIn K (.ref C) (.ref E) = some b) (r : C = E → b = true) : PySem.W.kitOne K (.ref C) (.ref E) = some b ∧ PySem.W.exmOne K (.ref C) (.ref E) = some b := ⟨kit_of d.cl d.ty s r, exm_of' d s⟩
end
/-- an __init__ that calls its base's and sets one field -/
def chkI1 (ps : List Str) (arg : Str) (sc : Scope) : Bool := decide (ps = [("self" : Str), arg]) && scB [("self" : Str), arg] ps sc && decide (sc.names.lookup ("self" : Str) = some NameKind.local) && decide (sc.names.lookup arg = some NameKind.local) && decide (sc.names.lookup ("SplitError" : Str) = some NameKind.globalImplicit) && okN arg
theorem fn_init {P : Program} {w : World} {K : PySem.W.Frag} {mg : Str → Option Value} {base : Heap} {qual f arg txt : Str} {st : Stmt} {fI C S : Addr} {fd : FuncData} {ps : List Str} {q1 a1 q2 q4 p1 q5 q6 q7 q8 q9 : Pos} {q3 : Nat} {pl : Env → Sem Bool} (F : Fun K "__init__" qual st fI fd) (hc : chkI1 ps arg (defScope st) = true)
    (eb : defBody st = [.Expr (.Call (.Attribute (.Name ("SplitError" : Str) q1) ("__init__" : Str) a1) [.Name ("self" : Str) q2, .Constant (.str txt) q3 q4] [] p1) q5, .Assign [.Attribute (.Name ("self" : Str) q6) f q7] (.Name arg q8) q9])
    (ec : ∀ env : Env, eval (.Call (.Attribute (.Name ("SplitError" : Str) q1) ("__init__" : Str) a1) [.Name ("self" : Str) q2, .Constant (.str txt) q3 q4] [] p1) env = (do
      let ov ← eval (.Name ("SplitError" : Str) q1) env
      standAt a1.atName
      let (f, first) ← holding [ov] (getMethod ov ("__init__" : Str) (pl env))
      callWith p1 f first (backTo p1 (starEach [.Name ("self" : Str) q2, .Constant (.str txt) q3 q4] env)) (backToKw p1 (keywordEach [] env))))
    (T : OexC K C) (Ts : SeI K mg S) (hf : PySem.W.findIn K (.ref C) f = some none) : FnOk P w K mg base CX0 1 fI fd ps (spI C f) := by
  unfold chkI1 at hc
  simp only [Bool.and_eq_true, decide_eq_true_eq] at hc
  obtain ⟨⟨⟨⟨⟨h1, h2⟩, h3⟩, h4⟩, h5⟩, h6⟩ := hc
  have Sc := scB_ok h2
  subst h1
  refine F.ok Sc (fun vs H Q E ⟨_, _, e, _⟩ => by rw [e]; rfl) fun cdv A outer s H vs Q E hr ⟨a, v, e1, e2, e3⟩ => ?_
  subst e1
  rw [eb]
  let X : Cx := (cxOf CX0 P w K mg base [("self" : Str), arg] qual (defScope st) fI cdv A outer s H E).nox
  have v0 : PE X (.Name ("self" : Str) q2) (tVar 0) := pe_var rfl (.inl h3) (by decide +kernel) (by decide +kernel)
  have v0' : PE X (.Name ("self" : Str) q6) (tVar 0) := pe_var rfl (.inl h3) (by decide +kernel) (by decide +kernel)
  have v1 : PE X (.Name arg q8) (tVar 1) := pe_var rfl (.inl h4) (okN1 h6).1 (okN1 h6).2
  refine ⟨_, pss_cons (ps_expr (pe_seinit (X := X) (S := S) (pl := pl X.env) Ts h5 (pa_cons v0 (pa_cons pe_str pa_nil)) (ec _)) (swap_call _ _ _)) (pss_one (ps_ost (X := X) v0' v1 rfl)), ?_⟩
  refine ⟨_, rfl, a, C, [.str txt], rfl, by simp, T, e2, ?_⟩
  exact ⟨_, rfl, _, rfl, a, C, rfl, T, hf, .inl ⟨e2, fun dx nd ne => e3 dx nd ne⟩⟩
theorem lk_memG {β : Type} {nm : Str} {f : β} : ∀ {l : List (Str × β)}, l.lookup nm = some f → (nm, f) ∈ l
  | [], h => by cases h
  | (a, b) :: l, h => by
    rw [List.lookup_cons] at h
    split at h
    · rename_i q
      cases h
      rw [beq_iff_eq] at q
      subst q
      simp
    · exact List.mem_cons_of_mem _ (lk_memG h)
theorem lk_mem {nm f : Str} : ∀ {l : List (Str × Str)}, l.lookup nm = some f → (nm, f) ∈ l
  | [], h => by cases h
  | (a, b) :: l, h => by
    rw [List.lookup_cons] at h
    split at h
    · rename_i q
      cases h
      rw [beq_iff_eq] at q
      subst q
      simp
    · exact List.mem_cons_of_mem _ (lk_mem h)
theorem x1_mk {P : Program} {w : World} {K : PySem.W.Frag} {mg : Str → Option Value} {base : Heap} {nm f : Str} {C fI : Addr} {fd : FuncData} {ps : List Str} (h1 : ClsAt K nm C) (h2 : mg nm = some (.ref C)) (h3 : OexC K C) (h4 : PySem.W.findIn K (.ref C) "__init__" = some (some (.ref fI))) (h5 : PySem.W.typeIn K (.ref fI) = some (.type "function")) (h6 : Binds K fd ps [])
    (h7 : FnOk P w K mg base CX0 1 fI fd ps (spI C f)) : X1 P w K mg base nm f := ⟨C, fI, fd, ps, h1, h2, h3, h4, h5, h6, h7⟩
end Mn

namespace Mn
open PySem PySem.Spec PyProof.Rows L2

@[simp] theorem q_ev_var (c : Cl) (env : Ev) (i : Nat) : ev c env (.var i) = ((env[i]?).join) := by simp only [ev]
@[simp] theorem q_ev_int (c : Cl) (env : Ev) (i : Int) : ev c env (.int i) = (some (.fz (.int i))) := by simp only [ev]
@[simp] theorem q_ev_str (c : Cl) (env : Ev) (x : Str) : ev c env (.str x) = (some (.fz (.str x))) := by simp only [ev]
@[simp] theorem q_ev_bl (c : Cl) (env : Ev) (b : Bool) : ev c env (.bl b) = (some (.fz (.bool b))) := by simp only [ev]
@[simp] theorem q_ev_non (c : Cl) (env : Ev)  : ev c env (.non ) = (some (.fz .none)) := by simp only [ev]
@[simp] theorem q_ev_glb (c : Cl) (env : Ev) (g : Nat) : ev c env (.glb g) = ((c.glb g).map .fz) := by simp only [ev]
@[simp] theorem q_ev_bin (c : Cl) (env : Ev) (o : Bo) (a : Ex) (b : Ex) : ev c env (.bin o a b) = ((ev c env a).bind fun x => (ev c env b).bind fun y => binD o x y) := by simp only [ev]
@[simp] theorem q_ev_neg (c : Cl) (env : Ev) (a : Ex) : ev c env (.neg a) = (((ev c env a).bind asInt).map fun i => .fz (.int (-i))) := by simp only [ev]
@[simp] theorem q_ev_not (c : Cl) (env : Ev) (a : Ex) : ev c env (.not a) = (((ev c env a).bind asBool).map fun b => .fz (.bool (!b))) := by simp only [ev]
@[simp] theorem q_ev_one (c : Cl) (env : Ev) (a : Ex) : ev c env (.one a) = ((ev c env a).bind fun r => (ownD a r).map .fz) := by simp only [ev]
@[simp] theorem q_ev_and (c : Cl) (env : Ev) (a : Ex) (b : Ex) : ev c env (.and a b) = (((ev c env a).bind asBool).bind fun k => if k then (ev c env b).bind fun r => (ownD b r).map .fz else some (.fz (.bool false))) := by simp only [ev]
@[simp] theorem q_ev_or (c : Cl) (env : Ev) (a : Ex) (b : Ex) : ev c env (.or a b) = (((ev c env a).bind asBool).bind fun k => if k then some (.fz (.bool true)) else (ev c env b).bind fun r => (ownD b r).map .fz) := by simp only [ev]
@[simp] theorem q_ev_cmp (c : Cl) (env : Ev) (o : Co) (a : Ex) (b : Ex) : ev c env (.cmp o a b) = ((ev c env a).bind fun x => (ev c env b).bind fun y => (cmpD o x.d y.d).map fun k => .fz (.bool k)) := by simp only [ev]
@[simp] theorem q_ev_chn (c : Cl) (env : Ev) (o : Co) (o' : Co) (a : Ex) (b : Ex) (e : Ex) : ev c env (.chn o o' a b e) = ((ev c env a).bind fun x => (ev c env b).bind fun y => (cmpD o x.d y.d).bind fun k => if k then (ev c env e).bind fun z => (cmpD o' y.d z.d).map fun k => .fz (.bool k) else some (.fz (.bool false))) := by simp only [ev]
@[simp] theorem q_ev_chn3 (c : Cl) (env : Ev) (o : Co) (o' : Co) (o2 : Co) (a : Ex) (b : Ex) (e : Ex) (d : Ex) : ev c env (.chn3 o o' o2 a b e d) = ((ev c env a).bind fun x => (ev c env b).bind fun y => (cmpD o x.d y.d).bind fun k => if k then (ev c env e).bind fun z => (cmpD o' y.d z.d).bind fun k => if k then (ev c env d).bind fun u => (cmpD o2 z.d u.d).map fun k => .fz (.bool k) else some (.fz (.bool false)) else some (.fz (.bool false))) := by simp only [ev]
@[simp] theorem q_ev_dsx (c : Cl) (env : Ev) (kvs : List (Str × Str)) (k : Ex) : ev c env (.dsx kvs k) = (ev c env k).bind fun r => dsxD kvs r := by simp only [ev]
@[simp] theorem q_isVar_dsx (kvs : List (Str × Str)) (k : Ex) : isVar (.dsx kvs k) = false := rfl
@[simp] theorem q_dsx (kvs : List (Str × Str)) (s : Str) : dsxD kvs (.fz (.str s)) = (strLook kvs s).map fun v => .fz (.str v) := rfl
@[simp] theorem q_mtI (x y : RV) : mtD .index x [y] = indexD x y := rfl
@[simp] theorem q_mtC (x y : RV) : mtD .count x [y] = countD x y := rfl
@[simp] theorem q_mtJ (x y : RV) : mtD .join x [y] = joinD x y := rfl
theorem q_ev_mkx (c : Cl) (env : Ev) (C : Str) (e : Ex) : ev c env (.mkx C e) = (ev c env e).bind fun r => (ownD e r).bind fun d => (mkD c C d).map .fz := by simp only [ev]
@[simp] theorem q_isVar_mkx (C : Str) (e : Ex) : isVar (.mkx C e) = false := rfl
theorem q_ev_gdx (c : Cl) (env : Ev) (x : Str) (k : Ex) : ev c env (.gdx x k) = (ev c env k).bind fun r => (c.gds.lookup x).bind fun kvs => gdD kvs r := by simp only [ev]
@[simp] theorem q_isVar_gdx (x : Str) (k : Ex) : isVar (.gdx x k) = false := rfl
theorem q_ev_lenD (c : Cl) (env : Ev) (i : Nat) : ev c env (.lenD i) = (onAt env i).map fun dss => .fz (.int (dss.length : Nat)) := by simp only [ev]
@[simp] theorem q_isVar_lenD (i : Nat) : isVar (.lenD i) = false := rfl
theorem q_ev_lenI (c : Cl) (env : Ev) (i : Nat) (k : Ex) : ev c env (.lenI i k) = (onAt env i).bind fun dss => ((ev c env k).bind asInt).bind fun n => (atI dss n).map fun ds => .fz (.int (ds.length : Nat)) := by simp only [ev]
@[simp] theorem q_isVar_lenI (i : Nat) (k : Ex) : isVar (.lenI i k) = false := rfl
theorem q_ev_rvt (c : Cl) (env : Ev) (a : Ex) : ev c env (.rvt a) = (ev c env a).bind fun x => x.seq.map fun ds => .fz (.tuple ds.reverse) := by simp only [ev]
@[simp] theorem q_isVar_rvt (a : Ex) : isVar (.rvt a) = false := rfl
theorem q_ev_rvl (c : Cl) (env : Ev) (a : Ex) : ev c env (.rvl a) = (ev c env a).bind fun x => x.seq.map fun ds => .ol ds.reverse := by simp only [ev]
@[simp] theorem q_isVar_rvl (a : Ex) : isVar (.rvl a) = false := rfl
theorem q_ev_sls (c : Cl) (env : Ev) (a : Ex) (lo st : Int) : ev c env (.sls a lo st) = (ev c env a).bind fun x => x.lst.bind fun ds => if 0 < st then some (.ol (pickX ds lo st)) else none := by simp only [ev]
@[simp] theorem q_isVar_sls (a : Ex) (lo st : Int) : isVar (.sls a lo st) = false := rfl
theorem q_ev_dsv (c : Cl) (env : Ev) (k1 k2 : Str) (a b k : Ex) : ev c env (.dsv k1 k2 a b k) = ((ev c env a).bind asStr).bind fun x => ((ev c env b).bind asStr).bind fun y => (ev c env k).bind fun r => dsxD [(k1, x), (k2, y)] r := by simp only [ev]
@[simp] theorem q_isVar_dsv (k1 k2 : Str) (a b k : Ex) : isVar (.dsv k1 k2 a b k) = false := rfl
@[simp] theorem q_ev_ite (c : Cl) (env : Ev) (t : Ex) (a : Ex) (b : Ex) : ev c env (.ite t a b) = (((ev c env t).bind asBool).bind fun k => if k then (ev c env a).bind fun r => (ownD a r).map .fz else (ev c env b).bind fun r => (ownD b r).map .fz) := by simp only [ev]
@[simp] theorem q_ev_tup (c : Cl) (env : Ev) (es : Exs) : ev c env (.tup es) = ((evs c env es).bind fun ds => if ds.length ≤ LIM then some (.fz (.tuple ds)) else none) := by simp only [ev]
@[simp] theorem q_ev_lst (c : Cl) (env : Ev) (es : Exs) : ev c env (.lst es) = ((evs c env es).bind fun ds => if ds.length ≤ LIM then some (.ol ds) else none) := by simp only [ev]
@[simp] theorem q_ev_call (c : Cl) (env : Ev) (f : Nat) (es : Exs) : ev c env (.call f es) = ((evb c env es).bind fun p => callD (c.call f p.1) p.2) := by simp only [ev]
@[simp] theorem q_ev_bi (c : Cl) (env : Ev) (b : Bi) (es : Exs) : ev c env (.bi b es) = ((evr c env es).bind fun rs => biD b rs) := by simp only [ev]
@[simp] theorem q_ev_mt (c : Cl) (env : Ev) (m : Mt) (a : Ex) (es : Exs) : ev c env (.mt m a es) = ((ev c env a).bind fun x => (evr c env es).bind fun rs => mtD m x rs) := by simp only [ev]
@[simp] theorem q_ev_idx (c : Cl) (env : Ev) (a : Ex) (i : Ex) : ev c env (.idx a i) = ((ev c env a).bind fun x => (ev c env i).bind fun y => idxD x y) := by simp only [ev]
@[simp] theorem q_ev_slc (c : Cl) (env : Ev) (a : Ex) (lo : Ex) (hi : Ex) : ev c env (.slc a lo hi) = ((ev c env a).bind fun x => (evo c env lo).bind fun l => (evo c env hi).bind fun h => slcD x l h) := by simp only [ev]
@[simp] theorem q_ev_emp (c : Cl) (env : Ev)  : ev c env (.emp ) = (none) := by simp only [ev]
def cmpB (c : Cl) (env : Ev) (e : Ex) (tg : Tg) (t : Ex) : PyData → Option (Option PyData) := fun x => (bindT tg env x).bind fun env' => (evt c env' t).bind fun k => if k then (ev c env' e).bind fun r => (ownD e r).map some else some none
@[simp] theorem q_ev_comp (c : Cl) (env : Ev) (e : Ex) (tg : Tg) (it : Mn.Itr) (t : Ex) (own : List Nat) : ev c env (.comp e tg it t own) = ((evi c env it).bind fun items => (compL (cmpB c (wipeE env own) e tg t) items).bind fun ds => if items.length ≤ LIM then some (.ol ds) else none) := by simp only [ev]; rfl
theorem q_exS_tryN (c : Cl) (env : Ev) (b : Sms) : exS c (.tryN b) env = (exSs c b env).bind fun o => if o.isX then none else some o := by simp only [exS]
@[simp] theorem q_evs_nil (c : Cl) (env : Ev)  : evs c env (.nil ) = (some []) := by simp only [evs]
@[simp] theorem q_evs_cons (c : Cl) (env : Ev) (e : Ex) (es : Exs) : evs c env (.cons e es) = ((ev c env e).bind fun r => (ownD e r).bind fun d => (evs c env es).bind fun ds => some (d :: ds)) := by simp only [evs]
@[simp] theorem q_evb_nil (c : Cl) (env : Ev)  : evb c env (.nil ) = (some ([], false)) := by simp only [evb]
@[simp] theorem q_evb_cons (c : Cl) (env : Ev) (e : Ex) (es : Exs) : evb c env (.cons e es) = ((ev c env e).bind fun r => (evb c env es).bind fun p => some (r.d :: p.1, (isVar e && r.isOwn) || p.2)) := by simp only [evb]
@[simp] theorem q_evr_nil (c : Cl) (env : Ev)  : evr c env (.nil ) = (some []) := by simp only [evr]
@[simp] theorem q_evr_cons (c : Cl) (env : Ev) (e : Ex) (es : Exs) : evr c env (.cons e es) = ((ev c env e).bind fun r => (evr c env es).bind fun rs => some (r :: rs)) := by simp only [evr]
@[simp] theorem q_evi_ex (c : Cl) (env : Ev) (e : Ex) : evi c env (.ex e) = ((ev c env e).bind itemsOf) := by simp only [evi]
@[simp] theorem q_evi_r1 (c : Cl) (env : Ev) (a : Ex) : evi c env (.r1 a) = (((ev c env a).bind asInt).bind fun n => if -1000000 ≤ n ∧ n ≤ 1000000 then some (rngD 0 n.toNat) else none) := by simp only [evi]
@[simp] theorem q_evi_r2 (c : Cl) (env : Ev) (a : Ex) (b : Ex) : evi c env (.r2 a b) = (((ev c env a).bind asInt).bind fun m => ((ev c env b).bind asInt).bind fun n => if -1000000 ≤ m ∧ m ≤ 1000000 ∧ -1000000 ≤ n ∧ n ≤ 1000000 then some (rngD m (n - m).toNat) else none) := by simp only [evi]
@[simp] theorem q_evi_r3 (c : Cl) (env : Ev) (a : Ex) (b : Ex) (e : Ex) : evi c env (.r3 a b e) = (((ev c env a).bind asInt).bind fun m => ((ev c env b).bind asInt).bind fun n => ((ev c env e).bind asInt).bind fun k => if -1000000 ≤ m ∧ m ≤ 1000000 ∧ -1000000 ≤ n ∧ n ≤ 1000000 ∧ k = -1 then some (rngC m (-1) (m - n).toNat) else none) := by simp only [evi]
@[simp] theorem q_evi_zip (c : Cl) (env : Ev) (a : Ex) (b : Ex) : evi c env (.zip a b) = ((ev c env a).bind fun x => (ev c env b).bind fun y => zipR x y) := by simp only [evi]
theorem q_evi_zip3 (c : Cl) (env : Ev) (a b d : Ex) : evi c env (.zip3 a b d) = ((ev c env a).bind fun x => (ev c env b).bind fun y => (ev c env d).bind fun z => zipR3 x y z) := by simp only [evi]
@[simp] theorem q_evi_en (c : Cl) (env : Ev) (a : Ex) : evi c env (.en a) = ((ev c env a).bind fun x => (itemsOf x).map fun xs => enD 0 xs) := by simp only [evi]
@[simp] theorem q_evi_rv (c : Cl) (env : Ev) (a : Ex) : evi c env (.rv a) = (((ev c env a).bind RV.seq).map List.reverse) := by simp only [evi]
@[simp] theorem q_flat_fz (d : PyData) : RV.flat (.fz d) = true := rfl
@[simp] theorem q_flat_ol (d : List PyData) : RV.flat (.ol d) = true := rfl
@[simp] theorem q_flat_od (d : List (PyData × PyData)) : RV.flat (.od d) = true := rfl
theorem q_evi_exD (c : Cl) (env : Ev) (i : Nat) (k : Ex) : evi c env (.exD i k) = ((onAt env i).bind fun dss => ((ev c env k).bind asInt).bind fun n => atI dss n) := by simp only [evi]
theorem q_evi_zipD (c : Cl) (env : Ev) (i : Nat) (k : Ex) (j : Nat) (l : Ex) : evi c env (.zipD i k j l) = ((onAt env i).bind fun dss => ((ev c env k).bind asInt).bind fun n => (atI dss n).bind fun xs => (onAt env j).bind fun ess => ((ev c env l).bind asInt).bind fun m => (atI ess m).map fun ys => Mn.zipD xs ys) := by simp only [evi]
def dB (c : Cl) (e : Ex) (tg : Tg) (env : Ev) (own : List Nat) : PyData → Option (List PyData) := fun x => (bindT tg (wipeE env own) x).bind fun env' => (ev c env' e).bind fun r => if isVar e then none else asRow r
theorem q_exS_asgD (c : Cl) (env : Ev) (i : Nat) (e : Ex) (tg : Tg) (it : Mn.Itr) (own : List Nat) : exS c (.asgD i e tg it own) env = ((evi c env it).bind fun items => (compD (dB c e tg env own) items).bind fun dss => if items.length ≤ LIM then some (.nx (env.set i (some (.on dss)))) else none) := by simp only [exS]; rfl
theorem q_exS_asgL (c : Cl) (env : Ev) (i : Nat) (e : Ex) : exS c (.asgL i e) env = ((ev c env e).bind fun r => (if isVar e then none else asRow r).bind fun es => some (.nx (env.set i (some (.on [es]))))) := by simp only [exS]
theorem q_exS_appD (c : Cl) (env : Ev) (i : Nat) (e : Ex) : exS c (.appD i e) env = ((onAt env i).bind fun dss => (ev c env e).bind fun r => (if isVar e then none else asRow r).bind fun es => if dss.length < LIM then some (.nx (env.set i (some (.on (dss ++ [es]))))) else none) := by simp only [exS]
theorem q_exS_appI (c : Cl) (env : Ev) (i : Nat) (k e : Ex) : exS c (.appI i k e) env = ((onAt env i).bind fun dss => ((ev c env k).bind asInt).bind fun n => (ixN dss.length n).bind fun j => (dss[j]?).bind fun ds => (ev c env e).bind fun r => (ownD e r).bind fun d => if ds.length < LIM ∧ dss.length ≤ LIM then some (.nx (env.set i (some (.on (dss.set j (ds ++ [d])))))) else none) := by simp only [exS]
theorem q_exS_popI (c : Cl) (env : Ev) (i : Nat) (k : Ex) : exS c (.popI i k) env = ((onAt env i).bind fun dss => ((ev c env k).bind asInt).bind fun n => (ixN dss.length n).bind fun j => (dss[j]?).bind fun ds => if 0 < ds.length ∧ ds.length ≤ LIM ∧ dss.length ≤ LIM then some (.nx (env.set i (some (.on (dss.set j ds.dropLast))))) else none) := by simp only [exS]
theorem q_exS_popD (c : Cl) (env : Ev) (i : Nat) : exS c (.popD i) env = ((onAt env i).bind fun dss => if 0 < dss.length ∧ dss.length ≤ LIM then some (.nx (env.set i (some (.on dss.dropLast)))) else none) := by simp only [exS]
theorem q_exS_retX (c : Cl) (env : Ev) (e k : Ex) : exS c (.retX e k) env = ((ev c env e).bind fun r => (if isVar e then none else asOn r).bind fun dss => ((ev c env k).bind asInt).bind fun n => (atI dss n).map fun ds => .rt (.ol ds)) := by simp only [exS]
theorem q_exS_stiD (c : Cl) (env : Ev) (i : Nat) (k : Ex) (e : Ex) : exS c (.stiD i k e) env = ((ev c env e).bind fun r => (if isVar e then none else asRow r).bind fun es => (onAt env i).bind fun dss => ((ev c env k).bind asInt).bind fun n => (ixN dss.length n).bind fun j => some (.nx (env.set i (some (.on (dss.set j es)))))) := by simp only [exS]
theorem q_exS_forR (c : Cl) (env : Ev) (j i : Nat) (b : Rbs) : exS c (.forR j i b) env = (if i = j then none else (onAt env i).bind fun dss => (rowsD (fun es => (exR c j b ((env.set i none).set j (some (.ol es)))).bind fun env' => olAt env' j) dss).bind fun dss' => some (.nx ((env.set i (some (.on dss'))).set j none))) := by simp only [exS]
@[simp] theorem q_exS_asg (c : Cl) (env : Ev) (i : Nat) (e : Ex) : exS c (.asg i e) env = ((ev c env e).bind fun r => if isVar e && r.isOwn then none else some (.nx (env.set i (some r)))) := by simp only [exS]
@[simp] theorem q_exS_unp (c : Cl) (env : Ev) (is : List Nat) (e : Ex) : exS c (.unp is e) env = ((ev c env e).bind fun r => (ownD e r).bind fun d => (bindT (.tp is) env d).map .nx) := by simp only [exS]
@[simp] theorem q_exS_app (c : Cl) (env : Ev) (i : Nat) (e : Ex) : exS c (.app i e) env = ((olAt env i).bind fun ds => (ev c env e).bind fun r => (ownD e r).bind fun d => if ds.length < LIM then some (.nx (env.set i (some (.ol (ds ++ [d]))))) else none) := by simp only [exS]
@[simp] theorem q_exS_ext (c : Cl) (env : Ev) (i : Nat) (e : Ex) : exS c (.ext i e) env = ((olAt env i).bind fun ds => (ev c env e).bind fun r => r.seqT.bind fun es => if ds.length + es.length ≤ LIM then some (.nx (env.set i (some (.ol (ds ++ es))))) else none) := by simp only [exS]
@[simp] theorem q_exS_pop (c : Cl) (env : Ev) (j : Nat) (i : Nat) (e : Ex) : exS c (.pop j i e) env = (if i = j then none else (olAt env i).bind fun ds => ((ev c env e).bind asInt).bind fun k => if 0 ≤ k then (ds[k.toNat]?).bind fun d => if ds.length ≤ LIM then some (.nx ((env.set i (some (.ol (ds.eraseIdx k.toNat)))).set j (some (.fz d)))) else none else none) := by simp only [exS]
@[simp] theorem q_exS_sti (c : Cl) (env : Ev) (i : Nat) (k : Ex) (e : Ex) : exS c (.sti i k e) env = ((ev c env e).bind fun r => (ownD e r).bind fun d => (olAt env i).bind fun ds => ((ev c env k).bind asInt).bind fun n => (ixN ds.length n).bind fun j => some (.nx (env.set i (some (.ol (ds.set j d)))))) := by simp only [exS]
@[simp] theorem q_exS_clr (c : Cl) (env : Ev) (i : Nat) : exS c (.clr i) env = ((olAt env i).bind fun ds => some (.nx (env.set i (some (.ol []))))) := by simp only [exS]
def ifK (c : Cl) (a b : Sms) (env : Ev) (k : Bool) : Option Out := if k then exSs c a env else exSs c b env
@[simp] theorem q_ifK_t (c : Cl) (a b : Sms) (env : Ev) : ifK c a b env true = exSs c a env := rfl
@[simp] theorem q_ifK_f (c : Cl) (a b : Sms) (env : Ev) : ifK c a b env false = exSs c b env := rfl
@[simp] theorem q_ifK (c : Cl) (a b : Sms) (env : Ev) (p : Prop) [Decidable p] : ifK c a b env (decide p) = if p then exSs c a env else exSs c b env := by unfold ifK; simp
@[simp] theorem q_exS_ifs (c : Cl) (env : Ev) (t : Ex) (a b : Sms) : exS c (.ifs t a b) env = ((ev c env t).bind asBool).bind (ifK c a b env) := by simp only [exS]; rfl
def forB (c : Cl) (tg : Tg) (b : Sms) : Ev → PyData → Option Out := fun env x => (bindT tg env x).bind fun env' => exSs c b env'
def whlT (c : Cl) (t : Ex) : Ev → Option Bool := fun env => (ev c env t).bind asBool
def whlB (c : Cl) (b : Sms) : Ev → Option Out := fun env => exSs c b env
@[simp] theorem q_exS_for_ (c : Cl) (env : Ev) (tg : Tg) (it : Mn.Itr) (b : Sms) : exS c (.for_ tg it b) env = if borI c env it = true then none else (evi c env it).bind fun items => forL (forB c tg b) items env := by simp only [exS]; rfl
@[simp] theorem q_exS_whl (c : Cl) (env : Ev) (t : Ex) (b : Sms) : exS c (.whl t b) env = whlL (whlT c t) (whlB c b) FUEL env := by simp only [exS]; rfl
@[simp] theorem q_exS_ret (c : Cl) (env : Ev) (e : Ex) : exS c (.ret e) env = ((ev c env e).map .rt) := by simp only [exS]
@[simp] theorem q_exS_retN (c : Cl) (env : Ev)  : exS c (.retN ) env = (some (.rt (.fz .none))) := by simp only [exS]
@[simp] theorem q_exS_drp (c : Cl) (env : Ev) (e : Ex) : exS c (.drp e) env = ((ev c env e).map fun _ => .nx env) := by simp only [exS]
@[simp] theorem q_exS_nop (c : Cl) (env : Ev)  : exS c (.nop ) env = (some (.nx env)) := by simp only [exS]
@[simp] theorem q_exS_nev (c : Cl) (env : Ev)  : exS c (.nev ) env = (none) := by simp only [exS]
@[simp] theorem q_exS_cont (c : Cl) (env : Ev)  : exS c (.cont ) env = (some (.ct env)) := by simp only [exS]
@[simp] theorem q_exS_brk (c : Cl) (env : Ev)  : exS c (.brk ) env = (some (.bk env)) := by simp only [exS]
@[simp] theorem q_exSs_nil (c : Cl) (env : Ev)  : exSs c (.nil ) env = (some (.nx env)) := by simp only [exSs]
def thenO (o : Out) (k : Ev → Option Out) : Option Out := match o with
  | .nx e => k e
  | o => some o
@[simp] theorem q_thenO_nx (e : Ev) (k : Ev → Option Out) : thenO (.nx e) k = k e := rfl
@[simp] theorem q_thenO_rt (r : RV) (k : Ev → Option Out) : thenO (.rt r) k = some (.rt r) := rfl
@[simp] theorem q_thenO_bk (e : Ev) (k : Ev → Option Out) : thenO (.bk e) k = some (.bk e) := rfl
@[simp] theorem q_thenO_ct (e : Ev) (k : Ev → Option Out) : thenO (.ct e) k = some (.ct e) := rfl
def seqK (c : Cl) (r : Sms) (o : Out) : Option Out := thenO o fun e => exSs c r e
@[simp] theorem q_seqK_nx (c : Cl) (r : Sms) (e : Ev) : seqK c r (.nx e) = exSs c r e := rfl
@[simp] theorem q_seqK_rt (c : Cl) (r : Sms) (v : RV) : seqK c r (.rt v) = some (.rt v) := rfl
@[simp] theorem q_seqK_bk (c : Cl) (r : Sms) (e : Ev) : seqK c r (.bk e) = some (.bk e) := rfl
@[simp] theorem q_seqK_ct (c : Cl) (r : Sms) (e : Ev) : seqK c r (.ct e) = some (.ct e) := rfl
@[simp] theorem q_exSs_cons (c : Cl) (env : Ev) (s : Sm) (r : Sms) : exSs c (.cons s r) env = (exS c s env).bind (seqK c r) := by
  simp only [exSs]
  rfl
def frzK (c : Cl) (i : Nat) (r : Sms) (env : Ev) (v : RV) : Option Out := exSs c r (env.set i (some (.fz v.d)))
@[simp] theorem q_frzK (c : Cl) (i : Nat) (r : Sms) (env : Ev) (v : RV) : frzK c i r env v = exSs c r (env.set i (some (.fz v.d))) := rfl
@[simp] theorem q_exSs_frz (c : Cl) (env : Ev) (i : Nat) (r : Sms) : exSs c (.frz i r) env = ((env[i]?).join).bind (frzK c i r env) := by
  simp only [exSs]
  rfl
@[simp] theorem q_exSs_del (c : Cl) (env : Ev) (i : Nat) (r : Sms) : exSs c (.del i r) env = exSs c r (env.set i none) := by
  simp only [exSs]
theorem run_rt {c : Cl} {f : Df} {ds : List PyData} {r : RV} (h : ds.length = f.np) (e : exSs c f.body (ds.map (fun d => some (RV.fz d)) ++ List.replicate (f.n - f.np) none) = some (.rt r)) (hx : r.isX = false := by rfl) : runD c f ds = some r := by
  unfold runD
  rw [if_pos h, e, Option.bind_some]
  dsimp only
  rw [hx, if_neg Bool.false_ne_true]
theorem run_rtX {c : Cl} {f : Df} {ds : List PyData} {r : RV} (h : ds.length = f.np) (e : exSs c f.body (ds.map (fun d => some (RV.fz d)) ++ List.replicate (f.n - f.np) none) = some (.rt r)) : runX c f ds = some r := by
  unfold runX
  rw [if_pos h, e]
  rfl
theorem run_nxX {c : Cl} {f : Df} {ds : List PyData} {e' : Ev} (h : ds.length = f.np) (e : exSs c f.body (ds.map (fun d => some (RV.fz d)) ++ List.replicate (f.n - f.np) none) = some (.nx e')) : runX c f ds = some (.fz .none) := by
  unfold runX
  rw [if_pos h, e]
  rfl
theorem run_nx {c : Cl} {f : Df} {ds : List PyData} {e' : Ev} (h : ds.length = f.np) (e : exSs c f.body (ds.map (fun d => some (RV.fz d)) ++ List.replicate (f.n - f.np) none) = some (.nx e')) : runD c f ds = some (.fz .none) := by
  unfold runD
  rw [if_pos h, e]
  rfl
@[simp] theorem q_isVar_var (i : Nat) : isVar (.var i) = true := rfl
@[simp] theorem q_isVar_int (i : Int) : isVar (.int i) = false := rfl
@[simp] theorem q_isVar_str (x : Str) : isVar (.str x) = false := rfl
@[simp] theorem q_isVar_bl (b : Bool) : isVar (.bl b) = false := rfl
@[simp] theorem q_isVar_non  : isVar (.non ) = false := rfl
@[simp] theorem q_isVar_glb (g : Nat) : isVar (.glb g) = false := rfl
@[simp] theorem q_isVar_bin (o : Bo) (a b : Ex) : isVar (.bin o a b) = false := rfl
@[simp] theorem q_isVar_neg (a : Ex) : isVar (.neg a) = false := rfl
@[simp] theorem q_isVar_not (a : Ex) : isVar (.not a) = false := rfl
@[simp] theorem q_isVar_one (a : Ex) : isVar (.one a) = false := rfl
@[simp] theorem q_isVar_and (a b : Ex) : isVar (.and a b) = false := rfl
@[simp] theorem q_isVar_or (a b : Ex) : isVar (.or a b) = false := rfl
@[simp] theorem q_isVar_cmp (o : Co) (a b : Ex) : isVar (.cmp o a b) = false := rfl
@[simp] theorem q_isVar_chn (o p : Co) (a b d : Ex) : isVar (.chn o p a b d) = false := rfl
@[simp] theorem q_isVar_chn3 (o p q : Co) (a b d e : Ex) : isVar (.chn3 o p q a b d e) = false := rfl
@[simp] theorem q_isVar_ite (t a b : Ex) : isVar (.ite t a b) = false := rfl
@[simp] theorem q_isVar_tup (es : Exs) : isVar (.tup es) = false := rfl
@[simp] theorem q_isVar_lst (es : Exs) : isVar (.lst es) = false := rfl
@[simp] theorem q_isVar_call (f : Nat) (es : Exs) : isVar (.call f es) = false := rfl
@[simp] theorem q_isVar_bi (b : Bi) (es : Exs) : isVar (.bi b es) = false := rfl
@[simp] theorem q_isVar_mt (m : Mt) (a : Ex) (es : Exs) : isVar (.mt m a es) = false := rfl
@[simp] theorem q_isVar_idx (a i : Ex) : isVar (.idx a i) = false := rfl
@[simp] theorem q_isVar_slc (a l h : Ex) : isVar (.slc a l h) = false := rfl
@[simp] theorem q_isVar_emp  : isVar (.emp ) = false := rfl
@[simp] theorem q_isVar_comp (e : Ex) (g : Tg) (i : Itr) (t : Ex) (o : List Nat) : isVar (.comp e g i t o) = false := rfl
@[simp] theorem q_isOwn_fz (d : PyData) : RV.isOwn (.fz d) = false := rfl
@[simp] theorem q_isOwn_ol (d : List PyData) : RV.isOwn (.ol d) = true := rfl
@[simp] theorem q_d_fz (d : PyData) : RV.d (.fz d) = d := rfl
@[simp] theorem q_d_ol (d : List PyData) : RV.d (.ol d) = .list d := rfl
@[simp] theorem q_asInt (i : Int) : asInt (.fz (.int i)) = some i := rfl
@[simp] theorem q_asBool (i : Bool) : asBool (.fz (.bool i)) = some i := rfl
@[simp] theorem q_seq_fl (d : List PyData) : RV.seq (.fz (.list d)) = some d := rfl
@[simp] theorem q_seq_ft (d : List PyData) : RV.seq (.fz (.tuple d)) = some d := rfl
@[simp] theorem q_seq_ol (d : List PyData) : RV.seq (.ol d) = some d := rfl
@[simp] theorem q_lst_fl (d : List PyData) : RV.lst (.fz (.list d)) = some d := rfl
@[simp] theorem q_lst_ol (d : List PyData) : RV.lst (.ol d) = some d := rfl
@[simp] theorem q_items_s (z : Str) : itemsOf (.fz (.str z)) = some (z.cps.toList.map fun c => .str ⟨#[c]⟩) := rfl
@[simp] theorem q_items_fl (d : List PyData) : itemsOf (.fz (.list d)) = some d := rfl
@[simp] theorem q_items_ft (d : List PyData) : itemsOf (.fz (.tuple d)) = some d := rfl
@[simp] theorem q_items_ol (d : List PyData) : itemsOf (.ol d) = some d := rfl
@[simp] theorem q_bindT_nm (i : Nat) (env : Ev) (d : PyData) : bindT (.nm i) env d = some (env.set i (some (.fz d))) := rfl
@[simp] theorem q_bindT_tpL (is : List Nat) (env : Ev) (ds : List PyData) : bindT (.tp is) env (.list ds) = if ds.length = is.length then some (setAll env is ds) else none := rfl
@[simp] theorem q_bindT_tp (is : List Nat) (env : Ev) (ds : List PyData) : bindT (.tp is) env (.tuple ds) = if ds.length = is.length then some (setAll env is ds) else none := rfl
@[simp] theorem q_setAll_nil (env : Ev) (ds : List PyData) : setAll env [] ds = env := by cases ds <;> rfl
@[simp] theorem q_setAll_cons (env : Ev) (i : Nat) (is : List Nat) (d : PyData) (ds : List PyData) : setAll env (i :: is) (d :: ds) = setAll (env.set i (some (.fz d))) is ds := rfl
@[simp] theorem q_wipe_nil (env : Ev) : wipeE env [] = env := rfl
@[simp] theorem q_wipe_cons (env : Ev) (i : Nat) (is : List Nat) : wipeE env (i :: is) = (wipeE env is).set i none := rfl
@[simp] theorem q_bor_ex (c : Cl) (env : Ev) (e : Ex) : borI c env (.ex e) = (isVar e && ((ev c env e).map RV.isOwn).getD true) := rfl
@[simp] theorem q_bor_r1 (c : Cl) (env : Ev) (a : Ex) : borI c env (.r1 a) = false := rfl
@[simp] theorem q_bor_r2 (c : Cl) (env : Ev) (a b : Ex) : borI c env (.r2 a b) = false := rfl
@[simp] theorem q_bor_r3 (c : Cl) (env : Ev) (a b d : Ex) : borI c env (.r3 a b d) = false := rfl
@[simp] theorem q_bor_zip (c : Cl) (env : Ev) (a b : Ex) : borI c env (.zip a b) = ((isVar a && ((ev c env a).map RV.isOwn).getD true) || (isVar b && ((ev c env b).map RV.isOwn).getD true)) := rfl
@[simp] theorem q_bor_en (c : Cl) (env : Ev) (a : Ex) : borI c env (.en a) = (isVar a && ((ev c env a).map RV.isOwn).getD true) := rfl
@[simp] theorem q_bor_rv (c : Cl) (env : Ev) (a : Ex) : borI c env (.rv a) = (isVar a && ((ev c env a).map RV.isOwn).getD true) := rfl
@[simp] theorem q_evo_emp (c : Cl) (env : Ev) : evo c env .emp = some none := by simp only [evo]
@[simp] theorem q_evo_one (c : Cl) (env : Ev) (a : Ex) : evo c env (.one a) = ((ev c env a).bind asInt).map some := by simp only [evo]
@[simp] theorem q_evt_emp (c : Cl) (env : Ev) : evt c env .emp = some true := by simp only [evt]
@[simp] theorem q_evt_one (c : Cl) (env : Ev) (a : Ex) : evt c env (.one a) = (ev c env a).bind asBool := by simp only [evt]
theorem olAt_of {env : Ev} {i : Nat} {ds : List PyData} (h : (env[i]?).join = some (.ol ds)) : olAt env i = some ds := by unfold olAt; rw [h]; rfl
def asOl : RV → Option (List PyData)
  | .ol ds => some ds
  | _ => none
@[simp] theorem q_asOl (ds : List PyData) : asOl (.ol ds) = some ds := rfl
@[simp] theorem q_olAt (env : Ev) (i : Nat) : olAt env i = ((env[i]?).join).bind asOl := by
  unfold olAt
  congr 1
@[simp] theorem q_sc_bool (b : Bool) : scalD (.bool b) = true := rfl
@[simp] theorem q_sc_int (b : Int) : scalD (.int b) = true := rfl
@[simp] theorem q_sc_str (b : Str) : scalD (.str b) = true := rfl
@[simp] theorem q_sc_none : scalD .none = true := rfl
@[simp] theorem q_isI (t : Ty) (r : RV) (h : notScr r.d = true) : biD (.isI t) [r] = some (.fz (.bool (isD t r.d))) := if_pos h
@[simp] theorem q_tab (ss : List (List PyData → Option RV)) (gs : List PyData) (ds : List PyData) (j : Nat) : (tabC ss gs).call j ds = (ss[j]?).bind fun s => s ds := rfl
@[simp] theorem q_glb (ss : List (List PyData → Option RV)) (gs : List PyData) (j : Nat) : (tabC ss gs).glb j = gs[j]? := rfl
@[simp] theorem own_fz (e : Ex) (d : PyData) : ownD e (.fz d) = some d := by simp [ownD]
@[simp] theorem own_ol (e : Ex) (d : List PyData) (h : isVar e = false) : ownD e (.ol d) = some (.list d) := by simp [ownD, h]
@[simp] theorem z_add_int (i j : Int) : binD .add (.fz (.int i)) (.fz (.int j)) = some (.fz (.int (i + j))) := rfl
@[simp] theorem z_sub_int (i j : Int) : binD .sub (.fz (.int i)) (.fz (.int j)) = some (.fz (.int (i - j))) := rfl
theorem z_mul_int (i j : Int) (h : (smallI i || smallI j) = true) : binD .mul (.fz (.int i)) (.fz (.int j)) = some (.fz (.int (i * j))) := if_pos h
theorem z_fdiv_int (i j : Int) (h : 0 < j ∧ j < 1073741824) : binD .fdiv (.fz (.int i)) (.fz (.int j)) = some (.fz (.int (i / j))) := if_pos h
theorem z_mod_int (i j : Int) (h : 0 < j) : binD .mod (.fz (.int i)) (.fz (.int j)) = some (.fz (.int (i % j))) := if_pos h
@[simp] theorem z_fdiv_9 (i : Int) : binD .fdiv (.fz (.int i)) (.fz (.int 1000000000)) = some (.fz (.int (i / 1000000000))) := rfl
@[simp] theorem z_pow_9 : binD .pow (.fz (.int 10)) (.fz (.int 9)) = some (.fz (.int 1000000000)) := rfl
@[simp] theorem z_pow_30 : binD .pow (.fz (.int 10)) (.fz (.int 30)) = some (.fz (.int 1000000000000000000000000000000)) := rfl
@[simp] theorem z_eq_int (i j : Int) : cmpD .eq (.int i) (.int j) = some (decide (i = j)) := by
  show some (PyData.eqv (.int i) (.int j)) = _
  rw [PyData.eqv]
  by_cases h : i = j <;> simp [h]
@[simp] theorem z_ne_int (i j : Int) : cmpD .ne (.int i) (.int j) = some (!decide (i = j)) := by
  show some (!PyData.eqv (.int i) (.int j)) = _
  rw [PyData.eqv]
  by_cases h : i = j <;> simp [h]
@[simp] theorem z_lt_int (i j : Int) : cmpD .lt (.int i) (.int j) = some (decide (i < j)) := rfl
@[simp] theorem z_le_int (i j : Int) : cmpD .le (.int i) (.int j) = some (decide (i ≤ j)) := rfl
@[simp] theorem z_gt_int (i j : Int) : cmpD .gt (.int i) (.int j) = some (decide (j < i)) := rfl
@[simp] theorem z_ge_int (i j : Int) : cmpD .ge (.int i) (.int j) = some (decide (j ≤ i)) := rfl
@[simp] theorem len_fl (ds : List PyData) : biD .len [.fz (.list ds)] = some (.fz (.int ds.length)) := rfl
@[simp] theorem len_ft (ds : List PyData) : biD .len [.fz (.tuple ds)] = some (.fz (.int ds.length)) := rfl
@[simp] theorem len_ol (ds : List PyData) : biD .len [.ol ds] = some (.fz (.int ds.length)) := rfl
@[simp] theorem z_min_2 (i j : Int) : biD .min2 [.fz (.int i), .fz (.int j)] = some (.fz (.int (min i j))) := by
  show some _ = some _
  have : (if j < i then j else i) = min i j := by omega
  rw [this]
@[simp] theorem z_max_2 (i j : Int) : biD .max2 [.fz (.int i), .fz (.int j)] = some (.fz (.int (max i j))) := by
  show some _ = some _
  have : (if j > i then j else i) = max i j := by omega
  rw [this]
@[simp] theorem ix_fl (ds : List PyData) (i : Int) : idxD (.fz (.list ds)) (.fz (.int i)) = (atI ds i).map .fz := rfl
@[simp] theorem ix_ft (ds : List PyData) (i : Int) : idxD (.fz (.tuple ds)) (.fz (.int i)) = (atI ds i).map .fz := rfl
@[simp] theorem ix_ol (ds : List PyData) (i : Int) : idxD (.ol ds) (.fz (.int i)) = (atI ds i).map .fz := rfl
@[simp] theorem call_false (r : Option RV) : callD r false = r := by cases r <;> rfl
@[simp] theorem call_true (d : PyData) : callD (some (.fz d)) true = if flatD d = true then some (.fz d) else none := rfl
@[simp] theorem call_none (b : Bool) : callD none b = none := rfl
theorem for_ok {f : Ev → PyData → Option Out} {items : List PyData} {env : Ev} {Q : Out → Prop} (P : Nat → Ev → Prop) (h0 : P 0 env)
    (hs : ∀ i x env, items[i]? = some x → P i env → ∃ o, f env x = some o ∧ (match o with | .nx e => P (i + 1) e | .ct e => P (i + 1) e | .bk e => Q (.nx e) | .rt r => Q (.rt r)))
    (hd : ∀ env, P items.length env → Q (.nx env)) : ∃ o, forL f items env = some o ∧ Q o := by
  induction items generalizing env P with
  | nil => exact ⟨_, rfl, hd env h0⟩
  | cons x xs ih =>
    obtain ⟨o, h1, h2⟩ := hs 0 x env rfl h0
    unfold forL
    rw [h1]
    cases o with
    | nx e => exact ih (fun i => P (i + 1)) h2 (fun i y env h p => hs (i + 1) y env (by simpa using h) p) hd
    | ct e => exact ih (fun i => P (i + 1)) h2 (fun i y env h p => hs (i + 1) y env (by simpa using h) p) hd
    | bk e => exact ⟨_, rfl, h2⟩
    | rt r => exact ⟨_, rfl, h2⟩
/-- a loop that goes through to its end -/
theorem for_nx {f : Ev → PyData → Option Out} {items : List PyData} {env : Ev} (P : Nat → Ev → Prop) (h0 : P 0 env)
    (hs : ∀ i x env, items[i]? = some x → P i env → ∃ e, f env x = some (.nx e) ∧ P (i + 1) e) : ∃ e, forL f items env = some (.nx e) ∧ P items.length e := by
  obtain ⟨o, h1, e, h2, h3⟩ := for_ok (Q := fun o => ∃ e, o = .nx e ∧ P items.length e) P h0 (fun i x env h p => by
    obtain ⟨e, h1, h2⟩ := hs i x env h p
    exact ⟨_, h1, h2⟩) fun env p => ⟨env, rfl, p⟩
  exact ⟨e, by rw [h1, h2], h3⟩
theorem rng_get {lo : Int} {n i : Nat} {x : PyData} (h : (rngD lo n)[i]? = some x) : i < n ∧ x = .int (lo + (i : Nat)) := by
  unfold rngD at h
  rw [List.getElem?_map] at h
  have hl : i < n := by
    by_cases hl : i < n
    · exact hl
    · rw [List.getElem?_eq_none (by simp; omega)] at h; cases h
  rw [List.getElem?_range hl] at h
  cases h
  exact ⟨hl, rfl⟩
theorem rng_len {lo : Int} {n : Nat} : (rngD lo n).length = n := by simp [rngD]
theorem compL_map {f : PyData → Option (Option PyData)} {g : PyData → PyData} {xs : List PyData} (h : ∀ x ∈ xs, f x = some (some (g x))) : compL f xs = some (xs.map g) := by
  induction xs with
  | nil => rfl
  | cons x xs ih =>
    unfold compL
    rw [h x (by simp), ih fun y hy => h y (by simp [hy])]
    rfl
theorem compL_enc {α : Type} {f : PyData → Option (Option PyData)} {a : α → PyData} {g : α → PyData} {xs : List α} (h : ∀ x ∈ xs, f (a x) = some (some (g x))) : compL f (xs.map a) = some (xs.map g) := by
  induction xs with
  | nil => rfl
  | cons x xs ih =>
    rw [List.map_cons]
    unfold compL
    rw [h x (by simp), ih fun y hy => h y (by simp [hy])]
    rfl

def at0 (ns : List Int) (i : Nat) : Int := ns.getD i 0
def halfZ (x : Int) : Nat → Int
  | 0 => x
  | n + 1 => halfZ x n / 1000000000
def cellZ (ns : List Int) (k : Int) : Int :=
  if 1 < ns.length ∧ at0 ns 0 % 2 = 1 then halfZ (at0 ns (1 + k % ((ns.length : Int) - 1)).toNat) (min 60 (k / ((ns.length : Int) - 1))).toNat % 1000000000
  else ((if 0 < ns.length then at0 ns (k % (ns.length : Int)).toNat else k) % 10 ^ 30 * 48271 + 7 * k * k + 13 * k + 5) % 2147483647 * 69621 % 1000000007
def bCellB : Sms := .cons (.asg 2 (.bin .fdiv (.var 2) (.bin .pow (.int 10) (.int 9)))) .nil
def bCellA : Sms := (.cons (.asg 2 (.idx (.var 0) (.bin .add (.int 1) (.bin .mod (.var 1) (.bin .sub (.bi .len (.cons (.var 0) .nil)) (.int 1))))))
    (.cons (.for_ (.nm 3) (.r1 (.bi .min2 (.cons (.int 60) (.cons (.bin .fdiv (.var 1) (.bin .sub (.bi .len (.cons (.var 0) .nil)) (.int 1))) .nil)))) bCellB)
    (.cons (.ret (.bin .mod (.var 2) (.bin .pow (.int 10) (.int 9))))
    .nil)))
def bCellC : Sms := .cons (.asg 4 (.idx (.var 0) (.bin .mod (.var 1) (.bi .len (.cons (.var 0) .nil))))) .nil
def dCell : Df := ⟨5, 2, (.cons (.ifs (.and (.cmp .gt (.bi .len (.cons (.var 0) .nil)) (.int 1)) (.one (.cmp .eq (.bin .mod (.idx (.var 0) (.int 0)) (.int 2)) (.int 1)))) bCellA .nil)
    (.cons (.asg 4 (.var 1))
    (.cons (.ifs (.cmp .gt (.bi .len (.cons (.var 0) .nil)) (.int 0)) bCellC .nil)
    (.cons (.ret (.bin .mod (.bin .mul (.bin .mod (.bin .add (.bin .add (.bin .add (.bin .mul (.bin .mod (.var 4) (.bin .pow (.int 10) (.int 30))) (.int 48271)) (.bin .mul (.bin .mul (.int 7) (.var 1)) (.var 1))) (.bin .mul (.int 13) (.var 1))) (.int 5)) (.int 2147483647)) (.int 69621)) (.int 1000000007)))
    .nil))))⟩
theorem scr_seq (ns : List Int) : RV.seq (.fz (scrD ns)) = some (ns.map PyData.int) := rfl
theorem atI_in {ns : List Int} {i : Int} (h0 : 0 ≤ i) (h1 : i < ns.length) : atI (ns.map PyData.int) i = some (.int (at0 ns i.toNat)) := by
  have : i.toNat < ns.length := by omega
  have e : i = ((i.toNat : Nat) : Int) := by omega
  refine Eq.trans (congrArg _ e) ?_
  rw [atI_nat (j := i.toNat) (v := PyData.int (at0 ns i.toNat)) (by rw [List.getElem?_map, List.getElem?_eq_getElem this]; simp [at0, List.getElem?_eq_getElem this])]
@[simp] theorem scr_len (ns : List Int) : biD .len [.fz (scrD ns)] = some (.fz (.int ns.length)) := by show some _ = some _; simp
@[simp] theorem scr_ix (ns : List Int) (i : Int) : idxD (.fz (scrD ns)) (.fz (.int i)) = (atI (ns.map PyData.int) i).map .fz := rfl
theorem z_small_of {i : Int} (h1 : -1000000000000000 ≤ i) (h2 : i ≤ 1000000000000000) : smallI i = true := by
  unfold smallI
  simp only [Bool.and_eq_true, decide_eq_true_eq]
  omega
theorem cell_ok (c : Cl) (ns : List Int) (k : Int) (h0 : 0 ≤ k) (h1 : k < 1000000) (hl : ns.length ≤ 1000) : runD c dCell [scrD ns, .int k] = some (.fz (.int (cellZ ns k))) := by
  have fin : ∀ g : Int, exSs c (.cons (.ret (.bin .mod (.bin .mul (.bin .mod (.bin .add (.bin .add (.bin .add (.bin .mul (.bin .mod (.var 4) (.bin .pow (.int 10) (.int 30))) (.int 48271)) (.bin .mul (.bin .mul (.int 7) (.var 1)) (.var 1))) (.bin .mul (.int 13) (.var 1))) (.int 5)) (.int 2147483647)) (.int 69621)) (.int 1000000007))) .nil) [some (.fz (scrD ns)), some (.fz (.int k)), none, none, some (.fz (.int g))] =
      some (.rt (.fz (.int ((g % 10 ^ 30 * 48271 + 7 * k * k + 13 * k + 5) % 2147483647 * 69621 % 1000000007)))) := fun g => by
    have s1 : ∀ i : Int, (smallI i || smallI 48271) = true := fun i => by rw [z_small_of (i := 48271) (by omega) (by omega), Bool.or_true]
    have s2 : ∀ i : Int, (smallI i || smallI 69621) = true := fun i => by rw [z_small_of (i := 69621) (by omega) (by omega), Bool.or_true]
    have s3 : ∀ i : Int, (smallI i || smallI k) = true := fun i => by rw [z_small_of (i := k) (by omega) (by omega), Bool.or_true]
    simp [z_mod_int, z_mul_int _ _ (s1 _), z_mul_int _ _ (s2 _), z_mul_int _ _ (s3 _)]
  refine run_rt rfl ?_
  show exSs c dCell.body [some (.fz (scrD ns)), some (.fz (.int k)), none, none, none] = _
  unfold dCell
  by_cases c1 : 1 < ns.length
  · have c2 : (1 : Int) < ns.length := by omega
    have a0 : atI (ns.map PyData.int) 0 = some (.int (at0 ns 0)) := atI_in (by omega) (by omega)
    by_cases c3 : at0 ns 0 % 2 = 1
    · have hm := Int.emod_nonneg k (show (ns.length : Int) - 1 ≠ 0 by omega)
      have hm2 := Int.emod_lt_of_pos k (show 0 < (ns.length : Int) - 1 by omega)
      have a1 : atI (ns.map PyData.int) (1 + k % ((ns.length : Int) - 1)) = some (.int (at0 ns (1 + k % ((ns.length : Int) - 1)).toNat)) := atI_in (by omega) (by omega)
      have hd : 0 ≤ k / ((ns.length : Int) - 1) := Int.ediv_nonneg h0 (by omega)
      have lp := for_nx (f := forB c (.nm 3) bCellB) (items := rngD 0 (min 60 (k / ((ns.length : Int) - 1))).toNat) (env := [some (.fz (scrD ns)), some (.fz (.int k)), some (.fz (.int (at0 ns (1 + k % ((ns.length : Int) - 1)).toNat))), none, none])
        (fun i env => ∃ u, env = [some (.fz (scrD ns)), some (.fz (.int k)), some (.fz (.int (halfZ (at0 ns (1 + k % ((ns.length : Int) - 1)).toNat) i))), u, none]) ⟨_, rfl⟩ (fun i x env h ⟨u, e⟩ => by
          obtain ⟨_, rfl⟩ := rng_get h
          subst e
          exact ⟨[some (.fz (scrD ns)), some (.fz (.int k)), some (.fz (.int (halfZ (at0 ns (1 + k % ((ns.length : Int) - 1)).toNat) (i + 1)))), some (.fz (.int (0 + (i : Nat)))), none], by simp [forB, bCellB, halfZ], _, rfl⟩)
      obtain ⟨e, l1, u, rfl⟩ := lp
      rw [rng_len] at l1
      have c4 : 1 < ns.length ∧ at0 ns 0 % 2 = 1 := ⟨c1, c3⟩
      have z : cellZ ns k = halfZ (at0 ns (1 + k % ((ns.length : Int) - 1)).toNat) (min 60 (k / ((ns.length : Int) - 1))).toNat % 1000000000 := if_pos c4
      rw [z]
      simp [c2, a0, c3, a1, bCellA, z_mod_int, z_fdiv_int, l1, show 0 < (ns.length : Int) - 1 by omega, show (ns.length : Int) - 1 < 1073741824 by omega, show (-1000000 : Int) ≤ min 60 (k / ((ns.length : Int) - 1)) by omega, show min 60 (k / ((ns.length : Int) - 1)) ≤ (1000000 : Int) by omega]
    · have c4 : ¬(1 < ns.length ∧ at0 ns 0 % 2 = 1) := fun h => c3 h.2
      have hm := Int.emod_nonneg k (show (ns.length : Int) ≠ 0 by omega)
      have hm2 := Int.emod_lt_of_pos k (show 0 < (ns.length : Int) by omega)
      have a1 : atI (ns.map PyData.int) (k % (ns.length : Int)) = some (.int (at0 ns (k % (ns.length : Int)).toNat)) := atI_in (by omega) (by omega)
      have z : cellZ ns k = (at0 ns (k % (ns.length : Int)).toNat % 10 ^ 30 * 48271 + 7 * k * k + 13 * k + 5) % 2147483647 * 69621 % 1000000007 := by
        unfold cellZ
        rw [if_neg c4, if_pos (show 0 < ns.length by omega)]
      rw [z]
      have f := fin (at0 ns (k % (ns.length : Int)).toNat)
      generalize hF : Sms.cons (.ret _) .nil = F at f ⊢
      simp [c2, a0, a1, c3, z_mod_int, bCellC, show 0 < ns.length by omega, f]
  · have c4 : ¬(1 < ns.length ∧ at0 ns 0 % 2 = 1) := fun h => c1 h.1
    by_cases c5 : 0 < ns.length
    · have hm := Int.emod_nonneg k (show (ns.length : Int) ≠ 0 by omega)
      have hm2 := Int.emod_lt_of_pos k (show 0 < (ns.length : Int) by omega)
      have a1 : atI (ns.map PyData.int) (k % (ns.length : Int)) = some (.int (at0 ns (k % (ns.length : Int)).toNat)) := atI_in (by omega) (by omega)
      have z : cellZ ns k = (at0 ns (k % (ns.length : Int)).toNat % 10 ^ 30 * 48271 + 7 * k * k + 13 * k + 5) % 2147483647 * 69621 % 1000000007 := by
        unfold cellZ
        rw [if_neg c4, if_pos c5]
      rw [z]
      have f := fin (at0 ns (k % (ns.length : Int)).toNat)
      generalize hF : Sms.cons (.ret _) .nil = F at f ⊢
      simp [a1, show ¬ (1 : Int) < ns.length by omega, z_mod_int, bCellC, c5, f]
    · have z : cellZ ns k = (k % 10 ^ 30 * 48271 + 7 * k * k + 13 * k + 5) % 2147483647 * 69621 % 1000000007 := by
        unfold cellZ
        rw [if_neg c4, if_neg c5]
      rw [z]
      have f := fin k
      generalize hF : Sms.cons (.ret _) .nil = F at f ⊢
      simp [show ¬ (1 : Int) < ns.length by omega, show ¬ (0 : Int) < ns.length by omega, c5, f]
theorem cell_nn (ns : List Int) (k : Int) : 0 ≤ cellZ ns k := by
  unfold cellZ
  split
  · exact Int.emod_nonneg _ (by omega)
  · exact Int.emod_nonneg _ (by omega)
theorem cell_lt (ns : List Int) (k : Int) : cellZ ns k < 1000000007 := by
  unfold cellZ
  split
  · have := Int.emod_lt_of_pos (halfZ (at0 ns (1 + k % ((ns.length : Int) - 1)).toNat) (min 60 (k / ((ns.length : Int) - 1))).toNat) (show (0 : Int) < 1000000000 by omega)
    omega
  · exact Int.emod_lt_of_pos _ (by omega)
end Mn

namespace Mn
open PySem
def wS (l : List Bool) : Str := ⟨(l.map fun b => if b then 108 else 114).toArray⟩
theorem wS_app (a b : List Bool) : wS a ++ wS b = wS (a ++ b) := by
  show (⟨(wS a).cps ++ (wS b).cps⟩ : Str) = _
  unfold wS
  rw [List.map_append, List.append_toArray]
theorem wS_len (l : List Bool) : (wS l).length = l.length := by
  show (wS l).cps.size = _
  unfold wS
  simp
def waysB (c : Int) (n : Nat) : List Bool := (List.range n).map fun i => decide (c / 2 ^ i % 2 = 1)
theorem waysB_len (c : Int) (n : Nat) : (waysB c n).length = n := by simp [waysB]
def bWays : Sms := .cons (.asg 2 (.bin .add (.var 2) (.idx (.str "rl") (.bin .mod (.var 0) (.int 2))))) (.cons (.asg 0 (.bin .fdiv (.var 0) (.int 2))) .nil)
def dWays : Df := ⟨4, 2, (.cons (.asg 2 (.str "")) (.cons (.for_ (.nm 3) (.r1 (.bin .sub (.var 1) (.int 1))) bWays) (.cons (.ret (.var 2)) .nil)))⟩
theorem z_addS (x y : Str) (h : x.length + y.length ≤ LIM) : binD .add (.fz (.str x)) (.fz (.str y)) = some (.fz (.str (x ++ y))) := if_pos h
theorem rl_ix (c : Int) : idxD (.fz (.str "rl")) (.fz (.int (c % 2))) = some (.fz (.str (wS [decide (c % 2 = 1)]))) := by
  have h : c % 2 = 0 ∨ c % 2 = 1 := by omega
  rcases h with h | h <;> rw [h] <;> rfl
theorem ways_ok (c : Cl) (k : Int) (n : Nat) (hn : n ≤ 1000) : runD c dWays [.int k, .int ((n : Nat) + 1)] = some (.fz (.str (wS (waysB k n)))) := by
  refine run_rt rfl ?_
  show exSs c dWays.body [some (.fz (.int k)), some (.fz (.int ((n : Nat) + 1))), none, none] = _
  have lp := for_nx (f := forB c (.nm 3) bWays) (items := rngD 0 n) (env := [some (.fz (.int k)), some (.fz (.int ((n : Nat) + 1))), some (.fz (.str "")), none])
    (fun i env => i ≤ n → ∃ u, env = [some (.fz (.int (k / 2 ^ i))), some (.fz (.int ((n : Nat) + 1))), some (.fz (.str (wS (waysB k i)))), u]) (fun _ => ⟨none, by
      rw [Int.pow_zero, Int.ediv_one]
      rfl⟩) (fun i x env h p => by
      obtain ⟨hl, rfl⟩ := rng_get h
      obtain ⟨u, rfl⟩ := p (by omega)
      refine ⟨[some (.fz (.int (k / 2 ^ (i + 1)))), some (.fz (.int ((n : Nat) + 1))), some (.fz (.str (wS (waysB k (i + 1))))), some (.fz (.int (0 + (i : Nat))))], ?_, fun _ => ⟨_, rfl⟩⟩
      have e1 : binD .add (.fz (.str (wS (waysB k i)))) (.fz (.str (wS [decide (k / 2 ^ i % 2 = 1)]))) = some (.fz (.str (wS (waysB k (i + 1))))) := by
        rw [z_addS _ _ (by rw [wS_len, wS_len, waysB_len]; show i + 1 ≤ 1000000; omega), wS_app]
        unfold waysB
        rw [List.range_succ, List.map_append]
        rfl
      have e2 : k / 2 ^ (i + 1) = k / 2 ^ i / 2 := by
        rw [Int.pow_succ, Int.ediv_ediv_of_nonneg (by exact Int.pow_nonneg (by omega))]
      simp [forB, bWays, z_mod_int, rl_ix, e1, z_fdiv_int, e2])
  obtain ⟨e, l1, l2⟩ := lp
  rw [rng_len] at l2
  obtain ⟨u, rfl⟩ := l2 (Nat.le_refl _)
  have e1 : ((n : Nat) + 1 : Int) - 1 = n := by omega
  simp [dWays, e1, l1, show (-1000000 : Int) ≤ (n : Nat) by omega, show ((n : Nat) : Int) ≤ 1000000 by omega]
/-- all lists of so many -/
def allB : Nat → List (List Bool)
  | 0 => [[]]
  | n + 1 => (allB n).flatMap fun l => [false :: l, true :: l]
theorem mem_allB : ∀ (l : List Bool), l ∈ allB l.length
  | [] => by simp [allB]
  | b :: l => by
    rw [List.length_cons, allB, List.mem_flatMap]
    exact ⟨l, mem_allB l, by cases b <;> simp⟩
end Mn

namespace Mn
open PySem
def isT : Option RV → Bool
  | some (.fz (.bool true)) => true
  | _ => false
theorem isT_eq {o : Option RV} (h : isT o = true) : o = some (.fz (.bool true)) := by
  unfold isT at h
  split at h
  · rfl
  · cases h
def isS (x : Str) : Option RV → Bool
  | some (.fz (.str y)) => decide (y = x)
  | _ => false
theorem isS_eq {o : Option RV} {x : Str} (h : isS x o = true) : o = some (.fz (.str x)) := by
  unfold isS at h
  split at h
  · rw [of_decide_eq_true h]
  · cases h
def isNn : Option RV → Bool
  | some (.fz .none) => true
  | _ => false
theorem isNn_eq {o : Option RV} (h : isNn o = true) : o = some (.fz .none) := by
  unfold isNn at h
  split at h
  · rfl
  · cases h
theorem cut_to {α : Type} (ds : List α) {k : Int} (h0 : 0 ≤ k) (h1 : k ≤ ds.length) : cutD ds none (some k) = ds.take k.toNat := by
  unfold cutD
  have e : k = ((k.toNat : Nat) : Int) := by omega
  rw [e, HT.sIx_nat, HT.sIx_none, List.drop_zero]
  have : min k.toNat ds.length - 0 = k.toNat := by omega
  rw [this, Int.toNat_natCast]
theorem cut_from {α : Type} (ds : List α) {k : Int} (h0 : 0 ≤ k) (h1 : k ≤ ds.length) : cutD ds (some k) none = ds.drop k.toNat := by
  unfold cutD
  have e : k = ((k.toNat : Nat) : Int) := by omega
  rw [e, HT.sIx_nat, HT.sIx_none]
  have : min k.toNat ds.length = k.toNat := by omega
  rw [this, Int.toNat_natCast]
  exact List.take_of_length_le (by rw [List.length_drop]; omega)
@[simp] theorem q_slcT (ds : List PyData) (lo hi : Option Int) : slcD (.fz (.tuple ds)) lo hi = some (.fz (.tuple (cutD ds lo hi))) := rfl
@[simp] theorem q_slcL (ds : List PyData) (lo hi : Option Int) : slcD (.fz (.list ds)) lo hi = some (.ol (cutD ds lo hi)) := rfl
@[simp] theorem q_slcO (ds : List PyData) (lo hi : Option Int) : slcD (.ol ds) lo hi = some (.ol (cutD ds lo hi)) := rfl
@[simp] theorem q_tupT (ds : List PyData) : biD .tup [.fz (.tuple ds)] = some (.fz (.tuple ds)) := rfl
@[simp] theorem q_tupL (ds : List PyData) : biD .tup [.fz (.list ds)] = some (.fz (.tuple ds)) := rfl
@[simp] theorem q_tupO (ds : List PyData) : biD .tup [.ol ds] = some (.fz (.tuple ds)) := rfl
@[simp] theorem q_lisT (ds : List PyData) : biD .list [.fz (.tuple ds)] = some (.ol ds) := rfl
@[simp] theorem q_lisL (ds : List PyData) : biD .list [.fz (.list ds)] = some (.ol ds) := rfl
@[simp] theorem q_lisO (ds : List PyData) : biD .list [.ol ds] = some (.ol ds) := rfl
theorem z_addT (xs ys : List PyData) (h : xs.length + ys.length ≤ LIM) : binD .add (.fz (.tuple xs)) (.fz (.tuple ys)) = some (.fz (.tuple (xs ++ ys))) := if_pos h
theorem ints_map (ns : List Int) : intsOf (ns.map PyData.int) = some ns := by
  induction ns with
  | nil => rfl
  | cons n r ih => rw [List.map_cons, intsOf, ih]; rfl
theorem bools_map (ns : List Bool) : boolsOf (ns.map PyData.bool) = some ns := by
  induction ns with
  | nil => rfl
  | cons n r ih => rw [List.map_cons, boolsOf, ih]; rfl
theorem strs_map (ns : List Str) : strsOf (ns.map PyData.str) = some ns := by
  induction ns with
  | nil => rfl
  | cons n r ih => rw [List.map_cons, strsOf, ih]; rfl
@[simp] theorem z_sumO (ns : List Int) : biD .sum [.ol (ns.map PyData.int)] = some (.fz (.int ns.sum)) := by
  show ((some (ns.map PyData.int)).bind intsOf).map _ = _
  rw [Option.bind_some, ints_map]
  rfl
@[simp] theorem z_allO (ns : List Bool) : biD .all [.ol (ns.map PyData.bool)] = some (.fz (.bool (ns.all id))) := by
  show ((some (ns.map PyData.bool)).bind boolsOf).map _ = _
  rw [Option.bind_some, bools_map]
  rfl
@[simp] theorem z_anyO (ns : List Bool) : biD .any [.ol (ns.map PyData.bool)] = some (.fz (.bool (ns.any id))) := by
  have : (match (some (ns.map PyData.bool)).bind boolsOf with
    | some ns => some (RV.fz (.bool (ns.any id)))
    | none => ((some (ns.map PyData.bool)).bind intsOf).map fun ns => RV.fz (.bool (ns.any fun i => i != 0))) = some (.fz (.bool (ns.any id))) := by
    rw [Option.bind_some, bools_map]
  exact this
theorem can_map {α : Type} (f : α → PyData) (h : ∀ a, (f a).canLay0 = true) : ∀ xs : List α, PyData.canLayAll0 (xs.map f) = true
  | [] => rfl
  | x :: r => by
    rw [List.map_cons]
    show ((f x).canLay0 && PyData.canLayAll0 (r.map f)) = true
    rw [h x, can_map f h r]
    rfl
theorem dep_map {α : Type} (f : α → PyData) (n : Nat) (h : ∀ a, (f a).depth ≤ n) : ∀ xs : List α, PyData.depthAll (xs.map f) ≤ n
  | [] => Nat.zero_le _
  | x :: r => by
    rw [List.map_cons]
    show max (f x).depth (PyData.depthAll (r.map f)) ≤ n
    exact Nat.max_le.mpr ⟨h x, dep_map f n h r⟩
theorem shp_of {d : PyData} (h : d.canLay0 = true) (h2 : d.depth ≤ 64) : SeqAt.shaped d = true := by
  unfold SeqAt.shaped
  rw [h, decide_eq_true h2]
  rfl
theorem z_eqs {d : PyData} (h : SeqAt.shaped d = true) : cmpD .eq d d = some true := by
  show (if SeqAt.shaped d && SeqAt.shaped d then some (PyData.eqv d d) else none) = _
  rw [h, SeqAt.eqv_refl d (SeqAt.canLay_of_shaped h)]
  rfl
theorem z_nes {d : PyData} (h : SeqAt.shaped d = true) : cmpD .ne d d = some false := by
  show (if SeqAt.shaped d && SeqAt.shaped d then some (!PyData.eqv d d) else none) = _
  rw [h, SeqAt.eqv_refl d (SeqAt.canLay_of_shaped h)]
  rfl
theorem shp_tI (ns : List Int) : SeqAt.shaped (.tuple (ns.map PyData.int)) = true :=
  shp_of (can_map PyData.int (fun _ => rfl) ns) (by
    have := dep_map PyData.int 0 (fun _ => Nat.le_refl _) ns
    show PyData.depthAll _ + 1 ≤ 64
    omega)
theorem shp_lI (ns : List Int) : SeqAt.shaped (.list (ns.map PyData.int)) = true :=
  shp_of (can_map PyData.int (fun _ => rfl) ns) (by
    have := dep_map PyData.int 0 (fun _ => Nat.le_refl _) ns
    show PyData.depthAll _ + 1 ≤ 64
    omega)
theorem whl_ok {t : Ev → Option Bool} {f : Ev → Option Out} (E : Nat → Ev) : ∀ (n fuel : Nat), n < fuel → (∀ i, i < n → t (E i) = some true) → (∀ i, i < n → f (E i) = some (.nx (E (i + 1)))) → t (E n) = some false → whlL t f fuel (E 0) = some (.nx (E n)) := by
  intro n
  induction n generalizing E with
  | zero =>
    intro fuel hf _ _ h3
    cases fuel with
    | zero => omega
    | succ m =>
      unfold whlL
      rw [h3]
      rfl
  | succ n ih =>
    intro fuel hf h1 h2 h3
    cases fuel with
    | zero => omega
    | succ m =>
      unfold whlL
      rw [h1 0 (by omega)]
      show ((f (E 0)).bind _) = _
      rw [h2 0 (by omega)]
      exact ih (fun i => E (i + 1)) m (by omega) (fun i hi => h1 (i + 1) (by omega)) (fun i hi => h2 (i + 1) (by omega)) h3
theorem join_wS (l : List Bool) : Txt.join "" (l.map fun b => wS [b]) = wS l := by
  show Builtin.Str.glued _ _ = _
  rw [StrLaws.glued_eq_join]
  induction l with
  | nil => rfl
  | cons b r ih =>
    cases r with
    | nil => rfl
    | cons b2 r2 =>
      rw [List.map_cons]
      show wS [b] ++ "" ++ Str.join "" ((b2 :: r2).map fun b => wS [b]) = _
      rw [ih]
      have e : (wS [b] ++ ("" : Str)) = wS [b] := wS_app [b] []
      rw [e, wS_app]
      rfl
theorem shp_wS (l : List Bool) : SeqAt.shaped (.str (wS l)) = true := by
  refine shp_of ?_ (Nat.zero_le _)
  show PyData.canLay0 (.str (wS l)) = true
  unfold PyData.canLay0
  show (wS l).cps.all (· < 0x110000) = true
  unfold wS
  rw [List.all_toArray, List.all_map, List.all_eq_true]
  intro b _
  cases b <;> rfl
theorem join_ok (l : List Bool) (h : l.length < 1000) : joinD (.fz (.str "")) (.ol (l.map fun b => PyData.str (wS [b]))) = some (.fz (.str (wS l))) := by
  have e : l.map (fun b => PyData.str (wS [b])) = (l.map fun b => wS [b]).map PyData.str := by rw [List.map_map]; rfl
  rw [e]
  show ((some ((l.map fun b => wS [b]).map PyData.str)).bind strsOf).bind _ = _
  rw [Option.bind_some, strs_map, Option.bind_some]
  have e2 : ((l.map fun b => wS [b]).map (·.length)).sum = l.length := by
    rw [List.map_map]
    induction l with
    | nil => rfl
    | cons b r ih =>
      rw [List.map_cons, List.sum_cons, ih (by simp at h; omega) (by rw [List.map_map]; rfl), List.length_cons]
      show (wS [b]).length + _ = _
      rw [wS_len]
      simp
      omega
  rw [if_pos (by rw [e2, List.length_map]; show l.length + l.length * 0 ≤ 16777216; omega), join_wS]
theorem enD_map (f : Bool → PyData) : ∀ (l : List Bool) (i : Nat), enD i (l.map f) = (l.zipIdx i).map fun p => .tuple [.int (p.2 : Nat), f p.1]
  | [], _ => rfl
  | b :: r, i => by
    rw [List.map_cons, List.zipIdx_cons, List.map_cons, enD, enD_map f r (i + 1)]
@[simp] theorem wS_chars (l : List Bool) : (wS l).cps.toList.map (fun c => PyData.str ⟨#[c]⟩) = l.map fun b => PyData.str (wS [b]) := by
  unfold wS
  rw [List.map_map]
  rfl
theorem nin2 (i a b : Int) : cmpD .nin (.int i) (.list [.int a, .int b]) = some (!(decide (a = i) || decide (b = i))) := by
  show (inD (.int i) (.list [.int a, .int b])).map not = _
  have s1 : SeqAt.shaped (.int i) = true := rfl
  have s2 : SeqAt.shaped (.list [.int a, .int b]) = true := shp_lI [a, b]
  show (if SeqAt.shaped (.int i) && SeqAt.shaped (.list [.int a, .int b]) then some ([PyData.int a, PyData.int b].any fun z => PyData.eqv z (.int i)) else none).map not = _
  rw [s1, s2]
  show some (!(PyData.eqv (.int a) (.int i) || (PyData.eqv (.int b) (.int i) || false))) = _
  rw [PyData.eqv, PyData.eqv, Bool.or_false]
  by_cases h1 : a = i <;> by_cases h2 : b = i <;> simp [h1, h2]
theorem lr_ix (b : Bool) : (indexD (.fz (.str "rl")) (.fz (.str (wS [b])))).bind (fun y => idxD (.fz (.str "lr")) y) = some (.fz (.str (wS [!b]))) := by
  cases b
  · exact isS_eq (by decide +kernel)
  · exact isS_eq (by decide +kernel)
def flipL (k : Nat) (l : List Bool) : List Bool := (l.zipIdx).map fun p => if p.2 + 1 = k ∨ p.2 = k then !p.1 else p.1
theorem flipL_len (k : Nat) (l : List Bool) : (flipL k l).length = l.length := by simp [flipL]
end Mn

namespace Mn
open PySem PySem.Spec PyProof.Rows
open L2 (atI ixN cutS)

abbrev encL {α : Type} (e : α → PyData) : List α → PyData := fun xs => .list (xs.map e)
abbrev encU {α : Type} (e : α → PyData) : List α → PyData := fun xs => .tuple (xs.map e)
abbrev encN : Unit → PyData := fun _ => .none
abbrev encP1 {α : Type} (e : α → PyData) : α → PyData := fun x => .tuple [e x]
abbrev encP2 {α β : Type} (e : α → PyData) (f : β → PyData) : α × β → PyData := fun x => .tuple [e x.1, f x.2]
abbrev encP3 {α β γ : Type} (e : α → PyData) (f : β → PyData) (g : γ → PyData) : α × β × γ → PyData := fun x => .tuple [e x.1, f x.2.1, g x.2.2]
abbrev encP4 {α β γ δ : Type} (e : α → PyData) (f : β → PyData) (g : γ → PyData) (h : δ → PyData) : α × β × γ × δ → PyData := fun x => .tuple [e x.1, f x.2.1, g x.2.2.1, h x.2.2.2]
abbrev encP5 {α β γ δ ε : Type} (e : α → PyData) (f : β → PyData) (g : γ → PyData) (h : δ → PyData) (k : ε → PyData) : α × β × γ × δ × ε → PyData := fun x => .tuple [e x.1, f x.2.1, g x.2.2.1, h x.2.2.2.1, k x.2.2.2.2]
abbrev encP0 : Unit → PyData := fun _ => .tuple []
def encO {α : Type} (e : α → PyData) : Option α → PyData
  | none => .none
  | some x => e x
abbrev fz {α : Type} (e : α → PyData) : α → RV := fun x => .fz (e x)
abbrev ol {α : Type} (e : α → PyData) : List α → RV := fun xs => .ol (xs.map e)

def mulG (x y : Int) : Option Int := if smallI x || smallI y then some (x * y) else none
def modG (x y : Int) : Option Int := if 0 < y then some (x % y) else none
def fdivG (x y : Int) : Option Int := if 0 < y ∧ y < 1073741824 then some (x / y) else none
def powG (x y : Int) : Option Int := if 0 ≤ y ∧ y ≤ 1000000 ∧ x.natAbs < 18446744073709551616 then some (x ^ y.toNat) else none
def catG {α : Type} (xs ys : List α) : Option (List α) := if xs.length + ys.length ≤ LIM then some (xs ++ ys) else none
def repG {α : Type} (xs : List α) (k : Int) : Option (List α) := if 0 ≤ k ∧ k ≤ 1000 ∧ xs.length * k.toNat ≤ LIM then some (List.replicate k.toNat xs).flatten else none
def catS (x y : Str) : Option Str := if x.length + y.length ≤ LIM then some (x ++ y) else none
def appG {α : Type} (xs : List α) (x : α) : Option (List α) := if xs.length < LIM then some (xs ++ [x]) else none
def fullG {α : Type} (xs : List α) : Option Unit := if xs.length < LIM then some () else none
def popG {α : Type} (xs : List α) (k : Int) : Option (List α × α) := if 0 ≤ k then (xs[k.toNat]?).bind fun d => if xs.length ≤ LIM then some (xs.eraseIdx k.toNat, d) else none else none
def setG {α : Type} (xs : List α) (n : Int) (v : α) : Option (List α) := (ixN xs.length n).bind fun j => some (xs.set j v)
def mapO {α β : Type} (f : α → Option β) : List α → Option (List β)
  | [] => some []
  | x :: xs => (f x).bind fun y => (mapO f xs).bind fun ys => some (y :: ys)
def filO {α β : Type} (f : α → Option (Option β)) : List α → Option (List β)
  | [] => some []
  | x :: xs => (f x).bind fun o => (filO f xs).bind fun r => some (match o with | some y => y :: r | none => r)
def mapG {α β : Type} (xs : List α) (f : α → Option β) : Option (List β) := if xs.length ≤ LIM then mapO f xs else none
def filG {α β : Type} (xs : List α) (f : α → Option (Option β)) : Option (List β) := if xs.length ≤ LIM then filO f xs else none
inductive Lp (σ ρ : Type) where
  | nx (s : σ)
  | bk (s : σ)
  | rt (r : ρ)
def foldO {σ α : Type} (f : α → σ → Option σ) : List α → σ → Option σ
  | [], s => some s
  | x :: xs, s => (f x s).bind (foldO f xs)
def loopO {σ ρ α : Type} (f : α → σ → Option (Lp σ ρ)) : List α → σ → Option (Lp σ ρ)
  | [], s => some (.nx s)
  | x :: xs, s => (f x s).bind fun o => match o with
    | .nx s => loopO f xs s
    | .bk s => some (.nx s)
    | .rt r => some (.rt r)
def lpK {σ ρ R : Type} (k : σ → Option R) (m : ρ → Option R) : Lp σ ρ → Option R
  | .nx s => k s
  | .bk s => k s
  | .rt v => m v
def whlO {σ ρ : Type} (t : σ → Option Bool) (f : σ → Option (Lp σ ρ)) : Nat → σ → Option (Lp σ ρ)
  | 0, _ => none
  | n + 1, s => (t s).bind fun k => if k then (f s).bind fun o => (match o with
    | .nx s => whlO t f n s
    | .bk s => some (.nx s)
    | .rt r => some (.rt r)) else some (.nx s)
/-- a loop without return -/
def whlG {σ : Type} (t : σ → Option Bool) (f : σ → Option σ) : Nat → σ → Option σ
  | 0, _ => none
  | n + 1, s => (t s).bind fun k => if k then (f s).bind (whlG t f n) else some s
def rng1 (b : Int) : Option (List Int) := if -1000000 ≤ b ∧ b ≤ 1000000 then some ((List.range b.toNat).map fun i : Nat => (i : Int)) else none
def rng2 (a b : Int) : Option (List Int) := if -1000000 ≤ a ∧ a ≤ 1000000 ∧ -1000000 ≤ b ∧ b ≤ 1000000 then some ((List.range (b - a).toNat).map fun i : Nat => a + (i : Int)) else none
def rng3 (a b k : Int) : Option (List Int) := if -1000000 ≤ a ∧ a ≤ 1000000 ∧ -1000000 ≤ b ∧ b ≤ 1000000 ∧ k = -1 then some ((List.range (a - b).toNat).map fun i : Nat => a + (i : Int) * (-1)) else none
def enI {α : Type} : Nat → List α → List (Int × α)
  | _, [] => []
  | i, x :: r => ((i : Nat), x) :: enI (i + 1) r
def scrG (ns : List Int) (i : Int) : Option Int := atI ns i

def Sim {α β : Type} (x : Option α) (M : Option β) (φ : β → α) : Prop := ∀ v, M = some v → x = some (φ v)
def SimS {R : Type} (x : Option Out) (M : Option R) (P : R → Out → Prop) : Prop := ∀ v, M = some v → ∃ o, x = some o ∧ P v o
def SimB (x : Option Bool) (M : Option Bool) : Prop := ∀ v, M = some v → x = some v
abbrev PRt {ρ : Type} (φ : ρ → RV) : ρ → Out → Prop := fun r o => o = .rt (φ r)
abbrev PNx {σ : Type} (E : σ → Ev) : σ → Out → Prop := fun s o => o = .nx (E s)
abbrev PLn {σ : Type} (E : σ → Ev) : σ → Out → Prop := fun s o => o = .nx (E s) ∨ o = .ct (E s)
abbrev PLp {σ ρ : Type} (E : σ → Ev) (φ : ρ → RV) : Lp σ ρ → Out → Prop := fun v o => match v with
  | .nx s => o = .nx (E s) ∨ o = .ct (E s)
  | .bk s => o = .bk (E s)
  | .rt r => o = .rt (φ r)
variable {α β γ δ σ ρ R : Type}
theorem sim_p {x : Option α} {v : β} {φ : β → α} (h : x = some (φ v)) : Sim x (some v) φ := fun w e => by cases e; exact h
theorem sim_b {x : Option α} {y : Option γ} {M : Option β} {K : β → Option δ} {φ : β → α} {ψ : δ → γ} (h : Sim x M φ) (k : ∀ v, x = some (φ v) → Sim y (K v) ψ) : Sim y (M.bind K) ψ := fun w e => by
  cases q : M with
  | none => rw [q] at e; cases e
  | some v => rw [q] at e; exact k v (h v q) w e
theorem sms_b {x : Option α} {y : Option Out} {M : Option β} {K : β → Option R} {φ : β → α} {P : R → Out → Prop} (h : Sim x M φ) (k : ∀ v, x = some (φ v) → SimS y (K v) P) : SimS y (M.bind K) P := fun w e => by
  cases q : M with
  | none => rw [q] at e; cases e
  | some v => rw [q] at e; exact k v (h v q) w e
theorem bind_of {M : Option β} {K : β → Option δ} {w : δ} (e : M.bind K = some w) : ∃ v, M = some v ∧ K v = some w := by
  cases M with
  | none => cases e
  | some v => exact ⟨v, rfl, e⟩
section
variable {c : Cl} {env : Ev}
theorem e_var {i : Nat} {r : RV} (h : (env[i]?).join = some r) : ev c env (.var i) = some r := by rw [q_ev_var]; exact h
theorem e_int (i : Int) : ev c env (.int i) = some (.fz (.int i)) := q_ev_int _ _ _
theorem e_str (i : Str) : ev c env (.str i) = some (.fz (.str i)) := q_ev_str _ _ _
theorem e_bl (i : Bool) : ev c env (.bl i) = some (.fz (.bool i)) := q_ev_bl _ _ _
theorem e_non : ev c env .non = some (.fz .none) := q_ev_non _ _
theorem e_glb {g : Nat} {d : PyData} (h : c.glb g = some d) : ev c env (.glb g) = some (.fz d) := by rw [q_ev_glb, h]; rfl
theorem e_add {a b : Ex} {x y : Int} (ha : ev c env a = some (.fz (.int x))) (hb : ev c env b = some (.fz (.int y))) : ev c env (.bin .add a b) = some (.fz (.int (x + y))) := by rw [q_ev_bin, ha, hb]; rfl
theorem e_sub {a b : Ex} {x y : Int} (ha : ev c env a = some (.fz (.int x))) (hb : ev c env b = some (.fz (.int y))) : ev c env (.bin .sub a b) = some (.fz (.int (x - y))) := by rw [q_ev_bin, ha, hb]; rfl
theorem e_neg {a : Ex} {x : Int} (ha : ev c env a = some (.fz (.int x))) : ev c env (.neg a) = some (.fz (.int (-x))) := by rw [q_ev_neg, ha]; rfl
theorem m_mul {a b : Ex} {x y : Int} (ha : ev c env a = some (.fz (.int x))) (hb : ev c env b = some (.fz (.int y))) : Sim (ev c env (.bin .mul a b)) (mulG x y) (fz PyData.int) := fun v e => by
  unfold mulG at e
  split at e
  · cases e
    rw [q_ev_bin, ha, hb]
    exact if_pos (by assumption)
  · cases e
theorem m_mod {a b : Ex} {x y : Int} (ha : ev c env a = some (.fz (.int x))) (hb : ev c env b = some (.fz (.int y))) : Sim (ev c env (.bin .mod a b)) (modG x y) (fz PyData.int) := fun v e => by
  unfold modG at e
  split at e
  · cases e
    rw [q_ev_bin, ha, hb]
    exact if_pos (by assumption)
  · cases e
theorem m_fdiv {a b : Ex} {x y : Int} (ha : ev c env a = some (.fz (.int x))) (hb : ev c env b = some (.fz (.int y))) : Sim (ev c env (.bin .fdiv a b)) (fdivG x y) (fz PyData.int) := fun v e => by
  unfold fdivG at e
  split at e
  · cases e
    rw [q_ev_bin, ha, hb]
    exact if_pos (by assumption)
  · cases e
theorem m_pow {a b : Ex} {x y : Int} (ha : ev c env a = some (.fz (.int x))) (hb : ev c env b = some (.fz (.int y))) : Sim (ev c env (.bin .pow a b)) (powG x y) (fz PyData.int) := fun v e => by
  unfold powG at e
  split at e
  · cases e
    rw [q_ev_bin, ha, hb]
    exact if_pos (by assumption)
  · cases e
theorem m_catU {e : α → PyData} {a b : Ex} {x y : List α} (ha : ev c env a = some (.fz (.tuple (x.map e)))) (hb : ev c env b = some (.fz (.tuple (y.map e)))) : Sim (ev c env (.bin .add a b)) (catG x y) (fz (encU e)) := fun v h => by
  unfold catG at h
  split at h
  · cases h
    rw [q_ev_bin, ha, hb]
    show addD (.fz (.tuple (x.map e))) (.fz (.tuple (y.map e))) = _
    unfold addD
    simp only [List.length_map]
    rw [if_pos (by assumption), ← List.map_append]
  · cases h
theorem add_lst {r s : RV} {xs ys : List PyData} (h : r.lst = some xs) (g : s.lst = some ys) (l : xs.length + ys.length ≤ LIM) : binD .add r s = some (.ol (xs ++ ys)) := by
  show addD r s = _
  unfold RV.lst at h g
  split at h <;> cases h <;> (split at g <;> cases g <;> exact if_pos l)
theorem m_catL {e : α → PyData} {a b : Ex} {x y : List α} {r s : RV} (ha : ev c env a = some r) (hb : ev c env b = some s) (hx : r.lst = some (x.map e)) (hy : s.lst = some (y.map e)) : Sim (ev c env (.bin .add a b)) (catG x y) (ol e) := fun v h => by
  unfold catG at h
  split at h
  · cases h
    rw [q_ev_bin, ha, hb]
    have := add_lst hx hy (by simpa using (by assumption : x.length + y.length ≤ LIM))
    rw [← List.map_append] at this
    exact this
  · cases h
theorem m_catS {a b : Ex} {x y : Str} (ha : ev c env a = some (.fz (.str x))) (hb : ev c env b = some (.fz (.str y))) : Sim (ev c env (.bin .add a b)) (catS x y) (fz PyData.str) := fun v h => by
  unfold catS at h
  split at h
  · cases h
    rw [q_ev_bin, ha, hb]
    exact if_pos (by assumption)
  · cases h
theorem rep_lst {r : RV} {xs : List PyData} {k : Int} (h : r.lst = some xs) (l : 0 ≤ k ∧ k ≤ 1000 ∧ xs.length * k.toNat ≤ LIM) : binD .mul r (.fz (.int k)) = some (.ol (List.replicate k.toNat xs).flatten) := by
  show mulD r _ = _
  unfold RV.lst at h
  split at h <;> cases h <;> exact if_pos l
theorem m_rep {e : α → PyData} {a b : Ex} {x : List α} {k : Int} {r : RV} (ha : ev c env a = some r) (hb : ev c env b = some (.fz (.int k))) (hx : r.lst = some (x.map e)) : Sim (ev c env (.bin .mul a b)) (repG x k) (ol e) := fun v h => by
  unfold repG at h
  split at h
  · cases h
    rw [q_ev_bin, ha, hb]
    have := rep_lst (k := k) hx (by simpa using (by assumption : 0 ≤ k ∧ k ≤ 1000 ∧ x.length * k.toNat ≤ LIM))
    show binD .mul r (.fz (.int k)) = _
    rw [this]
    show some (RV.ol _) = some (RV.ol _)
    rw [List.map_flatten, List.map_replicate]
  · cases h
theorem e_not {a : Ex} {x : Bool} (ha : ev c env a = some (.fz (.bool x))) : ev c env (.not a) = some (.fz (.bool (!x))) := by rw [q_ev_not, ha]; rfl
theorem e_one {a : Ex} {d : PyData} (ha : ev c env a = some (.fz d)) : ev c env (.one a) = some (.fz d) := by rw [q_ev_one, ha]; simp
theorem e_and {a b : Ex} {x y : Bool} (ha : ev c env a = some (.fz (.bool x))) (hb : ev c env b = some (.fz (.bool y))) : ev c env (.and a b) = some (.fz (.bool (x && y))) := by
  rw [q_ev_and, ha, hb]
  cases x <;> simp
theorem e_or {a b : Ex} {x y : Bool} (ha : ev c env a = some (.fz (.bool x))) (hb : ev c env b = some (.fz (.bool y))) : ev c env (.or a b) = some (.fz (.bool (x || y))) := by
  rw [q_ev_or, ha, hb]
  cases x <;> simp
theorem m_and {a b : Ex} {x : Bool} {M : Option Bool} (ha : ev c env a = some (.fz (.bool x))) (hb : Sim (ev c env b) M (fz PyData.bool)) : Sim (ev c env (.and a b)) (if x = true then M else some false) (fz PyData.bool) := fun v h => by
  rw [q_ev_and, ha]
  cases x with
  | true => simp only [if_true] at h; simp [hb v h]
  | false => cases h; rfl
theorem m_or {a b : Ex} {x : Bool} {M : Option Bool} (ha : ev c env a = some (.fz (.bool x))) (hb : Sim (ev c env b) M (fz PyData.bool)) : Sim (ev c env (.or a b)) (if x = true then some true else M) (fz PyData.bool) := fun v h => by
  rw [q_ev_or, ha]
  cases x with
  | false => simp only [Bool.false_eq_true, if_false] at h; simp [hb v h]
  | true => cases h; rfl
theorem m_ite {t a b : Ex} {x : Bool} {M N : Option β} {φ : β → PyData} {f g : β → RV} (ht : ev c env t = some (.fz (.bool x))) (ha : Sim (ev c env a) M f) (hb : Sim (ev c env b) N g) (hf : ∀ v, ownD a (f v) = some (φ v)) (hg : ∀ v, ownD b (g v) = some (φ v)) :
    Sim (ev c env (.ite t a b)) (if x = true then M else N) (fz φ) := fun v h => by
  rw [q_ev_ite, ht]
  cases x with
  | true => simp only [if_true] at h; simp [ha v h, hf]
  | false => simp only [Bool.false_eq_true, if_false] at h; simp [hb v h, hg]
theorem e_ite {t a b : Ex} {x : Bool} {p q : β} {φ : β → PyData} {r s : RV} (ht : ev c env t = some (.fz (.bool x))) (ha : ev c env a = some r) (hb : ev c env b = some s) (hr : ownD a r = some (φ p)) (hs : ownD b s = some (φ q)) :
    ev c env (.ite t a b) = some (.fz (φ (if x = true then p else q))) := by
  rw [q_ev_ite, ht]
  cases x with
  | true => simp [ha, hr]
  | false => simp [hb, hs]
theorem e_lt {a b : Ex} {x y : Int} (ha : ev c env a = some (.fz (.int x))) (hb : ev c env b = some (.fz (.int y))) : ev c env (.cmp .lt a b) = some (.fz (.bool (decide (x < y)))) := by rw [q_ev_cmp, ha, hb]; rfl
theorem e_le {a b : Ex} {x y : Int} (ha : ev c env a = some (.fz (.int x))) (hb : ev c env b = some (.fz (.int y))) : ev c env (.cmp .le a b) = some (.fz (.bool (decide (x ≤ y)))) := by rw [q_ev_cmp, ha, hb]; rfl
theorem e_gt {a b : Ex} {x y : Int} (ha : ev c env a = some (.fz (.int x))) (hb : ev c env b = some (.fz (.int y))) : ev c env (.cmp .gt a b) = some (.fz (.bool (decide (y < x)))) := by rw [q_ev_cmp, ha, hb]; rfl
theorem e_ge {a b : Ex} {x y : Int} (ha : ev c env a = some (.fz (.int x))) (hb : ev c env b = some (.fz (.int y))) : ev c env (.cmp .ge a b) = some (.fz (.bool (decide (y ≤ x)))) := by rw [q_ev_cmp, ha, hb]; rfl
theorem e_eqI {a b : Ex} {x y : Int} (ha : ev c env a = some (.fz (.int x))) (hb : ev c env b = some (.fz (.int y))) : ev c env (.cmp .eq a b) = some (.fz (.bool (decide (x = y)))) := by rw [q_ev_cmp, ha, hb]; simp
theorem e_neI {a b : Ex} {x y : Int} (ha : ev c env a = some (.fz (.int x))) (hb : ev c env b = some (.fz (.int y))) : ev c env (.cmp .ne a b) = some (.fz (.bool (!decide (x = y)))) := by rw [q_ev_cmp, ha, hb]; simp
/-- chains of comparisons of ints -/
def coI : Co → Int → Int → Bool
  | .eq, x, y => decide (x = y)
  | .ne, x, y => !decide (x = y)
  | .lt, x, y => decide (x < y)
  | .le, x, y => decide (x ≤ y)
  | .gt, x, y => decide (y < x)
  | .ge, x, y => decide (y ≤ x)
  | _, _, _ => false
def coOk : Co → Bool
  | .eq => true
  | .ne => true
  | .lt => true
  | .le => true
  | .gt => true
  | .ge => true
  | _ => false
theorem coI_ok {o : Co} (h : coOk o = true) (x y : Int) : cmpD o (.int x) (.int y) = some (coI o x y) := by
  cases o <;> first | (cases h; done) | simp [coI]
theorem e_chn {o o' : Co} {a b d : Ex} {x y z : Int} (h : coOk o = true) (h' : coOk o' = true) (ha : ev c env a = some (.fz (.int x))) (hb : ev c env b = some (.fz (.int y))) (hd : ev c env d = some (.fz (.int z))) : ev c env (.chn o o' a b d) = some (.fz (.bool (coI o x y && coI o' y z))) := by
  rw [q_ev_chn, ha, hb, hd]
  show (cmpD o (.int x) (.int y)).bind _ = _
  rw [coI_ok h]
  cases coI o x y
  · rfl
  · show (cmpD o' (.int y) (.int z)).map _ = _
    rw [coI_ok h']
    rfl
theorem e_chn3 {o o' o2 : Co} {a b d f : Ex} {x y z w : Int} (h : coOk o = true) (h' : coOk o' = true) (h2 : coOk o2 = true) (ha : ev c env a = some (.fz (.int x))) (hb : ev c env b = some (.fz (.int y))) (hd : ev c env d = some (.fz (.int z))) (hf : ev c env f = some (.fz (.int w))) : ev c env (.chn3 o o' o2 a b d f) = some (.fz (.bool (coI o x y && coI o' y z && coI o2 z w))) := by
  rw [q_ev_chn3, ha, hb, hd, hf]
  show (cmpD o (.int x) (.int y)).bind _ = _
  rw [coI_ok h]
  cases coI o x y
  · rfl
  · show (cmpD o' (.int y) (.int z)).bind _ = _
    rw [coI_ok h']
    cases coI o' y z
    · rfl
    · show (cmpD o2 (.int z) (.int w)).map _ = _
      rw [coI_ok h2]
      rfl
/-- data whose equality is that of what they stand for -/
structure Good (e : α → PyData) (n : Nat) : Prop where
  can : ∀ x, (e x).canLay0 = true
  dep : ∀ x, (e x).depth ≤ n
  inj : ∀ x y, PyData.eqv (e x) (e y) = true ↔ x = y
theorem good_I : Good PyData.int 0 := ⟨fun _ => rfl, fun _ => Nat.le_refl _, fun x y => by rw [PyData.eqv]; simp⟩
theorem good_B : Good PyData.bool 0 := ⟨fun _ => rfl, fun _ => Nat.le_refl _, fun x y => by rw [PyData.eqv]; simp⟩
theorem eqvAll_map {e : α → PyData} (h : ∀ x y, PyData.eqv (e x) (e y) = true ↔ x = y) : ∀ xs ys : List α, PyData.eqvAll (xs.map e) (ys.map e) = true ↔ xs = ys
  | [], [] => by simp [PyData.eqvAll]
  | [], _ :: _ => by simp [PyData.eqvAll]
  | _ :: _, [] => by simp [PyData.eqvAll]
  | x :: xs, y :: ys => by simp [PyData.eqvAll, h, eqvAll_map h xs ys]
theorem good_L {e : α → PyData} {n : Nat} (g : Good e n) : Good (encL e) (n + 1) :=
  ⟨fun x => by show PyData.canLay0 (.list _) = true; rw [PyData.canLay0]; exact can_map e g.can x,
   fun x => by show PyData.depth (.list _) ≤ _; rw [PyData.depth]; exact Nat.succ_le_succ (dep_map e n g.dep x),
   fun x y => by show PyData.eqv (.list _) (.list _) = true ↔ _; rw [PyData.eqv]; exact eqvAll_map g.inj x y⟩
theorem good_U {e : α → PyData} {n : Nat} (g : Good e n) : Good (encU e) (n + 1) :=
  ⟨fun x => by show PyData.canLay0 (.tuple _) = true; rw [PyData.canLay0]; exact can_map e g.can x,
   fun x => by show PyData.depth (.tuple _) ≤ _; rw [PyData.depth]; exact Nat.succ_le_succ (dep_map e n g.dep x),
   fun x y => by show PyData.eqv (.tuple _) (.tuple _) = true ↔ _; rw [PyData.eqv]; exact eqvAll_map g.inj x y⟩
theorem Good.up {e : α → PyData} {n m : Nat} (g : Good e n) (h : n ≤ m) : Good e m := ⟨g.can, fun x => Nat.le_trans (g.dep x) h, g.inj⟩
theorem good_P0 : Good encP0 1 := ⟨fun _ => rfl, fun _ => by simp [PyData.depth, PyData.depthAll], fun x y => by simp [PyData.eqv, PyData.eqvAll]⟩
theorem good_P1 {e : α → PyData} {n : Nat} (g : Good e n) : Good (encP1 e) (n + 1) :=
  ⟨fun x => by simp [PyData.canLay0, PyData.canLayAll0, g.can], fun x => by have := g.dep x; simp only [PyData.depth, PyData.depthAll]; omega, fun x y => by simp [PyData.eqv, PyData.eqvAll, g.inj]⟩
theorem good_P2 {e : α → PyData} {f : β → PyData} {n m : Nat} (g : Good e n) (h : Good f m) : Good (encP2 e f) (max n m + 1) :=
  ⟨fun x => by simp [PyData.canLay0, PyData.canLayAll0, g.can, h.can], fun x => by have := g.dep x.1; have := h.dep x.2; simp only [PyData.depth, PyData.depthAll]; omega, fun x y => by simp [PyData.eqv, PyData.eqvAll, g.inj, h.inj, Prod.ext_iff]⟩
theorem good_P3 {e : α → PyData} {f : β → PyData} {k : γ → PyData} {n m l : Nat} (g : Good e n) (h : Good f m) (j : Good k l) : Good (encP3 e f k) (max n (max m l) + 1) :=
  ⟨fun x => by simp [PyData.canLay0, PyData.canLayAll0, g.can, h.can, j.can], fun x => by have := g.dep x.1; have := h.dep x.2.1; have := j.dep x.2.2; simp only [PyData.depth, PyData.depthAll]; omega, fun x y => by simp [PyData.eqv, PyData.eqvAll, g.inj, h.inj, j.inj, Prod.ext_iff]⟩
theorem good_P4 {e : α → PyData} {f : β → PyData} {k : γ → PyData} {q : δ → PyData} {n m l r : Nat} (g : Good e n) (h : Good f m) (j : Good k l) (i : Good q r) : Good (encP4 e f k q) (max n (max m (max l r)) + 1) :=
  ⟨fun x => by simp [PyData.canLay0, PyData.canLayAll0, g.can, h.can, j.can, i.can], fun x => by have := g.dep x.1; have := h.dep x.2.1; have := j.dep x.2.2.1; have := i.dep x.2.2.2; simp only [PyData.depth, PyData.depthAll]; omega, fun x y => by simp [PyData.eqv, PyData.eqvAll, g.inj, h.inj, j.inj, i.inj, Prod.ext_iff]⟩
/-- what is no None -/
def NotN (e : α → PyData) : Prop := ∀ x, PyData.eqv (e x) .none = false ∧ PyData.eqv .none (e x) = false
theorem notN_I : NotN PyData.int := fun x => ⟨by simp [PyData.eqv], by simp [PyData.eqv]⟩
theorem notN_B : NotN PyData.bool := fun x => ⟨by simp [PyData.eqv], by simp [PyData.eqv]⟩
theorem notN_S : NotN PyData.str := fun x => ⟨by simp [PyData.eqv], by simp [PyData.eqv]⟩
theorem notN_U {e : α → List PyData} : NotN (fun x => PyData.tuple (e x)) := fun x => ⟨by simp [PyData.eqv], by simp [PyData.eqv]⟩
theorem notN_L {e : α → List PyData} : NotN (fun x => PyData.list (e x)) := fun x => ⟨by simp [PyData.eqv], by simp [PyData.eqv]⟩
theorem good_O {e : α → PyData} {n : Nat} (g : Good e n) (h : NotN e) : Good (encO e) n :=
  ⟨fun x => by cases x <;> simp [encO, PyData.canLay0, g.can], fun x => by
    cases x with
    | none => simp [encO, PyData.depth]
    | some x => exact g.dep x, fun x y => by
    cases x <;> cases y <;> simp [encO, PyData.eqv, g.inj, h _]⟩
theorem Good.shp {e : α → PyData} {n : Nat} (g : Good e n) (h : n ≤ 64) (x : α) : SeqAt.shaped (e x) = true := shp_of (g.can x) (Nat.le_trans (g.dep x) h)
theorem Good.dec [DecidableEq α] {e : α → PyData} {n : Nat} (g : Good e n) (x y : α) : PyData.eqv (e x) (e y) = decide (x = y) := by
  by_cases h : x = y
  · rw [decide_eq_true h]; exact (g.inj x y).mpr h
  · rw [decide_eq_false h]
    cases q : PyData.eqv (e x) (e y)
    · rfl
    · exact absurd ((g.inj x y).mp q) h
theorem e_eqv {e : α → PyData} [DecidableEq α] {n : Nat} {a b : Ex} {x y : α} {r s : RV} (g : Good e n) (hn : n ≤ 64) (ha : ev c env a = some r) (hb : ev c env b = some s) (hr : r.d = e x) (hs : s.d = e y) : ev c env (.cmp .eq a b) = some (.fz (.bool (decide (x = y)))) := by
  rw [q_ev_cmp, ha, hb]
  show (cmpD .eq r.d s.d).map _ = _
  rw [hr, hs]
  show (if SeqAt.shaped (e x) && SeqAt.shaped (e y) then some (PyData.eqv (e x) (e y)) else none).map _ = _
  rw [g.shp hn, g.shp hn, g.dec]
  rfl
/-- the first place of an equal one -/
def indexG {α : Type} [DecidableEq α] (x : List α) (y : α) : Option Int := (x.findIdx? fun z => decide (z = y)).map fun (j : Nat) => (j : Int)
theorem findIdx_map {β γ : Type} (f : β → γ) (p : γ → Bool) : ∀ xs : List β, (xs.map f).findIdx? p = xs.findIdx? fun z => p (f z)
  | [] => rfl
  | x :: r => by
    rw [List.map_cons, List.findIdx?_cons, List.findIdx?_cons, findIdx_map f p r]
theorem index_ok {e : α → PyData} [DecidableEq α] {n : Nat} (g : Good e n) (x : List α) (y : α) : ((x.map e).findIdx? fun z => PyData.eqv z (e y)) = x.findIdx? fun z => decide (z = y) := by
  rw [findIdx_map]
  congr 1
  funext z
  rw [g.dec]
theorem m_index {e : α → PyData} [DecidableEq α] {n : Nat} {a b : Ex} {x : List α} {y : α} {r s : RV} (g : Good e n) (hn : n < 64) (ha : ev c env a = some r) (hb : ev c env b = some s) (hr : r.lst = some (x.map e)) (hs : s.d = e y) : Sim (ev c env (.mt .index a (.cons b .nil))) (indexG x y) (fz PyData.int) := fun v h => by
  obtain ⟨j, h1, rfl⟩ := Option.map_eq_some_iff.mp h
  rw [q_ev_mt, ha, q_evr_cons, hb, q_evr_nil]
  show indexD r s = _
  have e1 : indexD r s = (if SeqAt.shaped (.list (x.map e)) && SeqAt.shaped s.d then ((x.map e).findIdx? fun z => PyData.eqv z s.d).map fun j => RV.fz (.int (j : Nat)) else none) := by
    unfold RV.lst at hr
    split at hr <;> cases hr <;> rfl
  rw [e1, hs, show SeqAt.shaped (.list (x.map e)) = true from (good_L g).shp hn x, g.shp (Nat.le_of_lt hn), index_ok g, h1]
  rfl
theorem m_indexU {e : α → PyData} [DecidableEq α] {n : Nat} {a b : Ex} {x : List α} {y : α} {s : RV} (g : Good e n) (hn : n < 64) (ha : ev c env a = some (.fz (.tuple (x.map e)))) (hb : ev c env b = some s) (hs : s.d = e y) : Sim (ev c env (.mt .index a (.cons b .nil))) (indexG x y) (fz PyData.int) := fun v h => by
  obtain ⟨j, h1, rfl⟩ := Option.map_eq_some_iff.mp h
  rw [q_ev_mt, ha, q_evr_cons, hb, q_evr_nil]
  show (if SeqAt.shaped (.tuple (x.map e)) && SeqAt.shaped s.d then ((x.map e).findIdx? fun z => PyData.eqv z s.d).map fun j => RV.fz (.int (j : Nat)) else none) = _
  rw [hs, show SeqAt.shaped (.tuple (x.map e)) = true from (good_U g).shp hn x, g.shp (Nat.le_of_lt hn), index_ok g, h1]
  rfl
theorem m_countL {e : α → PyData} [DecidableEq α] {n : Nat} {a b : Ex} {x : List α} {y : α} {r s : RV} (g : Good e n) (hn : n < 64) (ha : ev c env a = some r) (hb : ev c env b = some s) (hr : r.lst = some (x.map e)) (hs : s.d = e y) : ev c env (.mt .count a (.cons b .nil)) = some (.fz (.int ((x.countP fun z => decide (z = y) : Nat) : Int))) := by
  rw [q_ev_mt, ha, q_evr_cons, hb, q_evr_nil]
  show countD r s = _
  unfold countD
  rw [hr]
  show (if SeqAt.shaped (.list (x.map e)) && SeqAt.shaped s.d then some (RV.fz (.int (((x.map e).countP fun z => PyData.eqv z s.d : Nat)))) else none) = _
  rw [hs, show SeqAt.shaped (.list (x.map e)) = true from (good_L g).shp hn x, g.shp (Nat.le_of_lt hn), List.countP_map]
  have : ((fun z => PyData.eqv z (e y)) ∘ e) = fun z => decide (z = y) := by funext z; exact g.dec z y
  rw [this]
  rfl
/-- tuple * int -/
def repU {α : Type} (xs : List α) (k : Int) : Option (List α) := if -1000 ≤ k ∧ k ≤ 1000 ∧ xs.length ≤ 1000 then some (List.replicate k.toNat xs).flatten else none
theorem m_repU {e : α → PyData} {a b : Ex} {x : List α} {k : Int} (ha : ev c env a = some (.fz (.tuple (x.map e)))) (hb : ev c env b = some (.fz (.int k))) : Sim (ev c env (.bin .mul a b)) (repU x k) (fz (encU e)) := fun v h => by
  unfold repU at h
  split at h
  · cases h
    rw [q_ev_bin, ha, hb]
    have hl : -1000 ≤ k ∧ k ≤ 1000 ∧ (x.map e).length ≤ 1000 := by simpa using (by assumption : -1000 ≤ k ∧ k ≤ 1000 ∧ x.length ≤ 1000)
    show mulD (.fz (.tuple (x.map e))) (.fz (.int k)) = _
    show (if -1000 ≤ k ∧ k ≤ 1000 ∧ (x.map e).length ≤ 1000 then some (RV.fz (.tuple (List.replicate k.toNat (x.map e)).flatten)) else none) = _
    rw [if_pos hl]
    show some (RV.fz (.tuple _)) = some (RV.fz (.tuple _))
    rw [List.map_flatten, List.map_replicate]
  · cases h
theorem flat_I : ∀ v : Int, flatD (.int v) = true := fun _ => rfl
theorem flat_B : ∀ v : Bool, flatD (.bool v) = true := fun _ => rfl
theorem flat_S : ∀ v : Str, flatD (.str v) = true := fun _ => rfl
theorem flat_N : ∀ v : Unit, flatD (encN v) = true := fun _ => rfl
theorem flatAll_map {e : α → PyData} (h : ∀ v, flatD (e v) = true) : ∀ xs : List α, flatAll (xs.map e) = true
  | [] => rfl
  | x :: r => by show (flatD (e x) && flatAll (r.map e)) = true; rw [h, flatAll_map h r]; rfl
theorem flat_U {e : α → PyData} (h : ∀ v, flatD (e v) = true) : ∀ v, flatD (encU e v) = true := fun v => by
  show flatD (.tuple (v.map e)) = true
  rw [flatD]; exact flatAll_map h v
theorem flat_P0 : ∀ v, flatD (encP0 v) = true := fun _ => rfl
theorem flat_P1 {e : α → PyData} (h : ∀ v, flatD (e v) = true) : ∀ v, flatD (encP1 e v) = true := fun v => by
  show flatD (.tuple [_]) = true
  simp [flatD, flatAll, h]
theorem flat_P2 {α β : Type} {e : α → PyData} {f : β → PyData} (h : ∀ v, flatD (e v) = true) (g : ∀ v, flatD (f v) = true) : ∀ v, flatD (encP2 e f v) = true := fun v => by
  show flatD (.tuple [_, _]) = true
  simp [flatD, flatAll, h, g]
theorem flat_P3 {α β γ : Type} {e : α → PyData} {f : β → PyData} {k : γ → PyData} (h : ∀ v, flatD (e v) = true) (g : ∀ v, flatD (f v) = true) (i : ∀ v, flatD (k v) = true) : ∀ v, flatD (encP3 e f k v) = true := fun v => by
  show flatD (.tuple [_, _, _]) = true
  simp [flatD, flatAll, h, g, i]
theorem flat_O {e : α → PyData} (h : ∀ v, flatD (e v) = true) : ∀ v, flatD (encO e v) = true := fun v => by
  cases v with
  | none => rfl
  | some x => exact h x
theorem e_nev {e : α → PyData} [DecidableEq α] {n : Nat} {a b : Ex} {x y : α} {r s : RV} (g : Good e n) (hn : n ≤ 64) (ha : ev c env a = some r) (hb : ev c env b = some s) (hr : r.d = e x) (hs : s.d = e y) : ev c env (.cmp .ne a b) = some (.fz (.bool (!decide (x = y)))) := by
  rw [q_ev_cmp, ha, hb]
  show (cmpD .ne r.d s.d).map _ = _
  rw [hr, hs]
  show (if SeqAt.shaped (e x) && SeqAt.shaped (e y) then some (!PyData.eqv (e x) (e y)) else none).map _ = _
  rw [g.shp hn, g.shp hn, g.dec]
  rfl
theorem e_inL {e : α → PyData} [DecidableEq α] {n : Nat} {a b : Ex} {x : α} {ys : List α} {r s : RV} (g : Good e n) (hn : n + 1 ≤ 64) (ha : ev c env a = some r) (hb : ev c env b = some s) (hr : r.d = e x) (hs : s.d = .list (ys.map e)) : ev c env (.cmp .inn a b) = some (.fz (.bool (decide (x ∈ ys)))) := by
  have h1 := g.shp (by omega) x
  have h2 := (good_L g).shp hn ys
  rw [q_ev_cmp, ha, hb]
  show (inD r.d s.d).map _ = _
  rw [hr, hs]
  have : inD (e x) (.list (ys.map e)) = some (decide (x ∈ ys)) := by
    have k : (ys.map e).any (fun z => PyData.eqv z (e x)) = decide (x ∈ ys) := by
      rw [List.any_map]
      have : ((fun z => PyData.eqv z (e x)) ∘ e) = fun y => decide (y = x) := funext fun y => g.dec y x
      rw [this]
      by_cases q : x ∈ ys
      · rw [decide_eq_true q]; exact List.any_eq_true.mpr ⟨x, q, by simp⟩
      · rw [decide_eq_false q]
        rw [List.any_eq_false]
        intro y hy
        simp
        rintro rfl
        exact q hy
    have h2' : SeqAt.shaped (.list (ys.map e)) = true := h2
    generalize e x = d at h1 k ⊢
    show inD d (.list _) = _
    have : inD d (.list (ys.map e)) = if SeqAt.shaped d && SeqAt.shaped (.list (ys.map e)) then some ((ys.map e).any fun z => PyData.eqv z d) else none := by cases d <;> rfl
    rw [this, h1, h2', k]
    rfl
  rw [this]
  rfl
theorem e_innL {e : α → PyData} [DecidableEq α] {n : Nat} {a b : Ex} {x : α} {ys : List α} {r s : RV} (g : Good e n) (hn : n + 1 ≤ 64) (ha : ev c env a = some r) (hb : ev c env b = some s) (hr : r.d = e x) (hs : s.d = .list (ys.map e)) : ev c env (.cmp .inn a b) = some (.fz (.bool (decide (x ∈ ys)))) := e_inL g hn ha hb hr hs
theorem e_ninL {e : α → PyData} [DecidableEq α] {n : Nat} {a b : Ex} {x : α} {ys : List α} {r s : RV} (g : Good e n) (hn : n + 1 ≤ 64) (ha : ev c env a = some r) (hb : ev c env b = some s) (hr : r.d = e x) (hs : s.d = .list (ys.map e)) : ev c env (.cmp .nin a b) = some (.fz (.bool (!decide (x ∈ ys)))) := by
  have h := e_inL g hn ha hb hr hs
  rw [q_ev_cmp, ha, hb] at h ⊢
  have h : ((inD r.d s.d).map fun k => RV.fz (.bool k)) = some (.fz (.bool (decide (x ∈ ys)))) := h
  show (((inD r.d s.d).map not).map fun k => RV.fz (.bool k)) = _
  cases q : inD r.d s.d with
  | none => rw [q] at h; cases h
  | some k => rw [q] at h; cases h; rfl
/-- in a tuple of ints -/
theorem e_innUI {a b : Ex} {x : Int} {ys : List Int} {r : RV} {s : RV} (ha : ev c env a = some r) (hb : ev c env b = some s) (hr : r.d = .int x) (hs : s.d = .tuple (ys.map PyData.int)) : ev c env (.cmp .inn a b) = some (.fz (.bool (decide (x ∈ ys)))) := by
  rw [q_ev_cmp, ha, hb]
  show (inD r.d s.d).map _ = _
  rw [hr, hs]
  have k : (ys.map PyData.int).any (fun z => PyData.eqv z (.int x)) = decide (x ∈ ys) := by
    rw [List.any_map]
    have : ((fun z => PyData.eqv z (PyData.int x)) ∘ PyData.int) = fun y => decide (y = x) := funext fun y => good_I.dec y x
    rw [this]
    by_cases q : x ∈ ys
    · rw [decide_eq_true q]; exact List.any_eq_true.mpr ⟨x, q, by simp⟩
    · rw [decide_eq_false q, List.any_eq_false]
      intro y hy
      simp
      rintro rfl
      exact q hy
  have al : (ys.map PyData.int).all scalD = true := by simp [scalD]
  show (if scalD (.int x) && (ys.map PyData.int).all scalD then some ((ys.map PyData.int).any fun z => PyData.eqv z (.int x)) else none).map _ = _
  rw [al, k]
  rfl
theorem e_ninUI {a b : Ex} {x : Int} {ys : List Int} {r : RV} {s : RV} (ha : ev c env a = some r) (hb : ev c env b = some s) (hr : r.d = .int x) (hs : s.d = .tuple (ys.map PyData.int)) : ev c env (.cmp .nin a b) = some (.fz (.bool (!decide (x ∈ ys)))) := by
  have h := e_innUI ha hb hr hs
  rw [q_ev_cmp, ha, hb] at h ⊢
  have h : ((inD r.d s.d).map fun k => RV.fz (.bool k)) = some (.fz (.bool (decide (x ∈ ys)))) := h
  show (((inD r.d s.d).map not).map fun k => RV.fz (.bool k)) = _
  cases q : inD r.d s.d with
  | none => rw [q] at h; cases h
  | some k => rw [q] at h; cases h; rfl
theorem e_isNn {a : Ex} {x : Option α} {e : α → PyData} (g : NotN e) (ha : ev c env a = some (.fz (encO e x))) : ev c env (.cmp .isN a .non) = some (.fz (.bool x.isNone)) := by
  rw [q_ev_cmp, ha, q_ev_non]
  show (cmpD .isN (encO e x) .none).map (fun k => RV.fz (.bool k)) = _
  have cm : ∀ d : PyData, cmpD .isN d .none = some (isNone d) := fun d => by cases d <;> rfl
  rw [cm]
  cases x with
  | none => rfl
  | some x =>
    have := (g x).1
    show some (RV.fz (.bool (isNone (e x)))) = _
    cases h : e x <;> first | rfl | (rw [h] at this; simp [PyData.eqv] at this)
theorem e_noNn {a : Ex} {x : Option α} {e : α → PyData} (g : NotN e) (ha : ev c env a = some (.fz (encO e x))) : ev c env (.cmp .noN a .non) = some (.fz (.bool x.isSome)) := by
  rw [q_ev_cmp, ha, q_ev_non]
  show (cmpD .noN (encO e x) .none).map (fun k => RV.fz (.bool k)) = _
  have cm : ∀ d : PyData, cmpD .noN d .none = some (!isNone d) := fun d => by cases d <;> rfl
  rw [cm]
  cases x with
  | none => rfl
  | some x =>
    have := (g x).1
    show some (RV.fz (.bool (!isNone (e x)))) = _
    cases h : e x <;> first | rfl | (rw [h] at this; simp [PyData.eqv] at this)
/-- what is there, though it might be None -/
theorem m_un {a : Ex} {x : Option α} {e : α → PyData} (ha : ev c env a = some (.fz (encO e x))) : Sim (ev c env a) x (fz e) := fun v h => by rw [ha, h]; rfl
theorem es_nil : evs c env .nil = some [] := q_evs_nil _ _
theorem es_cons {a : Ex} {as : Exs} {r : RV} {d : PyData} {ds : List PyData} (ha : ev c env a = some r) (ho : ownD a r = some d) (hs : evs c env as = some ds) : evs c env (.cons a as) = some (d :: ds) := by rw [q_evs_cons, ha]; show (ownD a r).bind _ = _; rw [ho, hs]; rfl
theorem e_tup {es : Exs} {ds : List PyData} (h : evs c env es = some ds) (l : ds.length ≤ LIM) : ev c env (.tup es) = some (.fz (.tuple ds)) := by rw [q_ev_tup, h]; exact if_pos l
theorem e_lst {es : Exs} {ds : List PyData} (h : evs c env es = some ds) (l : ds.length ≤ LIM) : ev c env (.lst es) = some (.ol ds) := by rw [q_ev_lst, h]; exact if_pos l
theorem eb_nil : evb c env .nil = some ([], false) := q_evb_nil _ _
theorem eb_cons {a : Ex} {as : Exs} {r : RV} {d : PyData} {ds : List PyData} {p q : Bool} (ha : ev c env a = some r) (hd : r.d = d) (hs : evb c env as = some (ds, p)) (hq : ((isVar a && r.isOwn) || p) = q) : evb c env (.cons a as) = some (d :: ds, q) := by rw [q_evb_cons, ha, hs, ← hd, ← hq]; rfl
theorem m_call {f : Nat} {es : Exs} {ds : List PyData} {M : Option β} {φ : β → RV} (h : evb c env es = some (ds, false)) (k : Sim (c.call f ds) M φ) : Sim (ev c env (.call f es)) M φ := fun v e => by
  rw [q_ev_call, h]
  show callD (c.call f ds) false = _
  rw [k v e]
  rfl
theorem m_callS {f : Nat} {es : Exs} {ds : List PyData} {M : Option β} {φ : β → PyData} (h : evb c env es = some (ds, true)) (k : Sim (c.call f ds) M (fz φ)) (hs : ∀ v, flatD (φ v) = true) : Sim (ev c env (.call f es)) M (fz φ) := fun v e => by
  rw [q_ev_call, h]
  show callD (c.call f ds) true = _
  rw [k v e]
  show (if flatD (φ v) = true then _ else _) = _
  rw [if_pos (hs v)]
theorem er_1 {a : Ex} {r : RV} (ha : ev c env a = some r) : evr c env (.cons a .nil) = some [r] := by rw [q_evr_cons, ha, q_evr_nil]; rfl
theorem er_2 {a b : Ex} {r s : RV} (ha : ev c env a = some r) (hb : ev c env b = some s) : evr c env (.cons a (.cons b .nil)) = some [r, s] := by rw [q_evr_cons, ha, q_evr_cons, hb, q_evr_nil]; rfl
theorem biLen {r : RV} {ds : List PyData} (h : r.seq = some ds) : biD .len [r] = some (.fz (.int ds.length)) := by
  have : ∀ r : RV, (∀ z, r ≠ .fz (.str z)) → biD .len [r] = r.seq.map fun ds => .fz (.int ds.length) := fun r hr => by
    cases r with
    | fz d => cases d <;> first | rfl | exact absurd rfl (hr _)
    | ol _ => rfl
    | od _ => rfl
    | on _ => rfl
    | xr _ => rfl
  rw [this r (by rintro z rfl; cases h), h]
  rfl
theorem e_len {e : α → PyData} {a : Ex} {x : List α} {r : RV} (ha : ev c env a = some r) (hs : r.seq = some (x.map e)) : ev c env (.bi .len (.cons a .nil)) = some (.fz (.int (x.length : Nat))) := by
  rw [q_ev_bi, er_1 ha]
  show biD .len [r] = _
  rw [biLen hs, List.length_map]
theorem e_lenN {a : Ex} {ds : List PyData} {r : RV} {n : Int} (ha : ev c env a = some r) (hs : r.seq = some ds) (hn : (ds.length : Int) = n) : ev c env (.bi .len (.cons a .nil)) = some (.fz (.int n)) := by
  rw [q_ev_bi, er_1 ha]
  show biD .len [r] = _
  rw [biLen hs, hn]
theorem e_lenZ {a : Ex} {x : List Int} (ha : ev c env a = some (.fz (scrD x))) : ev c env (.bi .len (.cons a .nil)) = some (.fz (.int (x.length : Nat))) := e_len (e := PyData.int) ha (scr_seq x)
theorem m_lenS {a : Ex} {x : Str} (ha : ev c env a = some (.fz (.str x))) : Sim (ev c env (.bi .len (.cons a .nil))) (if x.length ≤ LIM then some (x.length : Int) else none) (fz PyData.int) := fun v h => by
  split at h
  · cases h
    rw [q_ev_bi, er_1 ha]
    exact if_pos (by assumption)
  · cases h
theorem e_sumS {a : Ex} {x : List Int} {r : RV} (ha : ev c env a = some r) (hs : r.seq = some (x.map PyData.int)) : ev c env (.bi .sum (.cons a .nil)) = some (.fz (.int x.sum)) := by
  rw [q_ev_bi, er_1 ha]
  show (r.seq.bind intsOf).map _ = _
  rw [hs]
  show (intsOf (x.map PyData.int)).map _ = _
  rw [ints_map]
  rfl
theorem lst_seq {r : RV} {ds : List PyData} (h : r.lst = some ds) : r.seq = some ds := by
  unfold RV.lst at h
  split at h <;> cases h <;> rfl
theorem e_sum {a : Ex} {x : List Int} {r : RV} (ha : ev c env a = some r) (hs : r.lst = some (x.map PyData.int)) : ev c env (.bi .sum (.cons a .nil)) = some (.fz (.int x.sum)) := e_sumS ha (lst_seq hs)
theorem e_sumU {a : Ex} {x : List Int} (ha : ev c env a = some (.fz (.tuple (x.map PyData.int)))) : ev c env (.bi .sum (.cons a .nil)) = some (.fz (.int x.sum)) := e_sumS ha rfl
theorem e_anyI {a : Ex} {x : List Int} {r : RV} (ha : ev c env a = some r) (hs : r.seq = some (x.map PyData.int)) : ev c env (.bi .any (.cons a .nil)) = some (.fz (.bool (x.any fun i => i != 0))) := by
  rw [q_ev_bi, er_1 ha]
  have : (match r.lst.bind boolsOf with
    | some ns => some (RV.fz (.bool (ns.any id)))
    | none => (r.seq.bind intsOf).map fun ns => RV.fz (.bool (ns.any fun i => i != 0))) = some (.fz (.bool (x.any fun i => i != 0))) := by
    rw [hs]
    have e2 : (intsOf (x.map PyData.int)) = some x := ints_map x
    cases x with
    | nil =>
      have : r.lst = none ∨ r.lst = some [] := by
        unfold RV.seq at hs
        split at hs <;> cases hs <;> first | exact .inl rfl | exact .inr rfl
      rcases this with e | e <;> rw [e] <;> rfl
    | cons i x =>
      have : r.lst.bind boolsOf = none := by
        cases e : r.lst with
        | none => rfl
        | some ds =>
          have := lst_seq e
          rw [hs] at this
          cases this
          rfl
      rw [this]
      show (Option.bind (some _) intsOf).map _ = _
      rw [Option.bind_some, e2]
      rfl
  exact this
theorem e_any {a : Ex} {x : List Bool} {r : RV} (ha : ev c env a = some r) (hs : r.lst = some (x.map PyData.bool)) : ev c env (.bi .any (.cons a .nil)) = some (.fz (.bool (x.any id))) := by
  rw [q_ev_bi, er_1 ha]
  have : (match r.lst.bind boolsOf with
    | some ns => some (RV.fz (.bool (ns.any id)))
    | none => (r.seq.bind intsOf).map fun ns => RV.fz (.bool (ns.any fun i => i != 0))) = some (.fz (.bool (x.any id))) := by
    rw [hs, Option.bind_some, bools_map]
  exact this
theorem e_all {a : Ex} {x : List Bool} {r : RV} (ha : ev c env a = some r) (hs : r.lst = some (x.map PyData.bool)) : ev c env (.bi .all (.cons a .nil)) = some (.fz (.bool (x.all id))) := by
  rw [q_ev_bi, er_1 ha]
  show (r.lst.bind boolsOf).map _ = _
  rw [hs]
  show (boolsOf (x.map PyData.bool)).map _ = _
  rw [bools_map]
  rfl
theorem e_min2 {a b : Ex} {x y : Int} (ha : ev c env a = some (.fz (.int x))) (hb : ev c env b = some (.fz (.int y))) : ev c env (.bi .min2 (.cons a (.cons b .nil))) = some (.fz (.int (min x y))) := by rw [q_ev_bi, er_2 ha hb]; exact z_min_2 x y
theorem e_max2 {a b : Ex} {x y : Int} (ha : ev c env a = some (.fz (.int x))) (hb : ev c env b = some (.fz (.int y))) : ev c env (.bi .max2 (.cons a (.cons b .nil))) = some (.fz (.int (max x y))) := by rw [q_ev_bi, er_2 ha hb]; exact z_max_2 x y
theorem m_minL {a : Ex} {x : List Int} {r : RV} (ha : ev c env a = some r) (hs : r.lst = some (x.map PyData.int)) : Sim (ev c env (.bi .minL (.cons a .nil))) (minI x) (fz PyData.int) := fun v h => by
  rw [q_ev_bi, er_1 ha]
  show ((r.lst.bind intsOf).bind minI).map _ = _
  rw [hs]
  show ((intsOf (x.map PyData.int)).bind minI).map _ = _
  rw [ints_map]
  show (minI x).map _ = _
  rw [h]
  rfl
theorem m_maxL {a : Ex} {x : List Int} {r : RV} (ha : ev c env a = some r) (hs : r.lst = some (x.map PyData.int)) : Sim (ev c env (.bi .maxL (.cons a .nil))) (maxI x) (fz PyData.int) := fun v h => by
  rw [q_ev_bi, er_1 ha]
  show ((r.lst.bind intsOf).bind maxI).map _ = _
  rw [hs]
  show ((intsOf (x.map PyData.int)).bind maxI).map _ = _
  rw [ints_map]
  show (maxI x).map _ = _
  rw [h]
  rfl
theorem e_intI {a : Ex} {x : Int} (ha : ev c env a = some (.fz (.int x))) : ev c env (.bi .int (.cons a .nil)) = some (.fz (.int x)) := by rw [q_ev_bi, er_1 ha]; rfl
theorem e_intB {a : Ex} {x : Bool} (ha : ev c env a = some (.fz (.bool x))) : ev c env (.bi .int (.cons a .nil)) = some (.fz (.int (if x = true then 1 else 0))) := by rw [q_ev_bi, er_1 ha]; rfl
theorem e_tupO {e : α → PyData} {a : Ex} {x : List α} {r : RV} (ha : ev c env a = some r) (hs : r.seq = some (x.map e)) : ev c env (.bi .tup (.cons a .nil)) = some (.fz (.tuple (x.map e))) := by
  rw [q_ev_bi, er_1 ha]
  show (r.seq).map _ = _
  rw [hs]
  rfl
theorem e_lisO {e : α → PyData} {a : Ex} {x : List α} {r : RV} (ha : ev c env a = some r) (hs : r.seq = some (x.map e)) : ev c env (.bi .list (.cons a .nil)) = some (.ol (x.map e)) := by
  rw [q_ev_bi, er_1 ha]
  show (r.seq).map _ = _
  rw [hs]
  rfl
theorem e_isI {t : Ty} {a : Ex} {r : RV} {b : Bool} (ha : ev c env a = some r) (hn : notScr r.d = true) (hb : isD t r.d = b) : ev c env (.bi (.isI t) (.cons a .nil)) = some (.fz (.bool b)) := by
  rw [q_ev_bi, er_1 ha]
  show (if notScr r.d then _ else _) = _
  rw [if_pos hn, hb]
theorem pairs_map (x : List (Int × Int)) : pairsOf (x.map encP) = some x := by
  induction x with
  | nil => rfl
  | cons a r ih => show (pairsOf (r.map encP)).map _ = _; rw [ih]; rfl
theorem pairs_int : ∀ (x : List Int), x ≠ [] → pairsOf (x.map PyData.int) = none
  | [], h => absurd rfl h
  | _ :: _, _ => rfl
theorem e_sortI {a : Ex} {x : List Int} {r : RV} (ha : ev c env a = some r) (hs : r.lst = some (x.map PyData.int)) : ev c env (.bi .sorted (.cons a .nil)) = some (.ol ((isort leI x).map PyData.int)) := by
  rw [q_ev_bi, er_1 ha]
  show (r.lst.bind sortedD) = _
  rw [hs]
  show sortedD _ = _
  unfold sortedD
  cases x with
  | nil => rfl
  | cons y ys =>
    rw [pairs_int _ (by simp)]
    simp only [ints_map]
theorem e_sortP {a : Ex} {x : List (Int × Int)} {r : RV} (ha : ev c env a = some r) (hs : r.lst = some (x.map (encP2 PyData.int PyData.int))) : ev c env (.bi .sorted (.cons a .nil)) = some (.ol ((isort leP x).map (encP2 PyData.int PyData.int))) := by
  rw [q_ev_bi, er_1 ha]
  show (r.lst.bind sortedD) = _
  rw [hs]
  show sortedD (x.map encP) = _
  unfold sortedD
  rw [pairs_map]
  rfl
def leK1 {α : Type} (a b : Int × α) : Bool := decide (a.1 ≤ b.1)
def sortK {α : Type} (x : List (Int × α)) : Option (List (Int × α)) := if (x.map Prod.fst).Nodup then some (isort leK1 x) else none
theorem insL_map {f : α → γ} {le : α → α → Bool} {le' : γ → γ → Bool} (h : ∀ a b, le' (f a) (f b) = le a b) (p : α) : ∀ l : List α, insL le' (f p) (l.map f) = (insL le p l).map f
  | [] => rfl
  | q :: r => by
    show (if le' (f p) (f q) then _ else _) = _
    rw [h]
    unfold insL
    by_cases c : le p q = true
    · rw [if_pos c, if_pos c]; rfl
    · rw [if_neg c, if_neg c, List.map_cons, ← insL_map h p r]
      cases List.map f r <;> rfl
theorem isort_map {f : α → γ} {le : α → α → Bool} {le' : γ → γ → Bool} (h : ∀ a b, le' (f a) (f b) = le a b) : ∀ l : List α, isort le' (l.map f) = (isort le l).map f
  | [] => rfl
  | p :: r => by
    show insL le' (f p) (isort le' (r.map f)) = _
    rw [isort_map h r, insL_map h]
    rfl
theorem keys_map {f : β → PyData} (x : List (Int × β)) : keysOf (x.map (encP2 PyData.int f)) = some (x.map fun p => (p.1, f p.2)) := by
  induction x with
  | nil => rfl
  | cons a r ih => show (keysOf (r.map (encP2 PyData.int f))).map _ = _; rw [ih]; rfl
theorem pairs_no {f : β → PyData} (hf : ∀ b, ∀ j, f b = PyData.int j → False) : ∀ (x : List (Int × β)), x ≠ [] → pairsOf (x.map (encP2 PyData.int f)) = none
  | [], h => absurd rfl h
  | a :: r, _ => by
    show pairsOf (.tuple [.int a.1, f a.2] :: _) = none
    unfold pairsOf
    split
    · rename_i e; cases e
    · rename_i i j r' e
      injection e with e1 e2
      injection e1 with e1
      injection e1 with e3 e4
      injection e4 with e5 e6
      exact (hf _ _ e5).elim
    · rfl
theorem m_sortK {f : β → PyData} {a : Ex} {x : List (Int × β)} {r : RV} (ha : ev c env a = some r) (hs : r.lst = some (x.map (encP2 PyData.int f))) (hf : ∀ b, ∀ j, f b = PyData.int j → False) : Sim (ev c env (.bi .sorted (.cons a .nil))) (sortK x) (ol (encP2 PyData.int f)) := fun v e => by
  unfold sortK at e
  split at e
  · rename_i nd
    cases e
    rw [q_ev_bi, er_1 ha]
    show (r.lst.bind sortedD) = _
    rw [hs]
    show sortedD (x.map (encP2 PyData.int f)) = _
    cases x with
    | nil => rfl
    | cons y ys =>
      unfold sortedD
      rw [pairs_no hf _ (by simp)]
      show (keysOf _).bind _ = _
      rw [keys_map]
      show (if _ then _ else _) = _
      rw [List.map_map]
      rw [if_pos (by have : Prod.fst ∘ (fun p : Int × β => (p.1, f p.2)) = Prod.fst := rfl; rw [this]; exact nd)]
      have e : (y :: ys).map (fun p => (p.1, f p.2)) = (y :: ys).map (fun p => (p.1, f p.2)) := rfl
      rw [isort_map (f := fun p : Int × β => (p.1, f p.2)) (le := leK1) (fun _ _ => rfl), List.map_map]
      rfl
  · cases e
theorem atI_map {e : α → PyData} {x : List α} {i : Int} {v : α} (h : atI x i = some v) : atI (x.map e) i = some (e v) := by
  unfold atI at h ⊢
  rw [List.length_map]
  cases q : ixN x.length i with
  | none => rw [q] at h; cases h
  | some j =>
    rw [q] at h
    have h : x[j]? = some v := h
    show (x.map e)[j]? = _
    rw [List.getElem?_map, h]
    rfl
theorem atI_mapL {e : α → PyData} {x : List (List α)} {i : Int} {v : List α} (h : atI x i = some v) : atI (x.map (List.map e)) i = some (v.map e) := by
  unfold atI at h ⊢
  rw [List.length_map]
  cases q : ixN x.length i with
  | none => rw [q] at h; cases h
  | some j =>
    rw [q] at h
    have h : x[j]? = some v := h
    show (x.map (List.map e))[j]? = _
    rw [List.getElem?_map, h]
    rfl
theorem idx_seq {r : RV} {ds : List PyData} {i : Int} {d : PyData} (hs : r.seq = some ds) (h : atI ds i = some d) : idxD r (.fz (.int i)) = some (.fz d) := by
  unfold idxD
  split
  · cases hs
  · rename_i e2
    cases e2
    rw [hs]
    show (atI ds i).map _ = _
    rw [h]
    rfl
  · rename_i h1 h2; exact absurd rfl (h1 i)
theorem m_idx {e : α → PyData} {a b : Ex} {x : List α} {i : Int} {r : RV} (ha : ev c env a = some r) (hb : ev c env b = some (.fz (.int i))) (hs : r.seq = some (x.map e)) : Sim (ev c env (.idx a b)) (atI x i) (fz e) := fun v h => by
  rw [q_ev_idx, ha, hb]
  exact idx_seq hs (atI_map h)
theorem m_idxS {a b : Ex} {x : Str} {i : Int} (ha : ev c env a = some (.fz (.str x))) (hb : ev c env b = some (.fz (.int i))) : Sim (ev c env (.idx a b)) (if x.length ≤ LIM then (atI x.cps.toList i).map (fun k => (⟨#[k]⟩ : Str)) else none) (fz PyData.str) := fun v h => by
  split at h
  · rw [q_ev_idx, ha, hb]
    show (if x.length ≤ LIM then _ else _) = _
    rw [if_pos (by assumption)]
    cases q : atI x.cps.toList i with
    | none => rw [q] at h; cases h
    | some k => rw [q] at h; cases h; rfl
  · cases h
theorem e_idxP {a b : Ex} {i : Int} {r : RV} {ds : List PyData} {d : PyData} (ha : ev c env a = some r) (hb : ev c env b = some (.fz (.int i))) (hs : r.seq = some ds) (h : atI ds i = some d) : ev c env (.idx a b) = some (.fz d) := by
  rw [q_ev_idx, ha, hb]
  exact idx_seq hs h
theorem o_emp : evo c env .emp = some none := q_evo_emp _ _
theorem o_one {a : Ex} {i : Int} (ha : ev c env a = some (.fz (.int i))) : evo c env (.one a) = some (some i) := by rw [q_evo_one, ha]; rfl
theorem cut_map {e : α → PyData} (x : List α) (lo hi : Option Int) : cutD (x.map e) lo hi = (cutD x lo hi).map e := by
  unfold cutD
  simp only [List.length_map, List.map_take, List.map_drop]
theorem e_slcU {e : α → PyData} {a l h : Ex} {x : List α} {lo hi : Option Int} (ha : ev c env a = some (.fz (.tuple (x.map e)))) (hl : evo c env l = some lo) (hh : evo c env h = some hi) : ev c env (.slc a l h) = some (.fz (.tuple ((cutD x lo hi).map e))) := by
  rw [q_ev_slc, ha, hl, hh, ← cut_map]
  rfl
theorem e_slcL {e : α → PyData} {a l h : Ex} {x : List α} {lo hi : Option Int} {r : RV} (ha : ev c env a = some r) (hl : evo c env l = some lo) (hh : evo c env h = some hi) (hs : r.lst = some (x.map e)) : ev c env (.slc a l h) = some (.ol ((cutD x lo hi).map e)) := by
  rw [q_ev_slc, ha, hl, hh, ← cut_map]
  show slcD r lo hi = _
  unfold RV.lst at hs
  split at hs <;> cases hs <;> rfl
theorem e_slcP {a l h : Ex} {r : RV} {lo hi : Option Int} {d : PyData} (ha : ev c env a = some r) (hl : evo c env l = some lo) (hh : evo c env h = some hi) (hs : slcD r lo hi = some (.fz d)) : ev c env (.slc a l h) = some (.fz d) := by
  rw [q_ev_slc, ha, hl, hh]
  exact hs
theorem m_slcS {a l h : Ex} {x : Str} {lo hi : Option Int} (ha : ev c env a = some (.fz (.str x))) (hl : evo c env l = some lo) (hh : evo c env h = some hi) : Sim (ev c env (.slc a l h)) (if x.length ≤ LIM then some (cutS x lo hi) else none) (fz PyData.str) := fun v k => by
  split at k
  · cases k
    rw [q_ev_slc, ha, hl, hh]
    exact if_pos (by assumption)
  · cases k
theorem m_joinS {a b : Ex} {x : Str} {ys : List Str} {r : RV} (ha : ev c env a = some (.fz (.str x))) (hb : ev c env b = some r) (hs : r.seq = some (ys.map PyData.str)) : Sim (ev c env (.mt .join a (.cons b .nil))) (if (ys.map (·.length)).sum + ys.length * x.length ≤ 16777216 then some (Txt.join x ys) else none) (fz PyData.str) := fun v h => by
  split at h
  · cases h
    rw [q_ev_mt, ha, er_1 hb]
    show joinD (.fz (.str x)) r = _
    unfold joinD
    show (r.seq.bind strsOf).bind _ = _
    rw [hs]
    show (strsOf (ys.map PyData.str)).bind _ = _
    rw [strs_map]
    exact if_pos (by assumption)
  · cases h
theorem m_strI {a : Ex} {x : Int} (ha : ev c env a = some (.fz (.int x))) : Sim (ev c env (.bi .str (.cons a .nil))) (if x.natAbs.log2 < 1920 then some ((toString x : String) : Str) else none) (fz PyData.str) := fun v h => by
  split at h
  · cases h
    rw [q_ev_bi, er_1 ha]
    exact if_pos (by assumption)
  · cases h
theorem e_eqS {a b : Ex} {x y : Str} (hx : PyData.strOk x = true) (hy : PyData.strOk y = true) (ha : ev c env a = some (.fz (.str x))) (hb : ev c env b = some (.fz (.str y))) : ev c env (.cmp .eq a b) = some (.fz (.bool (decide (x = y)))) := by
  rw [q_ev_cmp, ha, hb]
  have : ∀ z : Str, PyData.strOk z = true → SeqAt.shaped (.str z) = true := fun z h => shp_of (by rw [PyData.canLay0]; exact h) (by simp [PyData.depth])
  show (if SeqAt.shaped (.str x) && SeqAt.shaped (.str y) then some (PyData.eqv (.str x) (.str y)) else none).map _ = _
  rw [this x hx, this y hy, PyData.eqv]
  by_cases h : x = y <;> simp [h]
theorem i_ex {e : α → PyData} {a : Ex} {x : List α} {r : RV} (ha : ev c env a = some r) (hs : itemsOf r = some (x.map e)) : Sim (evi c env (.ex a)) (some x) (List.map e) := fun v h => by cases h; rw [q_evi_ex, ha]; exact hs
theorem i_r1 {a : Ex} {x : Int} (ha : ev c env a = some (.fz (.int x))) : Sim (evi c env (.r1 a)) (rng1 x) (List.map PyData.int) := fun v h => by
  unfold rng1 at h
  split at h
  · cases h
    rw [q_evi_r1, ha]
    show (if _ then _ else _) = _
    rw [if_pos (by assumption)]
    unfold rngD
    rw [List.map_map]
    congr 1
    refine List.map_congr_left fun i _ => ?_
    show PyData.int (0 + _) = PyData.int _
    rw [Int.zero_add]
  · cases h
theorem i_r2 {a b : Ex} {x y : Int} (ha : ev c env a = some (.fz (.int x))) (hb : ev c env b = some (.fz (.int y))) : Sim (evi c env (.r2 a b)) (rng2 x y) (List.map PyData.int) := fun v h => by
  unfold rng2 at h
  split at h
  · cases h
    rw [q_evi_r2, ha, hb]
    show (if _ then _ else _) = _
    rw [if_pos (by assumption)]
    unfold rngD
    rw [List.map_map]
    rfl
  · cases h
theorem i_r3 {a b d : Ex} {x y z : Int} (ha : ev c env a = some (.fz (.int x))) (hb : ev c env b = some (.fz (.int y))) (hd : ev c env d = some (.fz (.int z))) : Sim (evi c env (.r3 a b d)) (rng3 x y z) (List.map PyData.int) := fun v h => by
  unfold rng3 at h
  split at h
  · cases h
    rw [q_evi_r3, ha, hb, hd]
    show (if _ then _ else _) = _
    rw [if_pos (by assumption)]
    unfold rngC
    rw [List.map_map]
    rfl
  · cases h
theorem zip_enc {e : α → PyData} {f : β → PyData} : ∀ (x : List α) (y : List β), zipD (x.map e) (y.map f) = (List.zip x y).map (encP2 e f)
  | [], _ => rfl
  | _ :: _, [] => rfl
  | a :: x, b :: y => by
    show _ :: zipD (x.map e) (y.map f) = _
    rw [zip_enc x y]
    rfl
theorem i_zip {e : α → PyData} {f : β → PyData} {a b : Ex} {x : List α} {y : List β} {r s : RV} (ha : ev c env a = some r) (hb : ev c env b = some s) (hr : r.seq = some (x.map e)) (hs : s.seq = some (y.map f)) : Sim (evi c env (.zip a b)) (some (List.zip x y)) (List.map (encP2 e f)) := fun v h => by
  cases h
  rw [q_evi_zip, ha, hb]
  show zipR r s = _
  unfold zipR
  rw [hr]
  show (s.seq).bind _ = _
  rw [hs]
  show some (zipD _ _) = _
  rw [zip_enc]
theorem en_enc {e : α → PyData} : ∀ (i : Nat) (x : List α), enD i (x.map e) = (enI i x).map (encP2 PyData.int e)
  | _, [] => rfl
  | i, a :: x => by
    show _ :: enD (i + 1) (x.map e) = _
    rw [en_enc (i + 1) x]
    rfl
theorem i_en {e : α → PyData} {a : Ex} {x : List α} {r : RV} (ha : ev c env a = some r) (hs : itemsOf r = some (x.map e)) : Sim (evi c env (.en a)) (some (enI 0 x)) (List.map (encP2 PyData.int e)) := fun v h => by
  cases h
  rw [q_evi_en, ha]
  show (itemsOf r).map _ = _
  rw [hs]
  show some (enD 0 _) = _
  rw [en_enc]
theorem i_rv {e : α → PyData} {a : Ex} {x : List α} {r : RV} (ha : ev c env a = some r) (hs : r.seq = some (x.map e)) : Sim (evi c env (.rv a)) (some x.reverse) (List.map e) := fun v h => by
  cases h
  rw [q_evi_rv, ha]
  show (r.seq).map _ = _
  rw [hs]
  show some (List.reverse _) = _
  rw [List.map_reverse]
/-- the signs of a text -/
def signsOf (z : Str) : List Str := z.cps.toList.map fun k => ⟨#[k]⟩
theorem it_str (z : Str) : itemsOf (.fz (.str z)) = some ((signsOf z).map PyData.str) := by
  unfold signsOf
  rw [List.map_map]
  rfl
def bo (c : Cl) (env : Ev) (e : Ex) : Bool := isVar e && ((ev c env e).map RV.isOwn).getD true
theorem bo_n {e : Ex} (h : isVar e = false) : bo c env e = false := by unfold bo; rw [h]; rfl
theorem bo_v {e : Ex} {d : PyData} (h : ev c env e = some (.fz d)) : bo c env e = false := by unfold bo; rw [h]; cases isVar e <;> rfl
theorem b_ex {a : Ex} (h : bo c env a = false) : borI c env (.ex a) = false := h
theorem b_en {a : Ex} (h : bo c env a = false) : borI c env (.en a) = false := h
theorem b_rv {a : Ex} (h : bo c env a = false) : borI c env (.rv a) = false := h
theorem b_zip {a b : Ex} (h : bo c env a = false) (g : bo c env b = false) : borI c env (.zip a b) = false := by
  show (bo c env a || bo c env b) = false
  rw [h, g]
  rfl
theorem scr_items (x : List Int) : itemsOf (.fz (scrD x)) = some (x.map PyData.int) := rfl
theorem m_dsx {kvs : List (Str × Str)} {k : Ex} {x : Str} (h : ev c env k = some (.fz (.str x))) : Sim (ev c env (.dsx kvs k)) (strLook kvs x) (fz PyData.str) := fun v e => by
  rw [q_ev_dsx, h]
  show (strLook kvs x).map _ = _
  rw [e]
  rfl
theorem sim_bx {e' : Ex} {M : Option β} {K : β → Option δ} {ψ : δ → RV} (e : Ex) (φ : β → RV) (h : Sim (ev c env e) M φ) (k : ∀ v, ev c env e = some (φ v) → Sim (ev c env e') (K v) ψ) : Sim (ev c env e') (M.bind K) ψ := sim_b h k
theorem sim_bi {e' : Ex} {M : Option (List β)} {K : List β → Option δ} {ψ : δ → RV} (e : Mn.Itr) (φ : List β → List PyData) (h : Sim (evi c env e) M φ) (k : ∀ v, evi c env e = some (φ v) → Sim (ev c env e') (K v) ψ) : Sim (ev c env e') (M.bind K) ψ := sim_b h k
theorem comp_map {e : α → PyData} {f : β → PyData} {F : α → Option β} {g : PyData → Option (Option PyData)} (h : ∀ x y, F x = some y → g (e x) = some (some (f y))) : ∀ (x : List α) (y : List β), mapO F x = some y → compL g (x.map e) = some (y.map f)
  | [], y, q => by cases q; rfl
  | a :: x, y, q => by
    unfold mapO at q
    obtain ⟨b, h1, q⟩ := bind_of q
    obtain ⟨r, h2, q⟩ := bind_of q
    cases q
    show (g (e a)).bind _ = _
    rw [h a b h1]
    show (compL g (x.map e)).bind _ = _
    rw [comp_map h x r h2]
    rfl
theorem comp_fil {e : α → PyData} {f : β → PyData} {F : α → Option (Option β)} {g : PyData → Option (Option PyData)} (h : ∀ x y, F x = some y → g (e x) = some (y.map f)) : ∀ (x : List α) (y : List β), filO F x = some y → compL g (x.map e) = some (y.map f)
  | [], y, q => by cases q; rfl
  | a :: x, y, q => by
    unfold filO at q
    obtain ⟨b, h1, q⟩ := bind_of q
    obtain ⟨r, h2, q⟩ := bind_of q
    cases q
    show (g (e a)).bind _ = _
    rw [h a b h1]
    show (compL g (x.map e)).bind _ = _
    rw [comp_fil h x r h2]
    cases b <;> rfl
theorem m_comp {e : α → PyData} {f : β → PyData} {b : Ex} {tg : Tg} {it : Mn.Itr} {own : List Nat} {x : List α} {F : α → Option β} {φ : β → RV} (hi : Sim (evi c env it) (some x) (List.map e))
    (hb : ∀ y, ∃ env', bindT tg (wipeE env own) (e y) = some env' ∧ Sim (ev c env' b) (F y) φ) (ho : ∀ v, ownD b (φ v) = some (f v)) : Sim (ev c env (.comp b tg it .emp own)) (mapG x F) (ol f) := fun v h => by
  unfold mapG at h
  split at h
  · rw [q_ev_comp, hi x rfl]
    show (compL (cmpB c (wipeE env own) b tg .emp) (x.map e)).bind _ = _
    rw [comp_map (f := f) (F := F) (fun y z hz => by
      obtain ⟨env', h1, h2⟩ := hb y
      unfold cmpB
      simp [h1, q_evt_emp, h2 z hz, ho]) x v h]
    show (if _ then _ else _) = _
    rw [if_pos (by rw [List.length_map]; assumption)]
  · cases h
def filB (t : Option Bool) (M : Option β) : Option (Option β) := t.bind fun k => if k = true then M.bind fun y => some (some y) else some none
theorem m_compT {e : α → PyData} {f : β → PyData} {b t : Ex} {tg : Tg} {it : Mn.Itr} {own : List Nat} {x : List α} {F : α → Option β} {T : α → Option Bool} {φ : β → RV} (hi : Sim (evi c env it) (some x) (List.map e))
    (hb : ∀ y, ∃ env', bindT tg (wipeE env own) (e y) = some env' ∧ Sim (ev c env' t) (T y) (fz PyData.bool) ∧ Sim (ev c env' b) (F y) φ) (ho : ∀ v, ownD b (φ v) = some (f v)) : Sim (ev c env (.comp b tg it (.one t) own)) (filG x fun y => filB (T y) (F y)) (ol f) := fun v h => by
  unfold filG at h
  split at h
  · rw [q_ev_comp, hi x rfl]
    show (compL (cmpB c (wipeE env own) b tg (.one t)) (x.map e)).bind _ = _
    rw [comp_fil (f := f) (F := fun y => filB (T y) (F y)) (fun y z hz => by
      obtain ⟨env', h1, h2, h3⟩ := hb y
      unfold cmpB
      obtain ⟨k, q1, q2⟩ := bind_of hz
      cases k with
      | false => cases q2; simp [h1, q_evt_one, h2 _ q1]
      | true =>
        obtain ⟨w, q3, q4⟩ := bind_of q2
        cases q4
        simp [h1, q_evt_one, h2 _ q1, h3 w q3, ho]) x v h]
    show (if _ then _ else _) = _
    rw [if_pos (by rw [List.length_map]; assumption)]
  · cases h
theorem own_v {a : Ex} {r : RV} {d : PyData} (h : r = .fz d) : ownD a r = some d := by subst h; exact own_fz _ _
theorem own_o {a : Ex} {r : RV} {d : PyData} (hv : isVar a = false) (h : r.d = d) : ownD a r = some d := by subst h; unfold ownD; rw [hv]; rfl
end
def runS (c : Cl) : List Sms → Ev → Option Out
  | [], env => some (.nx env)
  | b :: bs, env => (exSs c b env).bind fun o => thenO o (runS c bs)
section
variable {c : Cl} {env : Ev} {P : R → Out → Prop} {bs : List Sms} {r : Sms}
theorem run_cons (s : Sm) : runS c (.cons s r :: bs) env = (exS c s env).bind fun o => thenO o (runS c (r :: bs)) := by
  show (exSs c (.cons s r) env).bind _ = _
  rw [q_exSs_cons]
  cases exS c s env with
  | none => rfl
  | some o => cases o <;> rfl
theorem run_stop {o : Out} (ho : ∀ k : Ev → Option Out, thenO o k = some o) {s : Sm} (h : exS c s env = some o) : runS c (.cons s r :: bs) env = some o := by rw [run_cons, h]; exact ho _
theorem sms_bx {M : Option β} {K : β → Option R} (e : Ex) (φ : β → RV) (h : Sim (ev c env e) M φ) (k : ∀ v, ev c env e = some (φ v) → SimS (runS c bs env) (K v) P) : SimS (runS c bs env) (M.bind K) P := sms_b h k
theorem sms_bi {M : Option (List β)} {K : List β → Option R} (e : Mn.Itr) (φ : List β → List PyData) (h : Sim (evi c env e) M φ) (k : ∀ v, evi c env e = some (φ v) → SimS (runS c bs env) (K v) P) : SimS (runS c bs env) (M.bind K) P := sms_b h k
theorem s_nil {M : Option R} (h : SimS (runS c bs env) M P) : SimS (runS c (.nil :: bs) env) M P := fun v e => by
  obtain ⟨o, h1, h2⟩ := h v e
  exact ⟨o, by show (exSs c .nil env).bind _ = _; rw [q_exSs_nil]; exact h1, h2⟩
theorem s_end {v : R} (h : P v (.nx env)) : SimS (runS c [] env) (some v) P := fun w e => by cases e; exact ⟨_, rfl, h⟩
theorem s_frz {M : Option R} {i : Nat} {x : RV} (hi : (env[i]?).join = some x) (h : SimS (runS c (r :: bs) (env.set i (some (.fz x.d)))) M P) : SimS (runS c (.frz i r :: bs) env) M P := fun v e => by
  obtain ⟨o, h1, h2⟩ := h v e
  exact ⟨o, by show (exSs c (.frz i r) env).bind _ = _; rw [q_exSs_frz, hi]; exact h1, h2⟩
theorem s_del {M : Option R} {i : Nat} (h : SimS (runS c (r :: bs) (env.set i none)) M P) : SimS (runS c (.del i r :: bs) env) M P := fun v e => by
  obtain ⟨o, h1, h2⟩ := h v e
  exact ⟨o, by show (exSs c (.del i r) env).bind _ = _; rw [q_exSs_del]; exact h1, h2⟩
theorem s_step {M : Option R} {s : Sm} {env' : Ev} (hs : exS c s env = some (.nx env')) (h : SimS (runS c (r :: bs) env') M P) : SimS (runS c (.cons s r :: bs) env) M P := fun v e => by
  obtain ⟨o, h1, h2⟩ := h v e
  exact ⟨o, by rw [run_cons, hs]; exact h1, h2⟩
theorem s_nop {M : Option R} (h : SimS (runS c (r :: bs) env) M P) : SimS (runS c (.cons .nop r :: bs) env) M P := s_step (q_exS_nop _ _) h
theorem s_asg {M : Option β} {K : β → Option R} {φ : β → RV} {i : Nat} {e : Ex} (he : Sim (ev c env e) M φ) (hv : ∀ v, (isVar e && (φ v).isOwn) = false) (h : ∀ v, SimS (runS c (r :: bs) (env.set i (some (φ v)))) (K v) P) : SimS (runS c (.cons (.asg i e) r :: bs) env) (M.bind K) P := fun w q => by
  obtain ⟨v, q1, q2⟩ := bind_of q
  exact s_step (M := K v) (by rw [q_exS_asg, he v q1]; show (if _ then _ else _) = _; rw [hv]; rfl) (h v) w q2
theorem s_unp {M : Option R} {is : List Nat} {e : Ex} {x : RV} {d : PyData} {env' : Ev} (he : ev c env e = some x) (ho : ownD e x = some d) (hb : bindT (.tp is) env d = some env') (h : SimS (runS c (r :: bs) env') M P) : SimS (runS c (.cons (.unp is e) r :: bs) env) M P :=
  s_step (by rw [q_exS_unp, he]; show (ownD e x).bind _ = _; rw [ho]; show (bindT _ _ _).map _ = _; rw [hb]; rfl) h
def un2 : List β → Option (β × β)
  | [a, b] => some (a, b)
  | _ => none
def un3 : List β → Option (β × β × β)
  | [a, b, c] => some (a, b, c)
  | _ => none
theorem s_un2 {f : β → PyData} {xs : List β} {K : β × β → Option R} {i j : Nat} {e : Ex} {y : RV} {d : PyData} (he : ev c env e = some y) (ho : ownD e y = some d) (hb : bindT (.tp [i, j]) env d = if (xs.map f).length = 2 then some (setAll env [i, j] (xs.map f)) else none)
    (h : ∀ v : β × β, SimS (runS c (r :: bs) ((env.set i (some (.fz (f v.1)))).set j (some (.fz (f v.2))))) (K v) P) : SimS (runS c (.cons (.unp [i, j] e) r :: bs) env) ((un2 xs).bind K) P := fun w q => by
  obtain ⟨v, q1, q2⟩ := bind_of q
  unfold un2 at q1
  split at q1
  · cases q1
    exact s_unp (M := K _) he ho hb (h _) w q2
  · cases q1
theorem s_un3 {f : β → PyData} {xs : List β} {K : β × β × β → Option R} {i j k : Nat} {e : Ex} {y : RV} {d : PyData} (he : ev c env e = some y) (ho : ownD e y = some d) (hb : bindT (.tp [i, j, k]) env d = if (xs.map f).length = 3 then some (setAll env [i, j, k] (xs.map f)) else none)
    (h : ∀ v : β × β × β, SimS (runS c (r :: bs) (((env.set i (some (.fz (f v.1)))).set j (some (.fz (f v.2.1)))).set k (some (.fz (f v.2.2))))) (K v) P) : SimS (runS c (.cons (.unp [i, j, k] e) r :: bs) env) ((un3 xs).bind K) P := fun w q => by
  obtain ⟨v, q1, q2⟩ := bind_of q
  unfold un3 at q1
  split at q1
  · cases q1
    exact s_unp (M := K _) he ho hb (h _) w q2
  · cases q1
theorem s_app {f : β → PyData} {x : β} {xs : List β} {K : List β → Option R} {i : Nat} {e : Ex} {y : RV} (hi : (env[i]?).join = some (.ol (xs.map f))) (he : ev c env e = some y) (ho : ownD e y = some (f x)) (h : ∀ v : List β, SimS (runS c (r :: bs) (env.set i (some (.ol (v.map f))))) (K v) P) :
    SimS (runS c (.cons (.app i e) r :: bs) env) ((appG xs x).bind K) P := fun w q => by
  obtain ⟨v, q1, q2⟩ := bind_of q
  unfold appG at q1
  split at q1
  · cases q1
    refine s_step (M := K _) ?_ (h _) w q2
    rw [q_exS_app, olAt_of hi, he]
    show (ownD e y).bind _ = _
    rw [ho]
    show (if _ then _ else _) = _
    rw [if_pos (by rw [List.length_map]; assumption), List.map_append]
    rfl
  · cases q1
theorem s_spoil {f : β → PyData} {xs : List β} {M : Unit → Option R} {i : Nat} {e : Ex} {y : RV} {d : PyData} (hi : (env[i]?).join = some (.ol (xs.map f))) (he : ev c env e = some y) (ho : ownD e y = some d) (h : SimS (runS c (r :: bs) (env.set i (some (.ol (xs.map f ++ [d]))))) (M ()) P) :
    SimS (runS c (.cons (.app i e) r :: bs) env) ((fullG xs).bind M) P := fun w q => by
  obtain ⟨v, q1, q2⟩ := bind_of q
  unfold fullG at q1
  split at q1
  · refine s_step (M := M ()) ?_ h w q2
    rw [q_exS_app, olAt_of hi, he]
    show (ownD e y).bind _ = _
    rw [ho]
    show (if _ then _ else _) = _
    rw [if_pos (by rw [List.length_map]; assumption)]
  · cases q1
theorem s_ext {f : β → PyData} {xs ys : List β} {K : List β → Option R} {i : Nat} {e : Ex} {y : RV} (hi : (env[i]?).join = some (.ol (xs.map f))) (he : ev c env e = some y) (ho : y.seqT = some (ys.map f)) (h : ∀ v : List β, SimS (runS c (r :: bs) (env.set i (some (.ol (v.map f))))) (K v) P) :
    SimS (runS c (.cons (.ext i e) r :: bs) env) ((catG xs ys).bind K) P := fun w q => by
  obtain ⟨v, q1, q2⟩ := bind_of q
  unfold catG at q1
  split at q1
  · cases q1
    refine s_step (M := K _) ?_ (h _) w q2
    rw [q_exS_ext, olAt_of hi, he]
    show (y.seqT).bind _ = _
    rw [ho]
    show (if _ then _ else _) = _
    rw [if_pos (by rw [List.length_map, List.length_map]; assumption), List.map_append]
  · cases q1
theorem map_erase {f : β → PyData} : ∀ (xs : List β) (k : Nat), (xs.map f).eraseIdx k = (xs.eraseIdx k).map f
  | [], k => by simp
  | _ :: _, 0 => rfl
  | x :: xs, k + 1 => by simp [map_erase xs k]
theorem s_pop {f : β → PyData} {xs : List β} {k : Int} {K : List β × β → Option R} {i j : Nat} {e : Ex} (hj : i ≠ j) (hi : (env[i]?).join = some (.ol (xs.map f))) (he : ev c env e = some (.fz (.int k))) (h : ∀ v : List β × β, SimS (runS c (r :: bs) ((env.set i (some (.ol (v.1.map f)))).set j (some (.fz (f v.2))))) (K v) P) :
    SimS (runS c (.cons (.pop j i e) r :: bs) env) ((popG xs k).bind K) P := fun w q => by
  obtain ⟨v, q1, q2⟩ := bind_of q
  unfold popG at q1
  split at q1
  · obtain ⟨d, z1, z2⟩ := bind_of q1
    split at z2
    · cases z2
      refine s_step (M := K _) ?_ (h _) w q2
      rw [q_exS_pop, if_neg hj, olAt_of hi, he]
      show (if 0 ≤ k then ((xs.map f)[k.toNat]?).bind _ else _) = _
      rw [if_pos (by assumption), List.getElem?_map, z1]
      show (if _ then _ else _) = _
      rw [if_pos (by rw [List.length_map]; assumption), map_erase]
    · cases z2
  · cases q1
theorem s_sti {f : β → PyData} {xs : List β} {k : Int} {x : β} {K : List β → Option R} {i : Nat} {e g : Ex} {y : RV} (hi : (env[i]?).join = some (.ol (xs.map f))) (he : ev c env e = some y) (ho : ownD e y = some (f x)) (hk : ev c env g = some (.fz (.int k))) (h : ∀ v : List β, SimS (runS c (r :: bs) (env.set i (some (.ol (v.map f))))) (K v) P) :
    SimS (runS c (.cons (.sti i g e) r :: bs) env) ((setG xs k x).bind K) P := fun w q => by
  obtain ⟨v, q1, q2⟩ := bind_of q
  unfold setG at q1
  obtain ⟨j, z1, z2⟩ := bind_of q1
  cases z2
  refine s_step (M := K _) ?_ (h _) w q2
  rw [q_exS_sti, he]
  show (ownD e y).bind _ = _
  rw [ho]
  show (olAt env i).bind _ = _
  rw [olAt_of hi, hk]
  show (ixN (xs.map f).length k).bind _ = _
  rw [List.length_map, z1]
  show some (Out.nx (env.set i (some (.ol ((xs.map f).set j (f x)))))) = _
  rw [← List.map_set]
theorem s_clr {M : Option R} {i : Nat} {ds : List PyData} (hi : (env[i]?).join = some (.ol ds)) (h : SimS (runS c (r :: bs) (env.set i (some (.ol [])))) M P) : SimS (runS c (.cons (.clr i) r :: bs) env) M P :=
  s_step (by rw [q_exS_clr, olAt_of hi]; rfl) h
theorem s_drp {M : Option R} {e : Ex} {x : RV} (he : ev c env e = some x) (h : SimS (runS c (r :: bs) env) M P) : SimS (runS c (.cons (.drp e) r :: bs) env) M P := s_step (by rw [q_exS_drp, he]; rfl) h
theorem run_if (t : Ex) (a b : Sms) {k : Bool} (ht : ev c env t = some (.fz (.bool k))) : runS c (.cons (.ifs t a b) r :: bs) env = if k = true then runS c (a :: r :: bs) env else runS c (b :: r :: bs) env := by
  rw [run_cons, q_exS_ifs, ht]
  show (ifK c a b env k).bind _ = _
  cases k <;> rfl
theorem s_if {t : Ex} {a b : Sms} {k : Bool} {A B : Option R} (ht : ev c env t = some (.fz (.bool k))) (ha : SimS (runS c (a :: r :: bs) env) A P) (hb : SimS (runS c (b :: r :: bs) env) B P) :
    SimS (runS c (.cons (.ifs t a b) r :: bs) env) (if k = true then A else B) P := fun v e => by
  rw [run_if t a b ht]
  cases k with
  | true => exact ha v e
  | false => exact hb v e
/-- a part, then the rest -/
theorem s_cut {A : Option σ} {E : σ → Ev} {K : σ → Option R} {s : Sm} (ha : SimS (runS c [.cons s .nil] env) A (PNx E)) (h : ∀ v, SimS (runS c (r :: bs) (E v)) (K v) P) : SimS (runS c (.cons s r :: bs) env) (A.bind K) P := fun w q => by
  obtain ⟨v, q1, q2⟩ := bind_of q
  obtain ⟨o, h1, rfl⟩ := ha v q1
  have e : exS c s env = some (.nx (E v)) := by
    rw [run_cons] at h1
    obtain ⟨o, z1, z2⟩ := bind_of h1
    rw [z1]
    cases o with
    | nx e =>
      have z2 : (exSs c .nil e).bind (fun o => thenO o (runS c [])) = _ := z2
      rw [q_exSs_nil] at z2
      exact z2
    | rt _ => cases z2
    | bk _ => cases z2
    | ct _ => cases z2
  exact s_step e (h v) w q2
theorem s_ret {M : Option β} {φ : β → RV} {mk : β → R} {e : Ex} (he : Sim (ev c env e) M φ) (hP : ∀ v, P (mk v) (.rt (φ v))) : SimS (runS c (.cons (.ret e) r :: bs) env) (M.bind fun v => some (mk v)) P := fun w q => by
  obtain ⟨v, q1, q2⟩ := bind_of q
  cases q2
  exact ⟨_, run_stop (fun _ => rfl) (by rw [q_exS_ret, he v q1]; rfl), hP v⟩
theorem s_ret1 {M : Option R} {φ : R → RV} {e : Ex} (he : Sim (ev c env e) M φ) (hP : ∀ v, P v (.rt (φ v))) : SimS (runS c (.cons (.ret e) r :: bs) env) M P := fun w q =>
  ⟨_, run_stop (fun _ => rfl) (by rw [q_exS_ret, he w q]; rfl), hP w⟩
theorem s_retN {v : R} (hP : P v (.rt (.fz .none))) : SimS (runS c (.cons .retN r :: bs) env) (some v) P := fun w q => by
  cases q
  exact ⟨_, run_stop (fun _ => rfl) (q_exS_retN _ _), hP⟩
theorem s_cont {v : R} (hP : P v (.ct env)) : SimS (runS c (.cons .cont r :: bs) env) (some v) P := fun w q => by
  cases q
  exact ⟨_, run_stop (fun _ => rfl) (q_exS_cont _ _), hP⟩
theorem s_brk {v : R} (hP : P v (.bk env)) : SimS (runS c (.cons .brk r :: bs) env) (some v) P := fun w q => by
  cases q
  exact ⟨_, run_stop (fun _ => rfl) (q_exS_brk _ _), hP⟩
theorem s_nev : SimS (runS c (.cons .nev r :: bs) env) (none : Option R) P := fun w q => by cases q
theorem exSs_run (b : Sms) (env : Ev) : runS c [b] env = exSs c b env := by
  show (exSs c b env).bind _ = _
  cases exSs c b env with
  | none => rfl
  | some o => cases o <;> rfl
abbrev on {α : Type} (e : α → PyData) : List (List α) → RV := fun xs => .on (xs.map (List.map e))
theorem on_d {e : α → PyData} (xs : List (List α)) : (on e xs).d = .list (xs.map (encL e)) := by
  show PyData.list ((xs.map (List.map e)).map PyData.list) = _
  rw [List.map_map]
  rfl
theorem onAt_of {i : Nat} {dss : List (List PyData)} (h : (env[i]?).join = some (.on dss)) : onAt env i = some dss := by unfold onAt; rw [h]; rfl
theorem s_frzD {M : Option R} {i : Nat} {f : β → PyData} {xs : List (List β)} (hi : (env[i]?).join = some (on f xs)) (h : SimS (runS c (r :: bs) (env.set i (some (.fz (.list (xs.map (encL f))))))) M P) : SimS (runS c (.frz i r :: bs) env) M P :=
  s_frz hi (by rw [on_d]; exact h)
theorem comp_mapD {e : α → PyData} {f : β → PyData} {F : α → Option (List β)} {g : PyData → Option (List PyData)} (h : ∀ x y, F x = some y → g (e x) = some (y.map f)) : ∀ (x : List α) (y : List (List β)), mapO F x = some y → compD g (x.map e) = some (y.map (List.map f))
  | [], y, q => by cases q; rfl
  | a :: x, y, q => by
    unfold mapO at q
    obtain ⟨b, h1, q⟩ := bind_of q
    obtain ⟨r, h2, q⟩ := bind_of q
    cases q
    show (g (e a)).bind _ = _
    rw [h a b h1]
    show (compD g (x.map e)).bind _ = _
    rw [comp_mapD h x r h2]
    rfl
theorem s_asgD {e : α → PyData} {f : β → PyData} {b : Ex} {tg : Tg} {it : Mn.Itr} {own : List Nat} {x : List α} {F : α → Option (List β)} {K : List (List β) → Option R} {i : Nat} (hi : Sim (evi c env it) (some x) (List.map e))
    (hb : ∀ y, ∃ env', bindT tg (wipeE env own) (e y) = some env' ∧ Sim (ev c env' b) (F y) (ol f)) (hv : isVar b = false) (h : ∀ v : List (List β), SimS (runS c (r :: bs) (env.set i (some (on f v)))) (K v) P) :
    SimS (runS c (.cons (.asgD i b tg it own) r :: bs) env) ((mapG x F).bind K) P := fun w q => by
  obtain ⟨v, q1, q2⟩ := bind_of q
  unfold mapG at q1
  split at q1
  · refine s_step (M := K v) ?_ (h v) w q2
    rw [q_exS_asgD, hi x rfl]
    show (compD (dB c b tg env own) (x.map e)).bind _ = _
    rw [comp_mapD (f := f) (F := F) (fun y z hz => by
      obtain ⟨env', h1, h2⟩ := hb y
      unfold dB
      rw [h1]
      show (ev c env' b).bind _ = _
      rw [h2 z hz]
      show (if isVar b then none else asRow (.ol (z.map f))) = _
      rw [hv]
      rfl) x v q1]
    show (if _ then _ else _) = _
    rw [if_pos (by rw [List.length_map]; assumption)]
  · cases q1
theorem rows_map {f : β → PyData} {F : List β → Option (List β)} {g : List PyData → Option (List PyData)} (h : ∀ x y, F x = some y → g (x.map f) = some (y.map f)) : ∀ (x y : List (List β)), mapO F x = some y → rowsD g (x.map (List.map f)) = some (y.map (List.map f))
  | [], y, q => by cases q; rfl
  | a :: x, y, q => by
    unfold mapO at q
    obtain ⟨b, h1, q⟩ := bind_of q
    obtain ⟨r, h2, q⟩ := bind_of q
    cases q
    show (g (a.map f)).bind _ = _
    rw [h a b h1]
    show (rowsD g (x.map (List.map f))).bind _ = _
    rw [rows_map h x r h2]
    rfl
theorem s_forR {f : β → PyData} {xs : List (List β)} {F : List β → Option (List β)} {K : List (List β) → Option R} {j i : Nat} {b : Rbs} (hij : i ≠ j) (hi : (env[i]?).join = some (on f xs))
    (hb : ∀ y : List β, Sim (exR c j b ((env.set i none).set j (some (ol f y)))) (F y) (fun z => (env.set i none).set j (some (ol f z)))) (ho : ∀ z : List β, olAt ((env.set i none).set j (some (ol f z))) j = some (z.map f))
    (h : ∀ v : List (List β), SimS (runS c (r :: bs) ((env.set i (some (on f v))).set j none)) (K v) P) :
    SimS (runS c (.cons (.forR j i b) r :: bs) env) ((mapO F xs).bind K) P := fun w q => by
  obtain ⟨v, q1, q2⟩ := bind_of q
  refine s_step (M := K v) ?_ (h v) w q2
  rw [q_exS_forR, if_neg hij, onAt_of hi]
  show (rowsD _ (xs.map (List.map f))).bind _ = _
  rw [rows_map (f := f) (F := F) (fun y z hz => by
    rw [hb y z hz]
    exact ho z) xs v q1]
  rfl
theorem row_ok {b : Ex} {v : List β} {f : β → PyData} (hv : isVar b = false) : (if isVar b then none else asRow (ol f v)) = some (v.map f) := by rw [hv]; rfl
theorem s_asgL {f : β → PyData} {M : Option (List β)} {K : List (List β) → Option R} {i : Nat} {b : Ex} (hb : Sim (ev c env b) M (ol f)) (hv : isVar b = false) (h : ∀ v : List (List β), SimS (runS c (r :: bs) (env.set i (some (on f v)))) (K v) P) :
    SimS (runS c (.cons (.asgL i b) r :: bs) env) ((M.bind fun y => some [y]).bind K) P := fun w q => by
  obtain ⟨v, q1, q2⟩ := bind_of q
  obtain ⟨y, q3, q4⟩ := bind_of q1
  cases q4
  refine s_step (M := K [y]) ?_ (h [y]) w q2
  rw [q_exS_asgL, hb y q3]
  show (if isVar b then none else asRow (ol f y)).bind _ = _
  rw [row_ok hv]
  rfl
theorem s_appD {f : β → PyData} {M : Option (List β)} {xs : List (List β)} {K : List (List β) → Option R} {i : Nat} {b : Ex} (hi : (env[i]?).join = some (on f xs)) (hb : Sim (ev c env b) M (ol f)) (hv : isVar b = false) (h : ∀ v : List (List β), SimS (runS c (r :: bs) (env.set i (some (on f v)))) (K v) P) :
    SimS (runS c (.cons (.appD i b) r :: bs) env) ((M.bind fun y => appG xs y).bind K) P := fun w q => by
  obtain ⟨v, q1, q2⟩ := bind_of q
  obtain ⟨y, q3, q4⟩ := bind_of q1
  unfold appG at q4
  split at q4
  · cases q4
    refine s_step (M := K _) ?_ (h _) w q2
    rw [q_exS_appD, onAt_of hi]
    show ((ev c env b).bind _) = _
    rw [hb y q3]
    show (if isVar b then none else asRow (ol f y)).bind _ = _
    rw [row_ok hv]
    show (if _ then _ else _) = _
    rw [if_pos (by rw [List.length_map]; assumption)]
    show some (Out.nx (env.set i (some (.on (xs.map (List.map f) ++ [y.map f]))))) = some (Out.nx (env.set i (some (.on ((xs ++ [y]).map (List.map f))))))
    rw [List.map_append]
    rfl
  · cases q4
theorem s_retX {f : β → PyData} {M : Option (List (List β))} {k : Ex} {n : Int} {b : Ex} {P : List β → Out → Prop} (hb : Sim (ev c env b) M (on f)) (hv : isVar b = false) (hk : ev c env k = some (.fz (.int n))) (hP : ∀ v : List β, P v (.rt (ol f v))) :
    SimS (runS c (.cons (.retX b k) r :: bs) env) (M.bind fun y => atI y n) P := fun w q => by
  obtain ⟨y, q1, q2⟩ := bind_of q
  refine ⟨_, run_stop (fun _ => rfl) ?_, hP w⟩
  rw [q_exS_retX, hb y q1]
  show (if isVar b then none else asOn (on f y)).bind _ = _
  rw [hv]
  show ((ev c env k).bind asInt).bind _ = _
  rw [hk]
  show (atI (y.map (List.map f)) n).map _ = _
  rw [atI_mapL q2]
  rfl
theorem sim_rx {b : Rbs} {j : Nat} {M : Option β} {K : β → Option δ} {ψ : δ → Ev} (e : Ex) (φ : β → RV) (h : Sim (ev c env e) M φ) (k : ∀ v, ev c env e = some (φ v) → Sim (exR c j b env) (K v) ψ) : Sim (exR c j b env) (M.bind K) ψ := sim_b h k
theorem r_nil {j : Nat} {z : δ} {ψ : δ → Ev} (h : env = ψ z) : Sim (exR c j .nil env) (some z) ψ := fun v e => by cases e; rw [h]; rfl
theorem r_st {f : β → PyData} {xs : List β} {k : Int} {x : β} {M : List β → Option δ} {ψ : δ → Ev} {j : Nat} {e g : Ex} {b : Rbs} {y : RV} (hj : olAt env j = some (xs.map f)) (he : ev c env e = some y) (ho : ownD e y = some (f x)) (hk : ev c env g = some (.fz (.int k)))
    (h : ∀ v : List β, Sim (exR c j b (env.set j (some (ol f v)))) (M v) ψ) : Sim (exR c j (.st g e b) env) ((setG xs k x).bind M) ψ := fun w q => by
  obtain ⟨v, q1, q2⟩ := bind_of q
  unfold setG at q1
  obtain ⟨m, z1, z2⟩ := bind_of q1
  cases z2
  have hh := h _ w q2
  show (ev c env e).bind _ = _
  rw [he]
  show (ownD e y).bind _ = _
  rw [ho]
  show (olAt env j).bind _ = _
  rw [hj]
  show ((ev c env g).bind asInt).bind _ = _
  rw [hk]
  show (ixN (xs.map f).length k).bind _ = _
  rw [List.length_map, z1]
  show exR c j b (env.set j (some (.ol ((xs.map f).set m (f x))))) = _
  rw [← List.map_set]
  exact hh
theorem r_ifs {xs : List β} {k : Bool} {A : Option (List β)} {M : List β → Option δ} {ψ : δ → Ev} {j : Nat} {t : Ex} {a b : Rbs} (E : List β → Ev) (h0 : env = E xs) (ht : ev c env t = some (.fz (.bool k))) (ha : Sim (exR c j a env) A E) (h : ∀ v, Sim (exR c j b (E v)) (M v) ψ) :
    Sim (exR c j (.ifs t a b) env) ((if k = true then A else some xs).bind M) ψ := fun w q => by
  obtain ⟨v, q1, q2⟩ := bind_of q
  show ((ev c env t).bind asBool).bind _ = _
  rw [ht]
  cases k with
  | true =>
    show (exR c j a env).bind _ = _
    rw [ha v q1]
    exact h v w q2
  | false =>
    cases q1
    show exR c j b env = _
    rw [h0]
    exact h _ w q2
theorem i_exD {e : α → PyData} {i : Nat} {k : Ex} {xs : List (List α)} {n : Int} (hi : (env[i]?).join = some (on e xs)) (hk : ev c env k = some (.fz (.int n))) : Sim (evi c env (.exD i k)) (atI xs n) (List.map e) := fun v h => by
  rw [q_evi_exD, onAt_of hi]
  show ((ev c env k).bind asInt).bind _ = _
  rw [hk]
  exact atI_mapL h
theorem forL_fold {e : α → PyData} {E : σ → Ev} {F : α → σ → Option σ} {g : Ev → PyData → Option Out} (h : ∀ x s, SimS (g (E s) (e x)) (F x s) (PLn E)) : ∀ (xs : List α) (s s' : σ), foldO F xs s = some s' → forL g (xs.map e) (E s) = some (.nx (E s'))
  | [], s, s', q => by cases q; rfl
  | x :: xs, s, s', q => by
    obtain ⟨t, q1, q2⟩ := bind_of q
    obtain ⟨o, h1, h2⟩ := h x s t q1
    show (g (E s) (e x)).bind _ = _
    rw [h1]
    rcases h2 with rfl | rfl
    · exact forL_fold h xs t s' q2
    · exact forL_fold h xs t s' q2
def LpO (E : σ → Ev) (φ : ρ → RV) : Lp σ ρ → Out
  | .nx s => .nx (E s)
  | .bk s => .nx (E s)
  | .rt r => .rt (φ r)
theorem forL_loop {e : α → PyData} {E : σ → Ev} {φ : ρ → RV} {F : α → σ → Option (Lp σ ρ)} {g : Ev → PyData → Option Out} (h : ∀ x s, SimS (g (E s) (e x)) (F x s) (PLp E φ)) : ∀ (xs : List α) (s : σ) (s' : Lp σ ρ), loopO F xs s = some s' → forL g (xs.map e) (E s) = some (LpO E φ s')
  | [], s, s', q => by cases q; rfl
  | x :: xs, s, s', q => by
    obtain ⟨t, q1, q2⟩ := bind_of q
    obtain ⟨o, h1, h2⟩ := h x s t q1
    show (g (E s) (e x)).bind _ = _
    rw [h1]
    cases t with
    | nx t =>
      rcases h2 with rfl | rfl
      · exact forL_loop h xs t s' q2
      · exact forL_loop h xs t s' q2
    | bk t => cases h2; cases q2; rfl
    | rt t => cases h2; cases q2; rfl
theorem whl_loop {E : σ → Ev} {φ : ρ → RV} {T : σ → Option Bool} {F : σ → Option (Lp σ ρ)} {t : Ev → Option Bool} {g : Ev → Option Out} (ht : ∀ s, SimB (t (E s)) (T s)) (h : ∀ s, SimS (g (E s)) (F s) (PLp E φ)) : ∀ (n : Nat) (s : σ) (s' : Lp σ ρ), whlO T F n s = some s' → whlL t g n (E s) = some (LpO E φ s')
  | 0, s, s', q => by cases q
  | n + 1, s, s', q => by
    unfold whlO at q
    obtain ⟨k, q0, q⟩ := bind_of q
    unfold whlL
    rw [ht s k q0]
    cases k with
    | false => cases q; rfl
    | true =>
      simp only [if_true] at q
      obtain ⟨u, q1, q2⟩ := bind_of q
      obtain ⟨o, h1, h2⟩ := h s u q1
      show (g (E s)).bind _ = _
      rw [h1]
      cases u with
      | nx t =>
        rcases h2 with rfl | rfl
        · exact whl_loop ht h n t s' q2
        · exact whl_loop ht h n t s' q2
      | bk t => cases h2; cases q2; rfl
      | rt t => cases h2; cases q2; rfl
theorem whl_fold {E : σ → Ev} {T : σ → Option Bool} {F : σ → Option σ} {t : Ev → Option Bool} {g : Ev → Option Out} (ht : ∀ s, SimB (t (E s)) (T s)) (h : ∀ s, SimS (g (E s)) (F s) (PLn E)) : ∀ (n : Nat) (s s' : σ), whlG T F n s = some s' → whlL t g n (E s) = some (.nx (E s'))
  | 0, s, s', q => by cases q
  | n + 1, s, s', q => by
    unfold whlG at q
    obtain ⟨k, q0, q⟩ := bind_of q
    unfold whlL
    rw [ht s k q0]
    cases k with
    | false => cases q; rfl
    | true =>
      simp only [if_true] at q
      obtain ⟨u, q1, q2⟩ := bind_of q
      obtain ⟨o, h1, h2⟩ := h s u q1
      show (g (E s)).bind _ = _
      rw [h1]
      rcases h2 with rfl | rfl
      · exact whl_fold ht h n u s' q2
      · exact whl_fold ht h n u s' q2
/-- for, its body without return and break -/
theorem s_for {e : α → PyData} {E : σ → Ev} {F : α → σ → Option σ} {K : σ → Option R} {tg : Tg} {it : Mn.Itr} {b : Sms} {xs : List α} (s0 : σ) (h0 : env = E s0) (hi : Sim (evi c env it) (some xs) (List.map e)) (hb : borI c env it = false)
    (h : ∀ x s, ∃ env', bindT tg (E s) (e x) = some env' ∧ SimS (runS c [b] env') (F x s) (PLn E)) (hr : ∀ s, SimS (runS c (r :: bs) (E s)) (K s) P) : SimS (runS c (.cons (.for_ tg it b) r :: bs) env) ((foldO F xs s0).bind K) P := fun w q => by
  obtain ⟨s', q1, q2⟩ := bind_of q
  refine s_step (M := K s') ?_ (hr s') w q2
  rw [q_exS_for_, if_neg (by rw [hb]; exact Bool.false_ne_true), hi xs rfl]
  show forL (forB c tg b) (xs.map e) env = _
  rw [h0]
  refine forL_fold (fun x s v hv => ?_) xs s0 s' q1
  obtain ⟨env', h1, h2⟩ := h x s
  obtain ⟨o, h3, h4⟩ := h2 v hv
  refine ⟨o, ?_, h4⟩
  unfold forB
  rw [h1]
  rw [exSs_run] at h3
  exact h3
/-- for, with return or break -/
theorem s_forL {e : α → PyData} {E : σ → Ev} {φ : ρ → RV} {F : α → σ → Option (Lp σ ρ)} {K : σ → Option R} {mk : ρ → R} {tg : Tg} {it : Mn.Itr} {b : Sms} {xs : List α} (s0 : σ) (h0 : env = E s0) (hi : Sim (evi c env it) (some xs) (List.map e)) (hb : borI c env it = false)
    (h : ∀ x s, ∃ env', bindT tg (E s) (e x) = some env' ∧ SimS (runS c [b] env') (F x s) (PLp E φ)) (hm : ∀ v, P (mk v) (.rt (φ v))) (hr : ∀ s, SimS (runS c (r :: bs) (E s)) (K s) P) :
    SimS (runS c (.cons (.for_ tg it b) r :: bs) env) ((loopO F xs s0).bind (lpK K fun v => some (mk v))) P := fun w q => by
  obtain ⟨s', q1, q2⟩ := bind_of q
  have lp : exS c (.for_ tg it b) env = some (LpO E φ s') := by
    rw [q_exS_for_, if_neg (by rw [hb]; exact Bool.false_ne_true), hi xs rfl]
    show forL (forB c tg b) (xs.map e) env = _
    rw [h0]
    refine forL_loop (fun x s v hv => ?_) xs s0 s' q1
    obtain ⟨env', h1, h2⟩ := h x s
    obtain ⟨o, h3, h4⟩ := h2 v hv
    refine ⟨o, ?_, h4⟩
    unfold forB
    rw [h1]
    rw [exSs_run] at h3
    exact h3
  cases s' with
  | nx s => exact s_step (M := K s) lp (hr s) w q2
  | bk s => exact s_step (M := K s) lp (hr s) w q2
  | rt v => cases q2; exact ⟨_, run_stop (fun _ => rfl) lp, hm v⟩
theorem simB_of {x : Option RV} {M : Option Bool} (h : Sim x M (fz PyData.bool)) : SimB (x.bind asBool) M := fun v e => by rw [h v e]; rfl
theorem s_whl {E : σ → Ev} {T : σ → Option Bool} {F : σ → Option σ} {K : σ → Option R} {t : Ex} {b : Sms} (s0 : σ) (h0 : env = E s0) (ht : ∀ s, Sim (ev c (E s) t) (T s) (fz PyData.bool))
    (h : ∀ s, SimS (runS c [b] (E s)) (F s) (PLn E)) (hr : ∀ s, SimS (runS c (r :: bs) (E s)) (K s) P) : SimS (runS c (.cons (.whl t b) r :: bs) env) ((whlG T F FUEL s0).bind K) P := fun w q => by
  obtain ⟨s', q1, q2⟩ := bind_of q
  refine s_step (M := K s') ?_ (hr s') w q2
  rw [q_exS_whl, h0]
  exact whl_fold (E := E) (T := T) (F := F) (fun s => simB_of (ht s)) (fun s v hv => by
    obtain ⟨o, h3, h4⟩ := h s v hv
    rw [exSs_run] at h3
    exact ⟨o, h3, h4⟩) FUEL s0 s' q1
theorem s_whlL {E : σ → Ev} {φ : ρ → RV} {T : σ → Option Bool} {F : σ → Option (Lp σ ρ)} {K : σ → Option R} {mk : ρ → R} {t : Ex} {b : Sms} (s0 : σ) (h0 : env = E s0) (ht : ∀ s, Sim (ev c (E s) t) (T s) (fz PyData.bool))
    (h : ∀ s, SimS (runS c [b] (E s)) (F s) (PLp E φ)) (hm : ∀ v, P (mk v) (.rt (φ v))) (hr : ∀ s, SimS (runS c (r :: bs) (E s)) (K s) P) :
    SimS (runS c (.cons (.whl t b) r :: bs) env) ((whlO T F FUEL s0).bind (lpK K fun v => some (mk v))) P := fun w q => by
  obtain ⟨s', q1, q2⟩ := bind_of q
  have lp : exS c (.whl t b) env = some (LpO E φ s') := by
    rw [q_exS_whl, h0]
    exact whl_loop (E := E) (T := T) (F := F) (fun s => simB_of (ht s)) (fun s v hv => by
      obtain ⟨o, h3, h4⟩ := h s v hv
      rw [exSs_run] at h3
      exact ⟨o, h3, h4⟩) FUEL s0 s' q1
  cases s' with
  | nx s => exact s_step (M := K s) lp (hr s) w q2
  | bk s => exact s_step (M := K s) lp (hr s) w q2
  | rt v => cases q2; exact ⟨_, run_stop (fun _ => rfl) lp, hm v⟩
end
theorem s_def {c : Cl} {f : Df} {ds : List PyData} {M : Option ρ} {φ : ρ → RV} (hl : ds.length = f.np) (h : SimS (runS c [f.body] (ds.map (fun d => some (RV.fz d)) ++ List.replicate (f.n - f.np) none)) M (PRt φ)) (hx : ∀ v, (φ v).isX = false := by intros; rfl) : Sim (runD c f ds) M φ := fun v e => by
  obtain ⟨o, h1, rfl⟩ := h v e
  rw [exSs_run] at h1
  exact run_rt hl h1 (hx v)
/-- a def that ends without return -/
theorem s_defN {c : Cl} {f : Df} {ds : List PyData} {M : Option Unit} {E : Unit → Ev} (hl : ds.length = f.np) (h : SimS (runS c [f.body] (ds.map (fun d => some (RV.fz d)) ++ List.replicate (f.n - f.np) none)) M (fun _ o => (∃ e, o = .nx e) ∨ o = .rt (.fz .none))) : Sim (runD c f ds) M (fz encN) := fun v e => by
  obtain ⟨o, h1, h2⟩ := h v e
  rw [exSs_run] at h1
  rcases h2 with ⟨e, rfl⟩ | rfl
  · exact run_nx hl h1
  · exact run_rt hl h1
end Mn

namespace Mn
open PySem PySem.Spec PyProof.Rows
open L2 (atI ixN cutS)
variable {α β γ δ σ ρ R : Type}
abbrev strOk (x : Str) : Bool := PyData.strOk x
def okL {α : Type} (f : α → Bool) (x : List α) : Bool := x.all f
def okP1 {α : Type} (f : α → Bool) (x : α) : Bool := f x
def okP2 {α β : Type} (f : α → Bool) (g : β → Bool) (x : α × β) : Bool := f x.1 && g x.2
def okP3 {α β γ : Type} (f : α → Bool) (g : β → Bool) (h : γ → Bool) (x : α × β × γ) : Bool := f x.1 && (g x.2.1 && h x.2.2)
def okP4 {α β γ δ : Type} (f : α → Bool) (g : β → Bool) (h : γ → Bool) (k : δ → Bool) (x : α × β × γ × δ) : Bool := f x.1 && (g x.2.1 && (h x.2.2.1 && k x.2.2.2))
/-- data whose equality is that of what they stand for, where the texts are sound -/
structure GoodK (e : α → PyData) (ok : α → Bool) (n : Nat) : Prop where
  can : ∀ x, ok x = true → (e x).canLay0 = true
  dep : ∀ x, (e x).depth ≤ n
  inj : ∀ x y, PyData.eqv (e x) (e y) = true ↔ x = y
theorem goodk_S : GoodK PyData.str strOk 0 := ⟨fun x h => by rw [PyData.canLay0]; exact h, fun x => by simp [PyData.depth], fun x y => by rw [PyData.eqv]; simp⟩
theorem Good.k {e : α → PyData} {n : Nat} (g : Good e n) : GoodK e (fun _ => true) n := ⟨fun x _ => g.can x, g.dep, g.inj⟩
theorem can_mapK (e : α → PyData) (ok : α → Bool) (h : ∀ x, ok x = true → (e x).canLay0 = true) : ∀ xs : List α, xs.all ok = true → PyData.canLayAll0 (xs.map e) = true
  | [], _ => by simp [PyData.canLayAll0]
  | x :: xs, q => by
    rw [List.all_cons, Bool.and_eq_true] at q
    rw [List.map_cons, PyData.canLayAll0, h x q.1, can_mapK e ok h xs q.2]
    rfl
theorem goodk_L {e : α → PyData} {ok : α → Bool} {n : Nat} (g : GoodK e ok n) : GoodK (encL e) (okL ok) (n + 1) :=
  ⟨fun x h => by show PyData.canLay0 (.list _) = true; rw [PyData.canLay0]; exact can_mapK e ok g.can x h,
   fun x => by show PyData.depth (.list _) ≤ _; rw [PyData.depth]; exact Nat.succ_le_succ (dep_map e n g.dep x),
   fun x y => by show PyData.eqv (.list _) (.list _) = true ↔ _; rw [PyData.eqv]; exact eqvAll_map g.inj x y⟩
theorem goodk_U {e : α → PyData} {ok : α → Bool} {n : Nat} (g : GoodK e ok n) : GoodK (encU e) (okL ok) (n + 1) :=
  ⟨fun x h => by show PyData.canLay0 (.tuple _) = true; rw [PyData.canLay0]; exact can_mapK e ok g.can x h,
   fun x => by show PyData.depth (.tuple _) ≤ _; rw [PyData.depth]; exact Nat.succ_le_succ (dep_map e n g.dep x),
   fun x y => by show PyData.eqv (.tuple _) (.tuple _) = true ↔ _; rw [PyData.eqv]; exact eqvAll_map g.inj x y⟩
theorem goodk_P1 {e : α → PyData} {o1 : α → Bool} {n : Nat} (g : GoodK e o1 n) : GoodK (encP1 e) (okP1 o1) (n + 1) :=
  ⟨fun x q => by unfold okP1 at q; simp [PyData.canLay0, PyData.canLayAll0, g.can _ q], fun x => by have := g.dep x; simp only [PyData.depth, PyData.depthAll]; omega, fun x y => by simp [PyData.eqv, PyData.eqvAll, g.inj]⟩
theorem goodk_P2 {e : α → PyData} {f : β → PyData} {o1 : α → Bool} {o2 : β → Bool} {n m : Nat} (g : GoodK e o1 n) (h : GoodK f o2 m) : GoodK (encP2 e f) (okP2 o1 o2) (max n m + 1) :=
  ⟨fun x q => by unfold okP2 at q; simp only [Bool.and_eq_true] at q; simp [PyData.canLay0, PyData.canLayAll0, g.can _ q.1, h.can _ q.2], fun x => by have := g.dep x.1; have := h.dep x.2; simp only [PyData.depth, PyData.depthAll]; omega, fun x y => by simp [PyData.eqv, PyData.eqvAll, g.inj, h.inj, Prod.ext_iff]⟩
theorem goodk_P3 {e : α → PyData} {f : β → PyData} {k : γ → PyData} {o1 : α → Bool} {o2 : β → Bool} {o3 : γ → Bool} {n m l : Nat} (g : GoodK e o1 n) (h : GoodK f o2 m) (j : GoodK k o3 l) : GoodK (encP3 e f k) (okP3 o1 o2 o3) (max n (max m l) + 1) :=
  ⟨fun x q => by unfold okP3 at q; simp only [Bool.and_eq_true] at q; simp [PyData.canLay0, PyData.canLayAll0, g.can _ q.1, h.can _ q.2.1, j.can _ q.2.2], fun x => by have := g.dep x.1; have := h.dep x.2.1; have := j.dep x.2.2; simp only [PyData.depth, PyData.depthAll]; omega, fun x y => by simp [PyData.eqv, PyData.eqvAll, g.inj, h.inj, j.inj, Prod.ext_iff]⟩
theorem goodk_P4 {e : α → PyData} {f : β → PyData} {k : γ → PyData} {q : δ → PyData} {o1 : α → Bool} {o2 : β → Bool} {o3 : γ → Bool} {o4 : δ → Bool} {n m l r : Nat} (g : GoodK e o1 n) (h : GoodK f o2 m) (j : GoodK k o3 l) (i : GoodK q o4 r) : GoodK (encP4 e f k q) (okP4 o1 o2 o3 o4) (max n (max m (max l r)) + 1) :=
  ⟨fun x z => by unfold okP4 at z; simp only [Bool.and_eq_true] at z; simp [PyData.canLay0, PyData.canLayAll0, g.can _ z.1, h.can _ z.2.1, j.can _ z.2.2.1, i.can _ z.2.2.2], fun x => by have := g.dep x.1; have := h.dep x.2.1; have := j.dep x.2.2.1; have := i.dep x.2.2.2; simp only [PyData.depth, PyData.depthAll]; omega, fun x y => by simp [PyData.eqv, PyData.eqvAll, g.inj, h.inj, j.inj, i.inj, Prod.ext_iff]⟩
def okO {α : Type} (f : α → Bool) : Option α → Bool
  | none => true
  | some x => f x
theorem goodk_O {e : α → PyData} {ok : α → Bool} {n : Nat} (g : GoodK e ok n) (h : NotN e) : GoodK (encO e) (okO ok) n :=
  ⟨fun x q => by
    cases x with
    | none => simp [encO, PyData.canLay0]
    | some x => exact g.can x q, fun x => by
    cases x with
    | none => simp [encO, PyData.depth]
    | some x => exact g.dep x, fun x y => by
    cases x <;> cases y <;> simp [encO, PyData.eqv, g.inj, h _]⟩
theorem GoodK.shp {e : α → PyData} {ok : α → Bool} {n : Nat} (g : GoodK e ok n) (h : n ≤ 64) {x : α} (hx : ok x = true) : SeqAt.shaped (e x) = true := shp_of (g.can x hx) (Nat.le_trans (g.dep x) h)
theorem GoodK.dec [DecidableEq α] {e : α → PyData} {ok : α → Bool} {n : Nat} (g : GoodK e ok n) (x y : α) : PyData.eqv (e x) (e y) = decide (x = y) := by
  by_cases h : x = y
  · rw [decide_eq_true h]; exact (g.inj x y).mpr h
  · rw [decide_eq_false h]
    cases q : PyData.eqv (e x) (e y)
    · rfl
    · exact absurd ((g.inj x y).mp q) h
def eqG [DecidableEq α] (ok : α → Bool) (x y : α) : Option Bool := if ok x = true ∧ ok y = true then some (decide (x = y)) else none
def neG [DecidableEq α] (ok : α → Bool) (x y : α) : Option Bool := if ok x = true ∧ ok y = true then some (!decide (x = y)) else none
def lenS (x : Str) : Option Int := if x.length ≤ LIM then some (x.length : Int) else none
def idxS (x : Str) (i : Int) : Option Str := if x.length ≤ LIM then (atI x.cps.toList i).map (fun k => (⟨#[k]⟩ : Str)) else none
def joinG (x : Str) (ys : List Str) : Option Str := if (ys.map (·.length)).sum + ys.length * x.length ≤ 16777216 then some (Txt.join x ys) else none
def strI (x : Int) : Option Str := if x.natAbs.log2 < 1920 then some ((toString x : String) : Str) else none
def indexS (a b : Str) : Option Int := match Builtin.Str.occurrences a b 0 a.length 1 with
  | i :: _ => some (i : Nat)
  | [] => none
section
variable {c : Cl} {env : Ev}
theorem m_eqk {e : α → PyData} [DecidableEq α] {ok : α → Bool} {n : Nat} {a b : Ex} {x y : α} {r s : RV} (g : GoodK e ok n) (hn : n ≤ 64) (ha : ev c env a = some r) (hb : ev c env b = some s) (hr : r.d = e x) (hs : s.d = e y) : Sim (ev c env (.cmp .eq a b)) (eqG ok x y) (fz PyData.bool) := fun v h => by
  unfold eqG at h
  split at h
  · rename_i q
    cases h
    rw [q_ev_cmp, ha, hb]
    show (cmpD .eq r.d s.d).map _ = _
    rw [hr, hs]
    show (if SeqAt.shaped (e x) && SeqAt.shaped (e y) then some (PyData.eqv (e x) (e y)) else none).map _ = _
    rw [g.shp hn q.1, g.shp hn q.2, g.dec]
    rfl
  · cases h
theorem m_nek {e : α → PyData} [DecidableEq α] {ok : α → Bool} {n : Nat} {a b : Ex} {x y : α} {r s : RV} (g : GoodK e ok n) (hn : n ≤ 64) (ha : ev c env a = some r) (hb : ev c env b = some s) (hr : r.d = e x) (hs : s.d = e y) : Sim (ev c env (.cmp .ne a b)) (neG ok x y) (fz PyData.bool) := fun v h => by
  unfold neG at h
  split at h
  · rename_i q
    cases h
    rw [q_ev_cmp, ha, hb]
    show (cmpD .ne r.d s.d).map _ = _
    rw [hr, hs]
    show (if SeqAt.shaped (e x) && SeqAt.shaped (e y) then some (!PyData.eqv (e x) (e y)) else none).map _ = _
    rw [g.shp hn q.1, g.shp hn q.2, g.dec]
    rfl
  · cases h
theorem m_joinT {a b : Ex} {x : Str} {ys : List Str} {r : RV} (ha : ev c env a = some (.fz (.str x))) (hb : ev c env b = some r) (hs : r.seq = some (ys.map PyData.str)) : Sim (ev c env (.mt .join a (.cons b .nil))) (joinG x ys) (fz PyData.str) := m_joinS ha hb hs
theorem m_indexS {a b : Ex} {x y : Str} (ha : ev c env a = some (.fz (.str x))) (hb : ev c env b = some (.fz (.str y))) : Sim (ev c env (.mt .index a (.cons b .nil))) (indexS x y) (fz PyData.int) := fun v h => by
  rw [q_ev_mt, ha, er_1 hb]
  show (match Builtin.Str.occurrences x y 0 x.length 1 with
    | i :: _ => some (RV.fz (.int (i : Nat)))
    | [] => none) = _
  unfold indexS at h
  split at h
  · rename_i q
    cases h
    rfl
  · cases h
end
section
variable {β R : Type} {c : Cl} {env : Ev} {P : R → Out → Prop} {bs : List Sms} {r : Sms}
theorem e_lenD {f : β → PyData} {xs : List (List β)} {i : Nat} (hi : (env[i]?).join = some (on f xs)) : ev c env (.lenD i) = some (.fz (.int (xs.length : Nat))) := by
  rw [q_ev_lenD, onAt_of hi]
  show some (RV.fz (.int ((xs.map (List.map f)).length : Nat))) = _
  rw [List.length_map]
def lenI (xs : List (List β)) (n : Int) : Option Int := (atI xs n).map fun ys => (ys.length : Int)
theorem m_lenI {f : β → PyData} {xs : List (List β)} {i : Nat} {k : Ex} {n : Int} (hi : (env[i]?).join = some (on f xs)) (hk : ev c env k = some (.fz (.int n))) : Sim (ev c env (.lenI i k)) (lenI xs n) (fz PyData.int) := fun v q => by
  rw [q_ev_lenI, onAt_of hi, Option.bind_some, hk]
  obtain ⟨ys, q1, rfl⟩ := Option.map_eq_some_iff.mp q
  show (atI (xs.map (List.map f)) n).map _ = _
  rw [atI_mapL q1]
  show some (RV.fz (.int ((ys.map f).length : Nat))) = _
  rw [List.length_map]
def appIG (xs : List (List β)) (n : Int) (y : β) : Option (List (List β)) := (ixN xs.length n).bind fun j => (xs[j]?).bind fun ds => if ds.length < LIM ∧ xs.length ≤ LIM then some (xs.set j (ds ++ [y])) else none
def popIG (xs : List (List β)) (n : Int) : Option (List (List β)) := (ixN xs.length n).bind fun j => (xs[j]?).bind fun ds => if 0 < ds.length ∧ ds.length ≤ LIM ∧ xs.length ≤ LIM then some (xs.set j ds.dropLast) else none
def popDG (xs : List (List β)) : Option (List (List β)) := if 0 < xs.length ∧ xs.length ≤ LIM then some xs.dropLast else none
theorem s_appI {f : β → PyData} {xs : List (List β)} {K : List (List β) → Option R} {i : Nat} {k b : Ex} {n : Int} {y : β} {rb : RV} (hi : (env[i]?).join = some (on f xs)) (hk : ev c env k = some (.fz (.int n))) (hb : ev c env b = some rb) (ho : ownD b rb = some (f y)) (h : ∀ v : List (List β), SimS (runS c (r :: bs) (env.set i (some (on f v)))) (K v) P) :
    SimS (runS c (.cons (.appI i k b) r :: bs) env) ((appIG xs n y).bind K) P := fun w q => by
  obtain ⟨v, q1, q2⟩ := bind_of q
  unfold appIG at q1
  obtain ⟨j, q3, q4⟩ := bind_of q1
  obtain ⟨ds, q5, q6⟩ := bind_of q4
  split at q6
  · rename_i hl
    cases q6
    refine s_step (M := K _) ?_ (h _) w q2
    rw [q_exS_appI, onAt_of hi, Option.bind_some, hk]
    show (ixN (xs.map (List.map f)).length n).bind _ = _
    rw [List.length_map, q3, Option.bind_some, List.getElem?_map, q5, Option.map_some, Option.bind_some, hb, Option.bind_some, ho, Option.bind_some, List.length_map, if_pos hl]
    show some (Out.nx (env.set i (some (.on ((xs.map (List.map f)).set j (ds.map f ++ [f y])))))) = some (Out.nx (env.set i (some (.on ((xs.set j (ds ++ [y])).map (List.map f))))))
    rw [List.map_set, List.map_append]
    rfl
  · cases q6
theorem s_popI {f : β → PyData} {xs : List (List β)} {K : List (List β) → Option R} {i : Nat} {k : Ex} {n : Int} (hi : (env[i]?).join = some (on f xs)) (hk : ev c env k = some (.fz (.int n))) (h : ∀ v : List (List β), SimS (runS c (r :: bs) (env.set i (some (on f v)))) (K v) P) :
    SimS (runS c (.cons (.popI i k) r :: bs) env) ((popIG xs n).bind K) P := fun w q => by
  obtain ⟨v, q1, q2⟩ := bind_of q
  unfold popIG at q1
  obtain ⟨j, q3, q4⟩ := bind_of q1
  obtain ⟨ds, q5, q6⟩ := bind_of q4
  split at q6
  · rename_i hl
    cases q6
    refine s_step (M := K _) ?_ (h _) w q2
    rw [q_exS_popI, onAt_of hi, Option.bind_some, hk]
    show (ixN (xs.map (List.map f)).length n).bind _ = _
    rw [List.length_map, q3, Option.bind_some, List.getElem?_map, q5, Option.map_some, Option.bind_some, List.length_map, if_pos hl]
    show some (Out.nx (env.set i (some (.on ((xs.map (List.map f)).set j (ds.map f).dropLast))))) = some (Out.nx (env.set i (some (.on ((xs.set j ds.dropLast).map (List.map f))))))
    rw [List.map_set, List.map_dropLast]
  · cases q6
theorem s_popD {f : β → PyData} {xs : List (List β)} {K : List (List β) → Option R} {i : Nat} (hi : (env[i]?).join = some (on f xs)) (h : ∀ v : List (List β), SimS (runS c (r :: bs) (env.set i (some (on f v)))) (K v) P) :
    SimS (runS c (.cons (.popD i) r :: bs) env) ((popDG xs).bind K) P := fun w q => by
  obtain ⟨v, q1, q2⟩ := bind_of q
  unfold popDG at q1
  split at q1
  · rename_i hl
    cases q1
    refine s_step (M := K _) ?_ (h _) w q2
    rw [q_exS_popD, onAt_of hi, Option.bind_some, List.length_map, if_pos hl]
    show some (Out.nx (env.set i (some (.on (xs.map (List.map f)).dropLast)))) = some (Out.nx (env.set i (some (.on (xs.dropLast.map (List.map f))))))
    rw [List.map_dropLast]
  · cases q1
end
section
variable {α : Type} {c : Cl} {env : Ev}
theorem e_rvt {e : α → PyData} {a : Ex} {x : List α} {r : RV} (ha : ev c env a = some r) (hs : r.seq = some (x.map e)) : ev c env (.rvt a) = some (.fz (.tuple (x.reverse.map e))) := by
  rw [q_ev_rvt, ha, Option.bind_some, hs]
  show some (RV.fz (.tuple (x.map e).reverse)) = _
  rw [List.map_reverse]
theorem e_rvl {e : α → PyData} {a : Ex} {x : List α} {r : RV} (ha : ev c env a = some r) (hs : r.seq = some (x.map e)) : ev c env (.rvl a) = some (ol e x.reverse) := by
  rw [q_ev_rvl, ha, Option.bind_some, hs]
  show some (RV.ol (x.map e).reverse) = some (RV.ol (x.reverse.map e))
  rw [List.map_reverse]
end
section
variable {α β R : Type} {c : Cl} {env : Ev} {P : R → Out → Prop} {bs : List Sms} {r : Sms}
def encV (a : α → PyData) (b : β → PyData) : α ⊕ β → PyData
  | .inl x => a x
  | .inr y => b y
def phV (a : α → RV) (b : β → RV) : α ⊕ β → RV
  | .inl x => a x
  | .inr y => b y
def castL : α ⊕ β → Option α
  | .inl x => some x
  | .inr _ => none
def castR : α ⊕ β → Option β
  | .inl _ => none
  | .inr y => some y
theorem m_castL {a : α → PyData} {b : β → PyData} {e : Ex} {v : α ⊕ β} (h : ev c env e = some (.fz (encV a b v))) : Sim (ev c env e) (castL v) (fz a) := fun w q => by
  cases v with
  | inl x => cases q; exact h
  | inr y => cases q
theorem m_castR {a : α → PyData} {b : β → PyData} {e : Ex} {v : α ⊕ β} (h : ev c env e = some (.fz (encV a b v))) : Sim (ev c env e) (castR v) (fz b) := fun w q => by
  cases v with
  | inl x => cases q
  | inr y => cases q; exact h
theorem s_frzV {a : α → PyData} {f : β → PyData} {M : Option R} {i : Nat} {v : α ⊕ List β} (hi : (env[i]?).join = some (phV (fz a) (ol f) v)) (h : SimS (runS c (r :: bs) (env.set i (some (.fz (encV a (encL f) v))))) M P) : SimS (runS c (.frz i r :: bs) env) M P :=
  s_frz hi (by
    have e : (phV (fz a) (ol f) v).d = encV a (encL f) v := by cases v <;> rfl
    rw [e]
    exact h)
end
section
variable {c : Cl} {env : Ev}
theorem e_innUS {a b : Ex} {x : Str} {ys : List Str} {r : RV} {s : RV} (ha : ev c env a = some r) (hb : ev c env b = some s) (hr : r.d = .str x) (hs : s.d = .tuple (ys.map PyData.str)) : ev c env (.cmp .inn a b) = some (.fz (.bool (decide (x ∈ ys)))) := by
  rw [q_ev_cmp, ha, hb]
  show (inD r.d s.d).map _ = _
  rw [hr, hs]
  have k : (ys.map PyData.str).any (fun z => PyData.eqv z (.str x)) = decide (x ∈ ys) := by
    rw [List.any_map]
    have : ((fun z => PyData.eqv z (PyData.str x)) ∘ PyData.str) = fun y => decide (y = x) := funext fun y => goodk_S.dec y x
    rw [this]
    by_cases q : x ∈ ys
    · rw [decide_eq_true q]; exact List.any_eq_true.mpr ⟨x, q, by simp⟩
    · rw [decide_eq_false q, List.any_eq_false]
      intro y hy
      simp
      rintro rfl
      exact q hy
  have al : (ys.map PyData.str).all scalD = true := by simp [scalD]
  show (if scalD (.str x) && (ys.map PyData.str).all scalD then some ((ys.map PyData.str).any fun z => PyData.eqv z (.str x)) else none).map _ = _
  rw [al, k]
  rfl
theorem e_ninUS {a b : Ex} {x : Str} {ys : List Str} {r : RV} {s : RV} (ha : ev c env a = some r) (hb : ev c env b = some s) (hr : r.d = .str x) (hs : s.d = .tuple (ys.map PyData.str)) : ev c env (.cmp .nin a b) = some (.fz (.bool (!decide (x ∈ ys)))) := by
  have h := e_innUS ha hb hr hs
  rw [q_ev_cmp, ha, hb] at h ⊢
  have h : ((inD r.d s.d).map fun k => RV.fz (.bool k)) = some (.fz (.bool (decide (x ∈ ys)))) := h
  show (((inD r.d s.d).map not).map fun k => RV.fz (.bool k)) = _
  cases q : inD r.d s.d with
  | none => rw [q] at h; cases h
  | some k => rw [q] at h; cases h; rfl
end
section
variable {α β γ : Type} {c : Cl} {env : Ev}
theorem zip3_enc {e : α → PyData} {f : β → PyData} {g : γ → PyData} : ∀ (x : List α) (y : List β) (z : List γ), zipD3 (x.map e) (y.map f) (z.map g) = (List.zip x (List.zip y z)).map (encP3 e f g)
  | [], _, _ => rfl
  | _ :: _, [], _ => by simp [zipD3]
  | _ :: _, _ :: _, [] => by simp [zipD3]
  | a :: x, b :: y, d :: z => by
    have ih := zip3_enc (e := e) (f := f) (g := g) x y z
    show _ :: zipD3 (x.map e) (y.map f) (z.map g) = _
    rw [ih]
    rfl
theorem i_zip3 {e : α → PyData} {f : β → PyData} {g : γ → PyData} {a b d : Ex} {x : List α} {y : List β} {z : List γ} {r s t : RV} (ha : ev c env a = some r) (hb : ev c env b = some s) (hd : ev c env d = some t) (hr : r.seq = some (x.map e)) (hs : s.seq = some (y.map f)) (ht : t.seq = some (z.map g)) : Sim (evi c env (.zip3 a b d)) (some (List.zip x (List.zip y z))) (List.map (encP3 e f g)) := fun v h => by
  cases h
  rw [q_evi_zip3, ha, Option.bind_some, hb, Option.bind_some, hd, Option.bind_some]
  show zipR3 r s t = _
  unfold zipR3
  rw [hr, Option.bind_some, hs, Option.bind_some, ht, Option.bind_some, zip3_enc]
theorem b_zip3 {a b d : Ex} (h : bo c env a = false) (g : bo c env b = false) (k : bo c env d = false) : borI c env (.zip3 a b d) = false := by
  show (bo c env a || (bo c env b || bo c env d)) = false
  rw [h, g, k]
  rfl
end
section
variable {α : Type} {c : Cl} {env : Ev}
theorem e_sls {e : α → PyData} {a : Ex} {x : List α} {r : RV} {lo st : Int} (ha : ev c env a = some r) (hs : r.lst = some (x.map e)) (h : 0 < st) : ev c env (.sls a lo st) = some (ol e (pickX x lo st)) := by
  rw [q_ev_sls, ha, Option.bind_some, hs, Option.bind_some, if_pos h, pick_map]
def splitG (x y : Str) : Option (List Str) := if (y.length == 0) = false ∧ x.length + 2 ≤ LIM then some (Txt.split x y) else none
theorem m_split {a b : Ex} {x y : Str} (ha : ev c env a = some (.fz (.str x))) (hb : ev c env b = some (.fz (.str y))) : Sim (ev c env (.mt .split a (.cons b .nil))) (splitG x y) (ol PyData.str) := fun v h => by
  rw [q_ev_mt, ha, Option.bind_some]
  show ((ev c env b).bind fun r => some [r]).bind (fun rs => mtD .split (.fz (.str x)) rs) = _
  rw [hb]
  show (if (y.length == 0) = false ∧ x.length + 2 ≤ LIM then some (RV.ol ((Txt.split x y).map PyData.str)) else none) = _
  unfold splitG at h
  split at h
  · rename_i g
    rw [if_pos g]
    cases h
    rfl
  · cases h
end
section
variable {α R : Type} {c : Cl} {env : Ev} {P : R → Out → Prop} {bs : List Sms} {r : Sms}
def innS (x z : Str) : Option Bool := if x.cps.size = 1 then some (decide (x.cps.getD 0 0 ∈ z.cps.toList)) else none
theorem m_innS {a b : Ex} {x z : Str} (ha : ev c env a = some (.fz (.str x))) (hb : ev c env b = some (.fz (.str z))) : Sim (ev c env (.cmp .inn a b)) (innS x z) (fz PyData.bool) := fun v h => by
  rw [q_ev_cmp, ha, hb]
  show (innS x z).map _ = _
  rw [h]
  rfl
def innK [DecidableEq α] (ok : α → Bool) (x : α) (ys : List α) : Option Bool := if ok x = true ∧ ys.all ok = true then some (decide (x ∈ ys)) else none
theorem m_innK {e : α → PyData} [DecidableEq α] {ok : α → Bool} {n : Nat} {a b : Ex} {x : α} {ys : List α} {r s : RV} (g : GoodK e ok n) (hn : n + 1 ≤ 64) (ha : ev c env a = some r) (hb : ev c env b = some s) (hr : r.d = e x) (hs : s.d = .list (ys.map e)) : Sim (ev c env (.cmp .inn a b)) (innK ok x ys) (fz PyData.bool) := fun v h => by
  unfold innK at h
  split at h
  · rename_i q
    cases h
    rw [q_ev_cmp, ha, hb]
    show (inD r.d s.d).map _ = _
    rw [hr, hs]
    have hl : SeqAt.shaped (.list (ys.map e)) = true := (goodk_L g).shp (x := ys) hn q.2
    have e1 : inD (e x) (.list (ys.map e)) = some (decide (x ∈ ys)) := by
      have e0 : inD (e x) (.list (ys.map e)) = if SeqAt.shaped (e x) && SeqAt.shaped (.list (ys.map e)) then some ((ys.map e).any fun z => PyData.eqv z (e x)) else none := by
        cases e x <;> rfl
      rw [e0, g.shp (by omega) q.1, hl]
      show some _ = _
      rw [List.any_map]
      have e2 : ((fun z => PyData.eqv z (e x)) ∘ e) = fun y => decide (y = x) := funext fun y => g.dec y x
      rw [e2]
      congr 1
      by_cases m : x ∈ ys
      · rw [decide_eq_true m]; exact List.any_eq_true.mpr ⟨x, m, by simp⟩
      · rw [decide_eq_false m, List.any_eq_false]
        intro y hy
        simp
        rintro rfl
        exact m hy
    rw [e1]
    rfl
  · cases h
def intS (x : Str) : Option Int := if x.length ≤ 640 then PySem.intText? x else none
theorem m_intS {a : Ex} {x : Str} (ha : ev c env a = some (.fz (.str x))) : Sim (ev c env (.bi .int (.cons a .nil))) (intS x) (fz PyData.int) := fun v h => by
  rw [q_ev_bi]
  simp only [q_evr_cons, q_evr_nil, ha, Option.bind_some]
  show (if x.length ≤ 640 then (PySem.intText? x).map fun n => RV.fz (.int n) else none) = _
  unfold intS at h
  split at h
  · rename_i g
    rw [if_pos g, h]
    rfl
  · cases h
theorem s_try {M : Option R} {b : Sms} (hP : ∀ v o, P v o → o.isX = false) (h : SimS (runS c (b :: r :: bs) env) M P) : SimS (runS c (.cons (.tryN b) r :: bs) env) M P := fun v e => by
  obtain ⟨o, h1, h2⟩ := h v e
  refine ⟨o, ?_, h2⟩
  rw [run_cons, q_exS_tryN]
  have h1 : (exSs c b env).bind (fun o => thenO o (runS c (r :: bs))) = some o := h1
  cases q : exSs c b env with
  | none => rw [q] at h1; cases h1
  | some o1 =>
    rw [q, Option.bind_some] at h1
    rw [Option.bind_some]
    cases hx : o1.isX with
    | false =>
      show (some o1).bind (fun o => thenO o (runS c (r :: bs))) = some o
      exact h1
    | true =>
      cases o1 with
      | rt rv =>
        have : o = .rt rv := (Option.some.inj (show some (Out.rt rv) = some o from h1)).symm
        subst this
        have := hP v _ h2
        rw [hx] at this
        cases this
      | _ => cases hx
theorem m_dsv {k1 k2 : Str} {a b k : Ex} {x y s : Str} (ha : ev c env a = some (.fz (.str x))) (hb : ev c env b = some (.fz (.str y))) (hk : ev c env k = some (.fz (.str s))) : Sim (ev c env (.dsv k1 k2 a b k)) (strLook [(k1, x), (k2, y)] s) (fz PyData.str) := fun v h => by
  rw [q_ev_dsv, ha, hb]
  show ((ev c env k).bind fun r => dsxD [(k1, x), (k2, y)] r) = _
  rw [hk]
  show (strLook [(k1, x), (k2, y)] s).map _ = _
  rw [h]
  rfl
end
end Mn

set_option synthInstance.maxSize 100000
set_option synthInstance.maxHeartbeats 0
namespace Mn
open PySem PySem.Spec PyProof.Rows
open L2 (atI ixN cutS)
def b_law_mix_0 : Sms := (.cons (.asg 3 (.bin .fdiv (.var 3) (.bin .pow (.int 10) (.int 9))))
    (.del 4 .nil))
def b_law_mix_1 : Sms := (.cons (.asg 3 (.idx (.var 0) (.bin .add (.int 1) (.bin .mod (.var 1) (.bin .sub (.bi .len (.cons (.var 0) .nil)) (.int 1))))))
    (.del 2 (.cons (.for_ (.nm 4) (.r1 (.bin .fdiv (.var 1) (.bin .sub (.bi .len (.cons (.var 0) .nil)) (.int 1)))) b_law_mix_0)
    (.cons (.ret (.bin .mod (.var 3) (.bin .pow (.int 10) (.int 9))))
    .nil))))
def b_law_mix_2 : Sms := (.cons (.ret (.bin .mod (.bin .mul (.bin .mod (.bin .mul (.bin .add (.bin .mul (.bin .mul (.var 1) (.var 1)) (.int 7919)) (.int 11)) (.int 48271)) (.int 2147483647)) (.int 69621)) (.int 1000000007)))
    .nil)
def d_law_mix : Df := ⟨5, 2, (.cons (.ifs (.cmp .eq (.bi .len (.cons (.var 0) .nil)) (.int 0)) b_law_mix_2 .nil)
    (.cons (.asg 2 (.idx (.var 0) (.bin .mod (.var 1) (.bi .len (.cons (.var 0) .nil)))))
    (.cons (.ifs (.and (.cmp .gt (.bi .len (.cons (.var 0) .nil)) (.int 1)) (.one (.cmp .eq (.bin .mod (.idx (.var 0) (.int 0)) (.int 2)) (.int 1)))) b_law_mix_1 .nil)
    (.cons (.ret (.bin .mod (.bin .mul (.bin .mod (.bin .add (.bin .add (.bin .mul (.bin .mod (.var 2) (.bin .pow (.int 10) (.int 30))) (.int 48271)) (.bin .mul (.bin .mul (.var 1) (.var 1)) (.int 7919))) (.int 11)) (.int 2147483647)) (.int 69621)) (.int 1000000007)))
    .nil))))⟩
def s_law_mix : List PyData → Option RV := runD (tabC [] []) d_law_mix
end Mn

namespace Mn
open PySem PySem.Spec PyProof.Rows
open L2 (atI ixN cutS)
def b_law_table_0 : Sms := (.cons (.asg 9 (.call 0 (.cons (.var 0) (.cons (.bin .add (.bin .add (.var 1) (.bin .mul (.var 6) (.var 4))) (.var 8)) .nil))))
    (.cons (.app 7 (.bin .mul (.bin .mod (.var 9) (.var 2)) (.bi .int (.cons (.cmp .gt (.bin .mod (.bin .fdiv (.var 9) (.int 7)) (.int 3)) (.int 0)) .nil))))
    (.del 8 (.del 9 .nil))))
def b_law_table_1 : Sms := (.cons (.asg 7 (.lst .nil))
    (.cons (.for_ (.nm 8) (.r1 (.var 4)) b_law_table_0)
    (.cons (.app 5 (.bi .tup (.cons (.var 7) .nil)))
    (.del 6 (.del 7 .nil)))))
def d_law_table : Df := ⟨10, 5, (.cons (.asg 5 (.lst .nil))
    (.cons (.for_ (.nm 6) (.r1 (.var 3)) b_law_table_1)
    (.cons (.ret (.tup (.cons (.var 3) (.cons (.var 4) (.cons (.bi .tup (.cons (.var 5) .nil)) .nil)))))
    .nil)))⟩
def s_law_table : List PyData → Option RV := runD (tabC [s_law_mix] []) d_law_table
end Mn

namespace Mn
open PySem PySem.Spec PyProof.Rows
open L2 (atI ixN cutS)
def b_law_product_0 : Sms := (.cons (.app 3 (.bi .tup (.cons (.comp (.bin .mod (.bi .sum (.cons (.comp (.bin .mul (.idx (.var 4) (.var 6)) (.idx (.idx (.idx (.var 2) (.int 2)) (.var 6)) (.var 5))) (.nm 6) (.r1 (.idx (.var 1) (.int 1))) .emp [6]) .nil)) (.var 0)) (.nm 5) (.r1 (.idx (.var 2) (.int 1))) .emp [5]) .nil)))
    (.del 4 .nil))
def d_law_product : Df := ⟨7, 3, (.cons (.asg 3 (.lst .nil))
    (.cons (.for_ (.nm 4) (.ex (.idx (.var 1) (.int 2))) b_law_product_0)
    (.cons (.ret (.tup (.cons (.idx (.var 1) (.int 0)) (.cons (.idx (.var 2) (.int 1)) (.cons (.bi .tup (.cons (.var 3) .nil)) .nil)))))
    .nil)))⟩
def s_law_product : List PyData → Option RV := runD (tabC [] []) d_law_product
end Mn

namespace Mn
open PySem PySem.Spec PyProof.Rows
open L2 (atI ixN cutS)
def b_law_drawn_0 : Sms := (.cons (.ret (.call 1 (.cons (.var 0) (.cons (.int 4) (.cons (.var 1) (.cons (.var 2) (.cons (.var 3) .nil)))))))
    .nil)
def d_law_drawn : Df := ⟨5, 2, (.cons (.asg 2 (.bin .mod (.call 0 (.cons (.var 0) (.cons (.int 1) .nil))) (.int 7)))
    (.cons (.asg 3 (.bin .mod (.call 0 (.cons (.var 0) (.cons (.int 2) .nil))) (.int 7)))
    (.cons (.ifs (.cmp .eq (.bin .mod (.call 0 (.cons (.var 0) (.cons (.int 3) .nil))) (.int 2)) (.int 0)) b_law_drawn_0 .nil)
    (.cons (.asg 4 (.bin .mod (.bin .fdiv (.call 0 (.cons (.var 0) (.cons (.int 3) .nil))) (.int 2)) (.int 4)))
    (.cons (.ret (.call 2 (.cons (.var 1) (.cons (.call 1 (.cons (.var 0) (.cons (.int 4) (.cons (.var 1) (.cons (.var 2) (.cons (.var 4) .nil)))))) (.cons (.call 1 (.cons (.var 0) (.cons (.int 30) (.cons (.var 1) (.cons (.var 4) (.cons (.var 3) .nil)))))) .nil)))))
    .nil)))))⟩
def s_law_drawn : List PyData → Option RV := runD (tabC [s_law_mix, s_law_table, s_law_product] []) d_law_drawn
end Mn

namespace Mn
open PySem PySem.Spec PyProof.Rows
open L2 (atI ixN cutS)
def d_law_led : Df := ⟨6, 3, (.cons (.ret (.bi .tup (.cons (.comp (.bin .mod (.bi .sum (.cons (.comp (.bin .mul (.var 4) (.var 5)) (.tp [4, 5]) (.zip (.var 3) (.var 2)) .emp [4, 5]) .nil)) (.var 0)) (.nm 3) (.ex (.idx (.var 1) (.int 2))) .emp [3]) .nil)))
    .nil)⟩
def s_law_led : List PyData → Option RV := runD (tabC [] []) d_law_led
end Mn

namespace Mn
open PySem PySem.Spec PyProof.Rows
open L2 (atI ixN cutS)
def b_law_base_0 : Sms := (.cons (.asg 9 (.idx (.var 8) (.var 7)))
    (.cons (.app 11 (.tup (.cons (.var 12) (.cons (.comp (.bin .mod (.bin .sub (.var 14) (.bin .mul (.var 9) (.var 15))) (.var 0)) (.tp [14, 15]) (.zip (.var 8) (.var 5)) .emp [14, 15]) .nil))))
    (.del 8 (.del 9 (.del 12 .nil)))))
def b_law_base_1 : Sms := (.cons (.asg 7 (.idx (.var 6) (.int 0)))
    (.cons (.asg 10 (.idx (.comp (.var 16) (.nm 16) (.r2 (.int 1) (.var 0)) (.one (.cmp .eq (.bin .mod (.bin .mul (.var 16) (.idx (.var 5) (.var 7))) (.var 0)) (.int 1))) [16]) (.int 0)))
    (.cons (.asg 5 (.comp (.bin .mod (.bin .mul (.var 10) (.var 13)) (.var 0)) (.nm 13) (.ex (.var 5)) .emp [13]))
    (.cons (.asg 11 (.lst .nil))
    (.del 6 (.del 10 (.cons (.for_ (.tp [12, 8]) (.ex (.var 3)) b_law_base_0)
    (.frz 5 (.cons (.asg 3 (.bi .sorted (.cons (.bin .add (.var 11) (.lst (.cons (.tup (.cons (.var 7) (.cons (.var 5) .nil))) .nil))) .nil)))
    (.frz 3 (.del 5 (.del 7 (.del 11 .nil)))))))))))))
def b_law_base_2 : Sms := (.del 5 (.del 6 .nil))
def b_law_base_3 : Sms := (.cons (.asg 9 (.idx (.var 5) (.var 7)))
    (.cons (.asg 5 (.comp (.bin .mod (.bin .sub (.var 14) (.bin .mul (.var 9) (.var 15))) (.var 0)) (.tp [14, 15]) (.zip (.var 5) (.var 8)) .emp [14, 15]))
    (.del 7 (.del 8 (.del 9 .nil)))))
def b_law_base_4 : Sms := (.cons (.asg 5 (.bi .list (.cons (.var 4) .nil)))
    (.del 4 (.cons (.for_ (.tp [7, 8]) (.ex (.var 3)) b_law_base_3)
    (.cons (.asg 6 (.comp (.var 12) (.nm 12) (.r1 (.var 1)) (.one (.cmp .ne (.idx (.var 5) (.var 12)) (.int 0))) [12]))
    (.cons (.ifs (.cmp .gt (.bi .len (.cons (.var 6) .nil)) (.int 0)) b_law_base_1 b_law_base_2)
    .nil)))))
def d_law_base : Df := ⟨17, 3, (.cons (.asg 3 (.lst .nil))
    (.frz 3 (.cons (.for_ (.nm 4) (.ex (.var 2)) b_law_base_4)
    (.cons (.ret (.comp (.bi .tup (.cons (.var 5) .nil)) (.tp [7, 5]) (.ex (.var 3)) .emp [7, 5]))
    .nil))))⟩
def s_law_base : List PyData → Option RV := runD (tabC [] []) d_law_base
end Mn

namespace Mn
open PySem PySem.Spec PyProof.Rows
open L2 (atI ixN cutS)
def d_law_whole : Df := ⟨1, 1, (.cons (.ret (.and (.bi (.isI .int) (.cons (.var 0) .nil)) (.one (.not (.bi (.isI .bool) (.cons (.var 0) .nil))))))
    .nil)⟩
def s_law_whole : List PyData → Option RV := runD (tabC [] []) d_law_whole
end Mn

namespace Mn
open PySem PySem.Spec PyProof.Rows
open L2 (atI ixN cutS)
def b_law_rests_0 : Sms := (.cons (.ret (.bl false))
    .nil)
def d_law_rests : Df := ⟨3, 2, (.cons (.ifs (.or (.not (.bi (.isI .tuple) (.cons (.var 0) .nil))) (.one (.cmp .ne (.bi .len (.cons (.var 0) .nil)) (.bi .len (.cons (.var 1) .nil))))) b_law_rests_0 .nil)
    (.cons (.ret (.and (.bi .all (.cons (.comp (.call 0 (.cons (.var 2) .nil)) (.nm 2) (.ex (.var 0)) .emp [2]) .nil)) (.one (.cmp .eq (.var 0) (.var 1)))))
    .nil))⟩
def s_law_rests : List PyData → Option RV := runD (tabC [s_law_whole] []) d_law_rests
end Mn

namespace Mn
open PySem PySem.Spec PyProof.Rows
open L2 (atI ixN cutS)
def b_law_right_v2_0 : Sms := (.cons (.ret (.bl false))
    .nil)
def b_law_right_v2_1 : Sms := (.cons (.ret (.bl false))
    .nil)
def b_law_right_v2_2 : Sms := (.cons (.ret (.cmp .isN (.var 3) .non))
    .nil)
def d_law_right_v2 : Df := ⟨9, 4, (.cons (.asg 4 (.comp (.bi .tup (.cons (.comp (.idx (.var 6) (.var 5)) (.nm 6) (.ex (.idx (.var 1) (.int 2))) .emp [6]) .nil)) (.nm 5) (.r1 (.idx (.var 1) (.int 1))) .emp [5]))
    (.frz 4 (.cons (.ifs (.cmp .gt (.bi .len (.cons (.call 0 (.cons (.var 0) (.cons (.idx (.var 1) (.int 0)) (.cons (.bin .add (.var 4) (.lst (.cons (.var 2) .nil))) .nil)))) .nil)) (.bi .len (.cons (.call 0 (.cons (.var 0) (.cons (.idx (.var 1) (.int 0)) (.cons (.var 4) .nil)))) .nil))) b_law_right_v2_2 .nil)
    (.cons (.ifs (.or (.cmp .isN (.var 3) .non) (.or (.not (.call 1 (.cons (.var 3) (.cons (.var 3) .nil)))) (.one (.cmp .ne (.bi .len (.cons (.var 3) .nil)) (.idx (.var 1) (.int 1)))))) b_law_right_v2_1 .nil)
    (.cons (.ifs (.or (.not (.bi .all (.cons (.comp (.chn .le .lt (.int 0) (.var 7) (.var 0)) (.nm 7) (.ex (.var 3)) .emp [7]) .nil))) (.one (.cmp .ne (.call 2 (.cons (.var 0) (.cons (.var 1) (.cons (.var 3) .nil)))) (.var 2)))) b_law_right_v2_0 .nil)
    (.cons (.asg 8 (.comp (.mt .index (.var 6) (.cons (.int 1) .nil)) (.nm 6) (.ex (.call 0 (.cons (.var 0) (.cons (.idx (.var 1) (.int 1)) (.cons (.idx (.var 1) (.int 2)) .nil))))) .emp [6]))
    (.cons (.ret (.bi .all (.cons (.comp (.or (.cmp .eq (.idx (.var 3) (.var 5)) (.int 0)) (.one (.cmp .inn (.var 5) (.var 8)))) (.nm 5) (.r1 (.idx (.var 1) (.int 1))) .emp [5]) .nil)))
    .nil)))))))⟩
def s_law_right_v2 : List PyData → Option RV := runD (tabC [s_law_base, s_law_rests, s_law_led] []) d_law_right_v2
end Mn

namespace Mn
open PySem PySem.Spec PyProof.Rows
open L2 (atI ixN cutS)
def b_first_with_0 : Sms := (.cons (.ret (.var 2))
    .nil)
def b_first_with_1 : Sms := (.cons (.ifs (.cmp .ne (.idx (.var 3) (.var 1)) (.int 0)) b_first_with_0 .nil)
    (.del 2 (.del 3 .nil)))
def d_first_with : Df := ⟨4, 2, (.cons (.for_ (.tp [2, 3]) (.en (.var 0)) b_first_with_1)
    (.cons (.ret .non)
    .nil))⟩
def s_first_with : List PyData → Option RV := runD (tabC [] []) d_first_with
end Mn

namespace Mn
open PySem PySem.Spec PyProof.Rows
open L2 (atI ixN cutS)
def b_inverse_0 : Sms := (.cons (.ret (.var 2))
    .nil)
def b_inverse_1 : Sms := (.cons (.ifs (.cmp .eq (.bin .mod (.bin .mul (.var 2) (.var 1)) (.var 0)) (.int 1)) b_inverse_0 .nil)
    (.del 2 .nil))
def d_inverse : Df := ⟨3, 2, (.cons (.for_ (.nm 2) (.r2 (.int 1) (.var 0)) b_inverse_1)
    (.cons .nev
    .nil))⟩
def s_inverse : List PyData → Option RV := runD (tabC [] []) d_inverse
end Mn

namespace Mn
open PySem PySem.Spec PyProof.Rows
open L2 (atI ixN cutS)
def d_less : Df := ⟨6, 4, (.cons (.ret (.comp (.bin .mod (.bin .sub (.var 4) (.bin .mul (.var 3) (.var 5))) (.var 0)) (.tp [4, 5]) (.zip (.var 1) (.var 2)) .emp [4, 5]))
    .nil)⟩
def s_less : List PyData → Option RV := runD (tabC [] []) d_less
end Mn

namespace Mn
open PySem PySem.Spec PyProof.Rows
open L2 (atI ixN cutS)
def b_base_of_0 : Sms := (.cons (.pop 8 3 (.var 7))
    (.cons (.asg 9 (.call 1 (.cons (.var 0) (.cons (.idx (.var 8) (.var 6)) .nil))))
    (.cons (.asg 8 (.comp (.bin .mod (.bin .mul (.var 9) (.var 10)) (.var 0)) (.nm 10) (.ex (.var 8)) .emp [10]))
    (.frz 8 (.cons (.asg 3 (.comp (.call 2 (.cons (.var 0) (.cons (.var 11) (.cons (.var 8) (.cons (.idx (.var 11) (.var 6)) .nil))))) (.nm 11) (.ex (.var 3)) .emp [11]))
    (.cons (.asg 5 (.bin .add (.comp (.call 2 (.cons (.var 0) (.cons (.var 11) (.cons (.var 8) (.cons (.idx (.var 11) (.var 6)) .nil))))) (.nm 11) (.ex (.var 5)) .emp [11]) (.lst (.cons (.var 8) .nil))))
    (.del 6 (.del 7 (.del 8 (.del 9 .nil))))))))))
def b_base_of_1 : Sms := (.del 6 (.del 7 .nil))
def b_base_of_2 : Sms := (.cons (.asg 7 (.call 0 (.cons (.var 3) (.cons (.var 6) .nil))))
    (.cons (.ifs (.cmp .noN (.var 7) .non) b_base_of_0 b_base_of_1)
    .nil))
def d_base_of : Df := ⟨12, 3, (.cons (.asg 3 (.comp (.bi .list (.cons (.var 4) .nil)) (.nm 4) (.ex (.var 2)) .emp [4]))
    (.cons (.asg 5 (.lst .nil))
    (.del 2 (.cons (.for_ (.nm 6) (.r1 (.var 1)) b_base_of_2)
    (.cons (.ret (.comp (.bi .tup (.cons (.var 11) .nil)) (.nm 11) (.ex (.var 5)) .emp [11]))
    .nil)))))⟩
def s_base_of : List PyData → Option RV := runD (tabC [s_first_with, s_inverse, s_less] []) d_base_of
end Mn

namespace Mn
open PySem PySem.Spec PyProof.Rows
open L2 (atI ixN cutS)
def b_lead_of_0 : Sms := (.cons (.ret (.var 1))
    .nil)
def b_lead_of_1 : Sms := (.cons (.ifs (.cmp .ne (.var 2) (.int 0)) b_lead_of_0 .nil)
    (.del 1 (.del 2 .nil)))
def d_lead_of : Df := ⟨3, 1, (.cons (.for_ (.tp [1, 2]) (.en (.var 0)) b_lead_of_1)
    (.cons (.ret (.bi .len (.cons (.var 0) .nil)))
    .nil))⟩
def s_lead_of : List PyData → Option RV := runD (tabC [] []) d_lead_of
end Mn

namespace Mn
open PySem PySem.Spec PyProof.Rows
open L2 (atI ixN cutS)
def b_solved_0 : Sms := (.cons (.ret .non)
    .nil)
def b_solved_1 : Sms := (.cons (.asg 9 (.call 1 (.cons (.var 5) .nil)))
    (.cons (.ifs (.cmp .eq (.var 9) (.var 3)) b_solved_0 .nil)
    (.cons (.sti 7 (.var 9) (.idx (.var 5) (.var 3)))
    (.del 5 (.del 9 .nil)))))
def d_solved : Df := ⟨10, 3, (.cons (.asg 3 (.idx (.var 1) (.int 1)))
    (.cons (.asg 4 (.comp (.bin .add (.var 5) (.tup (.cons (.var 6) .nil))) (.tp [5, 6]) (.zip (.idx (.var 1) (.int 2)) (.var 2)) .emp [5, 6]))
    (.cons (.asg 7 (.comp (.int 0) (.nm 8) (.r1 (.var 3)) .emp [8]))
    (.frz 4 (.del 1 (.del 2 (.cons (.for_ (.nm 5) (.ex (.call 0 (.cons (.var 0) (.cons (.bin .add (.var 3) (.int 1)) (.cons (.var 4) .nil))))) b_solved_1)
    (.cons (.ret (.bi .tup (.cons (.var 7) .nil)))
    .nil))))))))⟩
def s_solved : List PyData → Option RV := runD (tabC [s_base_of, s_lead_of] []) d_solved
end Mn

namespace Mn
open PySem PySem.Spec PyProof.Rows
open L2 (atI ixN cutS)
def b_law_k08_0 : Sms := (.cons (.ret (.bl false))
    .nil)
def b_law_k08_1 : Sms := (.cons (.ifs (.not (.call 3 (.cons (.var 1) (.cons (.var 2) (.cons (.var 5) (.cons (.call 4 (.cons (.var 1) (.cons (.var 2) (.cons (.var 5) .nil)))) .nil)))))) b_law_k08_0 .nil)
    (.del 5 .nil))
def b_law_k08_2 : Sms := (.cons (.asg 3 (.call 2 (.cons (.var 1) (.cons (.var 2) (.cons (.comp (.bin .mod (.call 0 (.cons (.var 0) (.cons (.bin .add (.int 70) (.var 4)) .nil))) (.var 1)) (.nm 4) (.r1 (.idx (.var 2) (.int 1))) .emp [4]) .nil)))))
    (.del 0 .nil))
def b_law_k08_3 : Sms := (.del 0 .nil)
def d_law_k08 : Df := ⟨7, 1, (.cons (.asg 1 (.idx (.lst (.cons (.int 2) (.cons (.int 3) (.cons (.int 5) (.cons (.int 7) .nil))))) (.bin .mod (.call 0 (.cons (.var 0) (.cons (.int 0) .nil))) (.int 4))))
    (.cons (.asg 2 (.call 1 (.cons (.var 0) (.cons (.var 1) .nil))))
    (.cons (.asg 3 (.bi .tup (.cons (.comp (.bin .mod (.call 0 (.cons (.var 0) (.cons (.bin .add (.int 60) (.var 4)) .nil))) (.var 1)) (.nm 4) (.r1 (.idx (.var 2) (.int 0))) .emp [4]) .nil)))
    (.cons (.ifs (.cmp .gt (.bin .mod (.call 0 (.cons (.var 0) (.cons (.int 59) .nil))) (.int 3)) (.int 0)) b_law_k08_2 b_law_k08_3)
    (.cons (.for_ (.nm 5) (.ex (.lst (.cons (.var 3) (.cons (.bi .tup (.cons (.comp (.int 0) (.nm 6) (.ex (.var 3)) .emp [6]) .nil)) (.cons (.var 3) .nil))))) b_law_k08_1)
    (.cons (.ret (.bl true))
    .nil))))))⟩
def s_law_k08 : List PyData → Option RV := runD (tabC [s_law_mix, s_law_drawn, s_law_led, s_law_right_v2, s_solved] []) d_law_k08
end Mn

namespace Lk08
open PySem PySem.Spec PyProof.Rows L2 Mn
abbrev topS (i : Nat) : Stmt := PySem.Challenge.pw_barsplit_k08_solved.main.body.getD i (.Pass ⟨0, 0, 0, 0⟩)
abbrev t__law_mix : Stmt := topS 12
theorem c__law_mix : chkD [] [] ["_law_script", "_law_k", "_law_cell", "_law_digits", "_law_turn"] ["_law_script", "_law_k"] d_law_mix t__law_mix = true := by decide +kernel
abbrev t__law_table : Stmt := topS 15
theorem c__law_table : chkD ["_law_mix"] [] ["_law_script", "_law_at", "_law_p", "_law_high", "_law_wide", "_law_rows", "_law_i", "_law_row", "_law_j", "_law_cell"] ["_law_script", "_law_at", "_law_p", "_law_high", "_law_wide"] d_law_table t__law_table = true := by decide +kernel
abbrev t__law_product : Stmt := topS 16
theorem c__law_product : chkD [] [] ["_law_p", "_law_one", "_law_other", "_law_rows", "_law_row", "_law_j", "_law_k"] ["_law_p", "_law_one", "_law_other"] d_law_product t__law_product = true := by decide +kernel
abbrev t__law_drawn : Stmt := topS 19
theorem c__law_drawn : chkD ["_law_mix", "_law_table", "_law_product"] [] ["_law_script", "_law_p", "_law_high", "_law_wide", "_law_between"] ["_law_script", "_law_p"] d_law_drawn t__law_drawn = true := by decide +kernel
abbrev t__law_led : Stmt := topS 17
theorem c__law_led : chkD [] [] ["_law_p", "_law_table_here", "_law_load", "_law_row", "_law_one", "_law_other"] ["_law_p", "_law_table_here", "_law_load"] d_law_led t__law_led = true := by decide +kernel
abbrev t__law_base : Stmt := topS 18
theorem c__law_base : chkD [] [] ["_law_p", "_law_long", "_law_loads", "_law_base_here", "_law_load", "_law_row", "_law_leads", "_law_lead", "_law_other", "_law_times", "_law_over", "_law_stay", "_law_place", "_law_number", "_law_one", "_law_two", "_law_k"] ["_law_p", "_law_long", "_law_loads"] d_law_base t__law_base = true := by decide +kernel
abbrev t__law_whole : Stmt := topS 13
theorem c__law_whole : chkD [] [] ["_law_found"] ["_law_found"] d_law_whole t__law_whole = true := by decide +kernel
abbrev t__law_rests : Stmt := topS 14
theorem c__law_rests : chkD ["_law_whole"] [] ["_law_found", "_law_due", "_law_one"] ["_law_found", "_law_due"] d_law_rests t__law_rests = true := by decide +kernel
abbrev t__law_right : Stmt := topS 20
theorem c__law_right : chkD ["_law_base", "_law_rests", "_law_led"] [] ["_law_p", "_law_table_here", "_law_load", "_law_found", "_law_uprights", "_law_j", "_law_row", "_law_number", "_law_leads"] ["_law_p", "_law_table_here", "_law_load", "_law_found"] d_law_right_v2 t__law_right = true := by decide +kernel
abbrev t_first_with : Stmt := topS 7
theorem c_first_with : chkD [] [] ["rows", "place", "k", "row"] ["rows", "place"] d_first_with t_first_with = true := by decide +kernel
abbrev t_inverse : Stmt := topS 4
theorem c_inverse : chkD [] [] ["p", "x", "other"] ["p", "x"] d_inverse t_inverse = true := by decide +kernel
abbrev t_less : Stmt := topS 6
theorem c_less : chkD [] [] ["p", "row", "other", "times", "one", "two"] ["p", "row", "other", "times"] d_less t_less = true := by decide +kernel
abbrev t_base_of : Stmt := topS 8
theorem c_base_of : chkD ["first_with", "inverse", "less"] [] ["p", "long", "loads", "rows", "load", "base", "place", "k", "chosen", "over", "number", "row"] ["p", "long", "loads"] d_base_of t_base_of = true := by decide +kernel
abbrev t_lead_of : Stmt := topS 9
theorem c_lead_of : chkD [] [] ["load", "place", "number"] ["load"] d_lead_of t_lead_of = true := by decide +kernel
abbrev t_solved : Stmt := topS 10
theorem c_solved : chkD ["base_of", "lead_of"] [] ["p", "table", "load", "wide", "longer", "row", "number", "found", "j", "lead"] ["p", "table", "load"] d_solved t_solved = true := by decide +kernel
abbrev t_law : Stmt := topS 21
theorem c_law : chkD ["_law_mix", "_law_drawn", "_law_led", "_law_right", "solved"] [] ["_law_script", "_law_p", "_law_table_here", "_law_load", "_law_j", "_law_some", "_law_number"] ["_law_script"] d_law_k08 t_law = true := by decide +kernel
end Lk08

namespace Mn
open PySem PySem.Spec PyProof.Rows
open L2 (atI ixN cutS)
def F_law_mix (v_script : List Int) (v_k : Int) : Option (Int) :=
  if (decide ((v_script.length : Int) = (0 : Int))) = true then
  ((mulG v_k v_k).bind fun (t1 : Int) =>
  (mulG t1 ((7919 : Int))).bind fun (t2 : Int) =>
  (mulG (t2 + ((11 : Int))) ((48271 : Int))).bind fun (t3 : Int) =>
  (modG t3 ((2147483647 : Int))).bind fun (t4 : Int) =>
  (mulG t4 ((69621 : Int))).bind fun (t5 : Int) =>
  modG t5 ((1000000007 : Int)))
  else
  ((modG v_k ((v_script.length : Int))).bind fun (t7 : Int) =>
  (atI v_script t7).bind fun (v_cell_9 : Int) =>
  (if (decide ((1 : Int) < (v_script.length : Int))) = true then ((atI v_script ((0 : Int))).bind fun (t10 : Int) => (modG t10 ((2 : Int))).bind fun (t11 : Int) => some (decide (t11 = (1 : Int)))) else some false).bind fun (t12 : Bool) =>
  if t12 = true then
  ((modG v_k (((v_script.length : Int)) - ((1 : Int)))).bind fun (t13 : Int) =>
  (atI v_script (((1 : Int)) + t13)).bind fun (v_digits_15 : Int) =>
  (fdivG v_k (((v_script.length : Int)) - ((1 : Int)))).bind fun (t17 : Int) =>
  (rng1 t17).bind fun (r18 : List Int) =>
  (foldO (fun (x19 : Int) (s16 : Int) =>
  (powG ((10 : Int)) ((9 : Int))).bind fun (t20 : Int) =>
  (fdivG s16 t20).bind fun (v_digits_22 : Int) =>
  some v_digits_22) r18 v_digits_15).bind fun (s16 : Int) =>
  (powG ((10 : Int)) ((9 : Int))).bind fun (t23 : Int) =>
  modG s16 t23)
  else
  ((powG ((10 : Int)) ((30 : Int))).bind fun (t25 : Int) =>
  (modG v_cell_9 t25).bind fun (t26 : Int) =>
  (mulG t26 ((48271 : Int))).bind fun (t27 : Int) =>
  (mulG v_k v_k).bind fun (t28 : Int) =>
  (mulG t28 ((7919 : Int))).bind fun (t29 : Int) =>
  (modG ((t27 + t29) + ((11 : Int))) ((2147483647 : Int))).bind fun (t30 : Int) =>
  (mulG t30 ((69621 : Int))).bind fun (t31 : Int) =>
  modG t31 ((1000000007 : Int))))
end Mn

namespace Mn
open PySem PySem.Spec PyProof.Rows
open L2 (atI ixN cutS)
def F_law_product (v_p : Int) (v_one : Int × Int × List (List Int)) (v_other : Int × Int × List (List Int)) : Option (Int × Int × List (List Int)) :=
  (some (([] : List (List Int)))).bind fun (v_rows_1 : List (List Int)) =>
  (foldO (fun (x3 : List Int) (s2 : List (List Int)) =>
  (rng1 v_other.2.1).bind fun (r5 : List Int) =>
  (mapG r5 fun (y6 : Int) => ((rng1 v_one.2.1).bind fun (r7 : List Int) => (mapG r7 fun (y8 : Int) => ((atI x3 y8).bind fun (t9 : Int) => (atI v_other.2.2 y8).bind fun (t10 : List Int) => (atI t10 y6).bind fun (t11 : Int) => mulG t9 t11)).bind fun (t13 : List Int) => modG t13.sum v_p)).bind fun (t15 : List Int) =>
  (appG s2 t15).bind fun (v_rows_4 : List (List Int)) =>
  some v_rows_4) v_one.2.2 v_rows_1).bind fun (s2 : List (List Int)) =>
  some ((v_one.1, v_other.2.1, s2))
end Mn

namespace Mn
open PySem PySem.Spec PyProof.Rows
open L2 (atI ixN cutS)
def F_law_table (v_script : List Int) (v_at : Int) (v_p : Int) (v_high : Int) (v_wide : Int) : Option (Int × Int × List (List Int)) :=
  (some (([] : List (List Int)))).bind fun (v_rows_1 : List (List Int)) =>
  (rng1 v_high).bind fun (r3 : List Int) =>
  (foldO (fun (x4 : Int) (s2 : List (List Int)) =>
  (some (([] : List (Int)))).bind fun (v_row_5 : List Int) =>
  (rng1 v_wide).bind fun (r7 : List Int) =>
  (foldO (fun (x8 : Int) (s6 : List Int) =>
  (mulG x4 v_wide).bind fun (t9 : Int) =>
  (F_law_mix v_script ((v_at + t9) + x8)).bind fun (v_cell_11 : Int) =>
  (modG v_cell_11 v_p).bind fun (t13 : Int) =>
  (fdivG v_cell_11 ((7 : Int))).bind fun (t14 : Int) =>
  (modG t14 ((3 : Int))).bind fun (t15 : Int) =>
  (mulG t13 ((if (decide ((0 : Int) < t15)) = true then (1 : Int) else 0))).bind fun (t16 : Int) =>
  (appG s6 t16).bind fun (v_row_12 : List Int) =>
  some v_row_12) r7 v_row_5).bind fun (s6 : List Int) =>
  (appG s2 s6).bind fun (v_rows_17 : List (List Int)) =>
  some v_rows_17) r3 v_rows_1).bind fun (s2 : List (List Int)) =>
  some ((v_high, v_wide, s2))
end Mn

namespace Mn
open PySem PySem.Spec PyProof.Rows
open L2 (atI ixN cutS)
def F_law_drawn (v_script : List Int) (v_p : Int) : Option (Int × Int × List (List Int)) :=
  (F_law_mix v_script ((1 : Int))).bind fun (t1 : Int) =>
  (modG t1 ((7 : Int))).bind fun (v_high_3 : Int) =>
  (F_law_mix v_script ((2 : Int))).bind fun (t4 : Int) =>
  (modG t4 ((7 : Int))).bind fun (v_wide_6 : Int) =>
  (F_law_mix v_script ((3 : Int))).bind fun (t7 : Int) =>
  (modG t7 ((2 : Int))).bind fun (t8 : Int) =>
  if (decide (t8 = (0 : Int))) = true then
  (F_law_table v_script ((4 : Int)) v_p v_high_3 v_wide_6)
  else
  ((F_law_mix v_script ((3 : Int))).bind fun (t10 : Int) =>
  (fdivG t10 ((2 : Int))).bind fun (t11 : Int) =>
  (modG t11 ((4 : Int))).bind fun (v_between_13 : Int) =>
  (F_law_table v_script ((4 : Int)) v_p v_high_3 v_between_13).bind fun (t14 : Int × Int × List (List Int)) =>
  (F_law_table v_script ((30 : Int)) v_p v_between_13 v_wide_6).bind fun (t15 : Int × Int × List (List Int)) =>
  F_law_product v_p t14 t15)
end Mn

namespace Mn
open PySem PySem.Spec PyProof.Rows
open L2 (atI ixN cutS)
def F_law_led (v_p : Int) (v_table_here : Int × Int × List (List Int)) (v_load : List Int) : Option (List Int) :=
  (mapG v_table_here.2.2 fun (y1 : List Int) => ((mapG (List.zip y1 v_load) fun (y2 : Int × Int) => mulG y2.1 y2.2).bind fun (t4 : List Int) => modG t4.sum v_p)).bind fun (t6 : List Int) =>
  some t6
end Mn

namespace Mn
open PySem PySem.Spec PyProof.Rows
open L2 (atI ixN cutS)
def F_law_base (v_p : Int) (v_long : Int) (v_loads : List (List Int)) : Option (List (List Int)) :=
  (some (([] : List (Int × List Int)))).bind fun (v_base_here_1 : List (Int × List Int)) =>
  (foldO (fun (x3 : List Int) (s2 : List (Int × List Int)) =>
  (some x3).bind fun (v_row_4 : List Int) =>
  (foldO (fun (x6 : Int × List Int) (s5 : List Int) =>
  (atI s5 x6.1).bind fun (v_times_8 : Int) =>
  (mapG (List.zip s5 x6.2) fun (y9 : Int × Int) => ((mulG v_times_8 y9.2).bind fun (t10 : Int) => modG (y9.1 - t10) v_p)).bind fun (v_row_13 : List Int) =>
  some v_row_13) s2 v_row_4).bind fun (s5 : List Int) =>
  (rng1 v_long).bind fun (r14 : List Int) =>
  (filG r14 fun (y15 : Int) => filB (((atI s5 y15).bind fun (t16 : Int) => some (!decide (t16 = (0 : Int))))) (some y15)).bind fun (v_leads_18 : List Int) =>
  if (decide ((0 : Int) < (v_leads_18.length : Int))) = true then
  ((atI v_leads_18 ((0 : Int))).bind fun (v_lead_20 : Int) =>
  (rng2 ((1 : Int)) v_p).bind fun (r21 : List Int) =>
  (filG r21 fun (y22 : Int) => filB (((atI s5 v_lead_20).bind fun (t23 : Int) => (mulG y22 t23).bind fun (t24 : Int) => (modG t24 v_p).bind fun (t25 : Int) => some (decide (t25 = (1 : Int))))) (some y22)).bind fun (t26 : List Int) =>
  (atI t26 ((0 : Int))).bind fun (v_over_28 : Int) =>
  (mapG s5 fun (y29 : Int) => ((mulG v_over_28 y29).bind fun (t30 : Int) => modG t30 v_p)).bind fun (v_row_33 : List Int) =>
  (some (([] : List (Int × List Int)))).bind fun (v_stay_34 : List (Int × List Int)) =>
  (foldO (fun (x36 : Int × List Int) (s35 : List (Int × List Int)) =>
  (atI x36.2 v_lead_20).bind fun (v_times_38 : Int) =>
  (mapG (List.zip x36.2 v_row_33) fun (y40 : Int × Int) => ((mulG v_times_38 y40.2).bind fun (t41 : Int) => modG (y40.1 - t41) v_p)).bind fun (t43 : List Int) =>
  (appG s35 ((x36.1, t43))).bind fun (v_stay_39 : List (Int × List Int)) =>
  some v_stay_39) s2 v_stay_34).bind fun (s35 : List (Int × List Int)) =>
  (catG s35 ([(v_lead_20, v_row_33)])).bind fun (t44 : List (Int × List Int)) =>
  (sortK t44).bind fun (v_base_here_46 : List (Int × List Int)) =>
  some v_base_here_46)
  else
  (some s2)) v_loads v_base_here_1).bind fun (s2 : List (Int × List Int)) =>
  mapG s2 fun (y47 : Int × List Int) => some y47.2
end Mn

namespace Mn
open PySem PySem.Spec PyProof.Rows
open L2 (atI ixN cutS)
def F_law_led_v2 (v_p : Int) (v_table_here : Int × Int × List (List Int)) (v_load : Option (List Int)) : Option (List Int) :=
  (mapG v_table_here.2.2 fun (y1 : List Int) => ((v_load).bind fun (u2 : List Int) => (mapG (List.zip y1 u2) fun (y3 : Int × Int) => mulG y3.1 y3.2).bind fun (t5 : List Int) => modG t5.sum v_p)).bind fun (t7 : List Int) =>
  some t7
end Mn

namespace Mn
open PySem PySem.Spec PyProof.Rows
open L2 (atI ixN cutS)
def F_law_whole (v_found : Int) : Option (Bool) :=
  some ((true && (!false)))
end Mn

namespace Mn
open PySem PySem.Spec PyProof.Rows
open L2 (atI ixN cutS)
def F_law_rests_v2 (v_found : Option (List Int)) (v_due : Option (List Int)) : Option (Bool) :=
  (if (!v_found.isSome) = true then some true else ((v_found).bind fun (u1 : List Int) => (v_due).bind fun (u2 : List Int) => some (!decide ((u1.length : Int) = (u2.length : Int))))).bind fun (t3 : Bool) =>
  if t3 = true then
  (some false)
  else
  ((v_found).bind fun (u4 : List Int) =>
  (mapG u4 fun (y5 : Int) => F_law_whole y5).bind fun (t7 : List Bool) =>
  some (((t7.all id) && (decide (v_found = v_due)))))
end Mn

namespace Mn
open PySem PySem.Spec PyProof.Rows
open L2 (atI ixN cutS)
def F_law_right_v2 (v_p : Int) (v_table_here : Int × Int × List (List Int)) (v_load : List Int) (v_found : Option (List Int)) : Option (Bool) :=
  (rng1 v_table_here.2.1).bind fun (r1 : List Int) =>
  (mapG r1 fun (y2 : Int) => ((mapG v_table_here.2.2 fun (y3 : List Int) => atI y3 y2).bind fun (t5 : List Int) => some t5)).bind fun (v_uprights_7 : List (List Int)) =>
  (catG v_uprights_7 ([v_load])).bind fun (t8 : List (List Int)) =>
  (F_law_base v_p v_table_here.1 t8).bind fun (t9 : List (List Int)) =>
  (F_law_base v_p v_table_here.1 v_uprights_7).bind fun (t10 : List (List Int)) =>
  if (decide ((t10.length : Int) < (t9.length : Int))) = true then
  (some v_found.isNone)
  else
  ((if v_found.isNone = true then some true else ((F_law_rests_v2 v_found v_found).bind fun (t11 : Bool) => if (!t11) = true then some true else ((v_found).bind fun (u12 : List Int) => some (!decide ((u12.length : Int) = v_table_here.2.1))))).bind fun (t14 : Bool) =>
  if t14 = true then
  (some false)
  else
  ((v_found).bind fun (u15 : List Int) =>
  (mapG u15 fun (y16 : Int) => some ((coI .le ((0 : Int)) y16 && coI .lt y16 v_p))).bind fun (t17 : List Bool) =>
  (if (!(t17.all id)) = true then some true else ((F_law_led_v2 v_p v_table_here v_found).bind fun (t18 : List Int) => some (!decide (t18 = v_load)))).bind fun (t19 : Bool) =>
  if t19 = true then
  (some false)
  else
  ((F_law_base v_p v_table_here.2.1 v_table_here.2.2).bind fun (t20 : List (List Int)) =>
  (mapG t20 fun (y21 : List Int) => indexG y21 ((1 : Int))).bind fun (v_leads_24 : List Int) =>
  (rng1 v_table_here.2.1).bind fun (r25 : List Int) =>
  (mapG r25 fun (y26 : Int) => ((v_found).bind fun (u27 : List Int) => (atI u27 y26).bind fun (t28 : Int) => some (((decide (t28 = (0 : Int))) || (decide (y26 ∈ v_leads_24)))))).bind fun (t29 : List Bool) =>
  some (t29.all id))))
end Mn

namespace Mn
open PySem PySem.Spec PyProof.Rows
open L2 (atI ixN cutS)
def F_first_with (v_rows : List (List Int)) (v_place : Int) : Option (Option Int) :=
  (loopO (ρ := Option Int) (fun (x2 : Int × List Int) (s1 : Unit) =>
  (atI x2.2 v_place).bind fun (t3 : Int) =>
  if (!decide (t3 = (0 : Int))) = true then
  ((some ((some x2.1))).bind fun r => some (Lp.rt r))
  else
  (some (Lp.nx (())))) (enI 0 v_rows) (())).bind (lpK (fun (s1 : Unit) => some none) fun v => some v)
end Mn

namespace Mn
open PySem PySem.Spec PyProof.Rows
open L2 (atI ixN cutS)
def F_inverse (v_p : Int) (v_x : Int) : Option (Int) :=
  (rng2 ((1 : Int)) v_p).bind fun (r2 : List Int) =>
  (loopO (ρ := Int) (fun (x3 : Int) (s1 : Unit) =>
  (mulG x3 v_x).bind fun (t4 : Int) =>
  (modG t4 v_p).bind fun (t5 : Int) =>
  if (decide (t5 = (1 : Int))) = true then
  ((some x3).bind fun r => some (Lp.rt r))
  else
  (some (Lp.nx (())))) r2 (())).bind (lpK (fun (s1 : Unit) => none) fun v => some v)
end Mn

namespace Mn
open PySem PySem.Spec PyProof.Rows
open L2 (atI ixN cutS)
def F_less (v_p : Int) (v_row : List Int) (v_other : List Int) (v_times : Int) : Option (List Int) :=
  mapG (List.zip v_row v_other) fun (y1 : Int × Int) => ((mulG v_times y1.2).bind fun (t2 : Int) => modG (y1.1 - t2) v_p)
end Mn

namespace Mn
open PySem PySem.Spec PyProof.Rows
open L2 (atI ixN cutS)
def F_base_of (v_p : Int) (v_long : Int) (v_loads : List (List Int)) : Option (List (List Int)) :=
  (mapG v_loads fun (y1 : List Int) => some y1).bind fun (v_rows_3 : List (List Int)) =>
  (some (([] : List (List Int)))).bind fun (v_base_4 : List (List Int)) =>
  (rng1 v_long).bind fun (r6 : List Int) =>
  (foldO (fun (x7 : Int) (s5 : List (List Int) × List (List Int)) =>
  (F_first_with s5.1 x7).bind fun (v_k_9 : Option Int) =>
  if v_k_9.isSome = true then
  ((v_k_9).bind fun (u10 : Int) =>
  (popG s5.1 u10).bind fun (q11 : (List (List Int)) × (List Int)) =>
  (atI q11.2 x7).bind fun (t12 : Int) =>
  (F_inverse v_p t12).bind fun (v_over_14 : Int) =>
  (mapG q11.2 fun (y15 : Int) => ((mulG v_over_14 y15).bind fun (t16 : Int) => modG t16 v_p)).bind fun (v_chosen_19 : List Int) =>
  (mapG q11.1 fun (y20 : List Int) => ((atI y20 x7).bind fun (t21 : Int) => F_less v_p y20 v_chosen_19 t21)).bind fun (v_rows_24 : List (List Int)) =>
  (mapG s5.2 fun (y25 : List Int) => ((atI y25 x7).bind fun (t26 : Int) => F_less v_p y25 v_chosen_19 t26)).bind fun (t28 : List (List Int)) =>
  (catG t28 ([v_chosen_19])).bind fun (v_base_30 : List (List Int)) =>
  some ((v_rows_24, v_base_30)))
  else
  (some ((s5.1, s5.2)))) r6 ((v_rows_3, v_base_4))).bind fun (s5 : List (List Int) × List (List Int)) =>
  mapG s5.2 fun (y31 : List Int) => some y31
end Mn

namespace Mn
open PySem PySem.Spec PyProof.Rows
open L2 (atI ixN cutS)
def F_lead_of (v_load : List Int) : Option (Int) :=
  (loopO (ρ := Int) (fun (x2 : Int × Int) (s1 : Unit) =>
  if (!decide (x2.2 = (0 : Int))) = true then
  ((some x2.1).bind fun r => some (Lp.rt r))
  else
  (some (Lp.nx (())))) (enI 0 v_load) (())).bind (lpK (fun (s1 : Unit) => some ((v_load.length : Int))) fun v => some v)
end Mn

namespace Mn
open PySem PySem.Spec PyProof.Rows
open L2 (atI ixN cutS)
def F_solved (v_p : Int) (v_table : Int × Int × List (List Int)) (v_load : List Int) : Option (Option (List Int)) :=
  (some v_table.2.1).bind fun (v_wide_1 : Int) =>
  (mapG (List.zip v_table.2.2 v_load) fun (y2 : List Int × Int) => catG y2.1 ([y2.2])).bind fun (v_longer_5 : List (List Int)) =>
  (rng1 v_wide_1).bind fun (r6 : List Int) =>
  (mapG r6 fun (y7 : Int) => some ((0 : Int))).bind fun (v_found_9 : List Int) =>
  (F_base_of v_p (v_wide_1 + ((1 : Int))) v_longer_5).bind fun (t11 : List (List Int)) =>
  (loopO (ρ := Option (List Int)) (fun (x12 : List Int) (s10 : List Int) =>
  (F_lead_of x12).bind fun (v_lead_14 : Int) =>
  if (decide (v_lead_14 = v_wide_1)) = true then
  ((some none).bind fun r => some (Lp.rt r))
  else
  ((atI x12 v_wide_1).bind fun (t15 : Int) =>
  (setG s10 v_lead_14 t15).bind fun (v_found_16 : List Int) =>
  some (Lp.nx v_found_16))) t11 v_found_9).bind (lpK (fun (s10 : List Int) => some ((some s10))) fun v => some v)
end Mn

namespace Mn
open PySem PySem.Spec PyProof.Rows
open L2 (atI ixN cutS)
def F_law_k08 (v_script : List Int) : Option (Bool) :=
  (F_law_mix v_script ((0 : Int))).bind fun (t1 : Int) =>
  (modG t1 ((4 : Int))).bind fun (t2 : Int) =>
  (atI ([(2 : Int), (3 : Int), (5 : Int), (7 : Int)]) t2).bind fun (v_p_4 : Int) =>
  (F_law_drawn v_script v_p_4).bind fun (v_table_here_6 : Int × Int × List (List Int)) =>
  (rng1 v_table_here_6.1).bind fun (r7 : List Int) =>
  (mapG r7 fun (y8 : Int) => ((F_law_mix v_script (((60 : Int)) + y8)).bind fun (t9 : Int) => modG t9 v_p_4)).bind fun (t11 : List Int) =>
  (some t11).bind fun (v_load_12 : List Int) =>
  (F_law_mix v_script ((59 : Int))).bind fun (t13 : Int) =>
  (modG t13 ((3 : Int))).bind fun (t14 : Int) =>
  (if (decide ((0 : Int) < t14)) = true then
  ((rng1 v_table_here_6.2.1).bind fun (r16 : List Int) =>
  (mapG r16 fun (y17 : Int) => ((F_law_mix v_script (((70 : Int)) + y17)).bind fun (t18 : Int) => modG t18 v_p_4)).bind fun (t20 : List Int) =>
  (F_law_led v_p_4 v_table_here_6 t20).bind fun (v_load_22 : List Int) =>
  some v_load_22)
  else
  (some v_load_12) : Option (List Int)).bind fun (s15 : List Int) =>
  (mapG s15 fun (y24 : Int) => some ((0 : Int))).bind fun (t25 : List Int) =>
  (loopO (ρ := Bool) (fun (x26 : List Int) (s23 : Unit) =>
  (F_solved v_p_4 v_table_here_6 x26).bind fun (t27 : Option (List Int)) =>
  (F_law_right_v2 v_p_4 v_table_here_6 x26 t27).bind fun (t28 : Bool) =>
  if (!t28) = true then
  ((some false).bind fun r => some (Lp.rt r))
  else
  (some (Lp.nx (())))) ([s15, t25, s15]) (())).bind (lpK (fun (s23 : Unit) => some true) fun v => some v)
end Mn

namespace Mn
open PySem PySem.Spec PyProof.Rows
open L2 (atI ixN cutS)
theorem w_law_mix (v_script : List Int) (v_k : Int) : Sim (s_law_mix [scrD v_script, PyData.int v_k]) (F_law_mix v_script v_k) (fz PyData.int) :=
  s_def (φ := (fz PyData.int)) rfl (s_if (e_eqI (e_lenZ (e_var rfl)) (e_int _))
  (sms_bx (.bin .mul (.var 1) (.var 1)) (fz PyData.int) (m_mul (e_var rfl) (e_var rfl)) fun t1 ht1 =>
  sms_bx (.bin .mul (.bin .mul (.var 1) (.var 1)) (.int 7919)) (fz PyData.int) (m_mul (ht1) (e_int _)) fun t2 ht2 =>
  sms_bx (.bin .mul (.bin .add (.bin .mul (.bin .mul (.var 1) (.var 1)) (.int 7919)) (.int 11)) (.int 48271)) (fz PyData.int) (m_mul (e_add (ht2) (e_int _)) (e_int _)) fun t3 ht3 =>
  sms_bx (.bin .mod (.bin .mul (.bin .add (.bin .mul (.bin .mul (.var 1) (.var 1)) (.int 7919)) (.int 11)) (.int 48271)) (.int 2147483647)) (fz PyData.int) (m_mod (ht3) (e_int _)) fun t4 ht4 =>
  sms_bx (.bin .mul (.bin .mod (.bin .mul (.bin .add (.bin .mul (.bin .mul (.var 1) (.var 1)) (.int 7919)) (.int 11)) (.int 48271)) (.int 2147483647)) (.int 69621)) (fz PyData.int) (m_mul (ht4) (e_int _)) fun t5 ht5 =>
  s_ret1 (φ := (fz PyData.int)) (m_mod (ht5) (e_int _)) (fun _ => rfl))
  (s_nil (sms_bx (.bin .mod (.var 1) (.bi .len (.cons (.var 0) .nil))) (fz PyData.int) (m_mod (e_var rfl) (e_lenZ (e_var rfl))) fun t7 ht7 =>
  s_asg (φ := (fz PyData.int)) (m_idx (e := PyData.int) (e_var rfl) (ht7) (scr_seq _)) (fun _ => rfl) fun v_cell_9 =>
  sms_bx (.and (.cmp .gt (.bi .len (.cons (.var 0) .nil)) (.int 1)) (.one (.cmp .eq (.bin .mod (.idx (.var 0) (.int 0)) (.int 2)) (.int 1)))) (fz PyData.bool) (m_and (e_gt (e_lenZ (e_var rfl)) (e_int _)) (sim_bx (.idx (.var 0) (.int 0)) (fz PyData.int) (m_idx (e := PyData.int) (e_var rfl) (e_int _) (scr_seq _)) fun t10 ht10 => sim_bx (.bin .mod (.idx (.var 0) (.int 0)) (.int 2)) (fz PyData.int) (m_mod (ht10) (e_int _)) fun t11 ht11 => sim_p (e_one (e_eqI (ht11) (e_int _))))) fun t12 ht12 =>
  s_if (ht12)
  (sms_bx (.bin .mod (.var 1) (.bin .sub (.bi .len (.cons (.var 0) .nil)) (.int 1))) (fz PyData.int) (m_mod (e_var rfl) (e_sub (e_lenZ (e_var rfl)) (e_int _))) fun t13 ht13 =>
  s_asg (φ := (fz PyData.int)) (m_idx (e := PyData.int) (e_var rfl) (e_add (e_int _) (ht13)) (scr_seq _)) (fun _ => rfl) fun v_digits_15 =>
  s_del (sms_bx (.bin .fdiv (.var 1) (.bin .sub (.bi .len (.cons (.var 0) .nil)) (.int 1))) (fz PyData.int) (m_fdiv (e_var rfl) (e_sub (e_lenZ (e_var rfl)) (e_int _))) fun t17 ht17 =>
  sms_bi (.r1 (.bin .fdiv (.var 1) (.bin .sub (.bi .len (.cons (.var 0) .nil)) (.int 1)))) (List.map PyData.int) (i_r1 (ht17)) fun r18 hr18 =>
  s_for (e := PyData.int) (σ := Int) (E := fun (s16 : Int) => [some (RV.fz (scrD v_script)), some (RV.fz (PyData.int v_k)), none, some (RV.fz (PyData.int s16)), none]) v_digits_15 rfl (sim_p hr18) (rfl) (fun x19 s16 => ⟨_, rfl,
  sms_bx (.bin .pow (.int 10) (.int 9)) (fz PyData.int) (m_pow (e_int _) (e_int _)) fun t20 ht20 =>
  s_asg (φ := (fz PyData.int)) (m_fdiv (e_var rfl) (ht20)) (fun _ => rfl) fun v_digits_22 =>
  s_del (s_nil (s_end (Or.inl rfl)))⟩) fun s16 =>
  sms_bx (.bin .pow (.int 10) (.int 9)) (fz PyData.int) (m_pow (e_int _) (e_int _)) fun t23 ht23 =>
  s_ret1 (φ := (fz PyData.int)) (m_mod (e_var rfl) (ht23)) (fun _ => rfl)))
  (s_nil (sms_bx (.bin .pow (.int 10) (.int 30)) (fz PyData.int) (m_pow (e_int _) (e_int _)) fun t25 ht25 =>
  sms_bx (.bin .mod (.var 2) (.bin .pow (.int 10) (.int 30))) (fz PyData.int) (m_mod (e_var rfl) (ht25)) fun t26 ht26 =>
  sms_bx (.bin .mul (.bin .mod (.var 2) (.bin .pow (.int 10) (.int 30))) (.int 48271)) (fz PyData.int) (m_mul (ht26) (e_int _)) fun t27 ht27 =>
  sms_bx (.bin .mul (.var 1) (.var 1)) (fz PyData.int) (m_mul (e_var rfl) (e_var rfl)) fun t28 ht28 =>
  sms_bx (.bin .mul (.bin .mul (.var 1) (.var 1)) (.int 7919)) (fz PyData.int) (m_mul (ht28) (e_int _)) fun t29 ht29 =>
  sms_bx (.bin .mod (.bin .add (.bin .add (.bin .mul (.bin .mod (.var 2) (.bin .pow (.int 10) (.int 30))) (.int 48271)) (.bin .mul (.bin .mul (.var 1) (.var 1)) (.int 7919))) (.int 11)) (.int 2147483647)) (fz PyData.int) (m_mod (e_add (e_add (ht27) (ht29)) (e_int _)) (e_int _)) fun t30 ht30 =>
  sms_bx (.bin .mul (.bin .mod (.bin .add (.bin .add (.bin .mul (.bin .mod (.var 2) (.bin .pow (.int 10) (.int 30))) (.int 48271)) (.bin .mul (.bin .mul (.var 1) (.var 1)) (.int 7919))) (.int 11)) (.int 2147483647)) (.int 69621)) (fz PyData.int) (m_mul (ht30) (e_int _)) fun t31 ht31 =>
  s_ret1 (φ := (fz PyData.int)) (m_mod (ht31) (e_int _)) (fun _ => rfl))))))
end Mn

namespace Mn
open PySem PySem.Spec PyProof.Rows
open L2 (atI ixN cutS)
theorem w_law_product (v_p : Int) (v_one : Int × Int × List (List Int)) (v_other : Int × Int × List (List Int)) : Sim (s_law_product [PyData.int v_p, (encP3 PyData.int PyData.int (encU (encU PyData.int))) v_one, (encP3 PyData.int PyData.int (encU (encU PyData.int))) v_other]) (F_law_product v_p v_one v_other) (fz (encP3 PyData.int PyData.int (encU (encU PyData.int)))) :=
  s_def (φ := (fz (encP3 PyData.int PyData.int (encU (encU PyData.int))))) rfl (s_asg (φ := (ol (encU PyData.int))) (sim_p (e_lst (es_nil) (Nat.le_of_ble_eq_true rfl))) (fun _ => rfl) fun v_rows_1 =>
  s_for (e := (encU PyData.int)) (σ := List (List Int)) (E := fun (s2 : List (List Int)) => [some (RV.fz (PyData.int v_p)), some (RV.fz ((encP3 PyData.int PyData.int (encU (encU PyData.int))) v_one)), some (RV.fz ((encP3 PyData.int PyData.int (encU (encU PyData.int))) v_other)), some (RV.ol (List.map (encU PyData.int) s2)), none, none, none]) v_rows_1 rfl (i_ex (e := (encU PyData.int)) (e_idxP (e_var rfl) (e_int _) rfl rfl) rfl) (b_ex (bo_n rfl)) (fun x3 s2 => ⟨_, rfl,
  sms_bi (.r1 (.idx (.var 2) (.int 1))) (List.map PyData.int) (i_r1 (e_idxP (e_var rfl) (e_int _) rfl rfl)) fun r5 hr5 =>
  sms_bx (.comp (.bin .mod (.bi .sum (.cons (.comp (.bin .mul (.idx (.var 4) (.var 6)) (.idx (.idx (.idx (.var 2) (.int 2)) (.var 6)) (.var 5))) (.nm 6) (.r1 (.idx (.var 1) (.int 1))) .emp [6]) .nil)) (.var 0)) (.nm 5) (.r1 (.idx (.var 2) (.int 1))) .emp [5]) (ol PyData.int) (m_comp (e := PyData.int) (f := PyData.int) (φ := (fz PyData.int)) (sim_p hr5) (fun y6 => ⟨_, rfl, sim_bi (.r1 (.idx (.var 1) (.int 1))) (List.map PyData.int) (i_r1 (e_idxP (e_var rfl) (e_int _) rfl rfl)) fun r7 hr7 => sim_bx (.comp (.bin .mul (.idx (.var 4) (.var 6)) (.idx (.idx (.idx (.var 2) (.int 2)) (.var 6)) (.var 5))) (.nm 6) (.r1 (.idx (.var 1) (.int 1))) .emp [6]) (ol PyData.int) (m_comp (e := PyData.int) (f := PyData.int) (φ := (fz PyData.int)) (sim_p hr7) (fun y8 => ⟨_, rfl, sim_bx (.idx (.var 4) (.var 6)) (fz PyData.int) (m_idx (e := PyData.int) (e_var rfl) (e_var rfl) rfl) fun t9 ht9 => sim_bx (.idx (.idx (.var 2) (.int 2)) (.var 6)) (fz (encU PyData.int)) (m_idx (e := (encU PyData.int)) (e_idxP (e_var rfl) (e_int _) rfl rfl) (e_var rfl) rfl) fun t10 ht10 => sim_bx (.idx (.idx (.idx (.var 2) (.int 2)) (.var 6)) (.var 5)) (fz PyData.int) (m_idx (e := PyData.int) (ht10) (e_var rfl) rfl) fun t11 ht11 => m_mul (ht9) (ht11)⟩) (fun _ => own_v rfl)) fun t13 ht13 => m_mod (e_sum (ht13) rfl) (e_var rfl)⟩) (fun _ => own_v rfl)) fun t15 ht15 =>
  s_app (f := (encU PyData.int)) rfl (e_tupO (e := PyData.int) (ht15) rfl) (own_v rfl) fun v_rows_4 =>
  s_del (s_nil (s_end (Or.inl rfl)))⟩) fun s2 =>
  s_ret1 (φ := (fz (encP3 PyData.int PyData.int (encU (encU PyData.int))))) (sim_p (e_tup (es_cons (e_idxP (e_var rfl) (e_int _) rfl rfl) (own_v rfl) (es_cons (e_idxP (e_var rfl) (e_int _) rfl rfl) (own_v rfl) (es_cons (e_tupO (e := (encU PyData.int)) (e_var rfl) rfl) (own_v rfl) (es_nil)))) (Nat.le_of_ble_eq_true rfl))) (fun _ => rfl))
end Mn

namespace Mn
open PySem PySem.Spec PyProof.Rows
open L2 (atI ixN cutS)
theorem w_law_table (v_script : List Int) (v_at : Int) (v_p : Int) (v_high : Int) (v_wide : Int) : Sim (s_law_table [scrD v_script, PyData.int v_at, PyData.int v_p, PyData.int v_high, PyData.int v_wide]) (F_law_table v_script v_at v_p v_high v_wide) (fz (encP3 PyData.int PyData.int (encU (encU PyData.int)))) :=
  s_def (φ := (fz (encP3 PyData.int PyData.int (encU (encU PyData.int))))) rfl (s_asg (φ := (ol (encU PyData.int))) (sim_p (e_lst (es_nil) (Nat.le_of_ble_eq_true rfl))) (fun _ => rfl) fun v_rows_1 =>
  sms_bi (.r1 (.var 3)) (List.map PyData.int) (i_r1 (e_var rfl)) fun r3 hr3 =>
  s_for (e := PyData.int) (σ := List (List Int)) (E := fun (s2 : List (List Int)) => [some (RV.fz (scrD v_script)), some (RV.fz (PyData.int v_at)), some (RV.fz (PyData.int v_p)), some (RV.fz (PyData.int v_high)), some (RV.fz (PyData.int v_wide)), some (RV.ol (List.map (encU PyData.int) s2)), none, none, none, none]) v_rows_1 rfl (sim_p hr3) (rfl) (fun x4 s2 => ⟨_, rfl,
  s_asg (φ := (ol PyData.int)) (sim_p (e_lst (es_nil) (Nat.le_of_ble_eq_true rfl))) (fun _ => rfl) fun v_row_5 =>
  sms_bi (.r1 (.var 4)) (List.map PyData.int) (i_r1 (e_var rfl)) fun r7 hr7 =>
  s_for (e := PyData.int) (σ := List Int) (E := fun (s6 : List Int) => [some (RV.fz (scrD v_script)), some (RV.fz (PyData.int v_at)), some (RV.fz (PyData.int v_p)), some (RV.fz (PyData.int v_high)), some (RV.fz (PyData.int v_wide)), some (RV.ol (List.map (encU PyData.int) s2)), some (RV.fz (PyData.int x4)), some (RV.ol (List.map PyData.int s6)), none, none]) v_row_5 rfl (sim_p hr7) (rfl) (fun x8 s6 => ⟨_, rfl,
  sms_bx (.bin .mul (.var 6) (.var 4)) (fz PyData.int) (m_mul (e_var rfl) (e_var rfl)) fun t9 ht9 =>
  s_asg (φ := (fz PyData.int)) (m_call (eb_cons (e_var rfl) rfl (eb_cons (e_add (e_add (e_var rfl) (ht9)) (e_var rfl)) rfl (eb_nil) rfl) rfl) (w_law_mix v_script ((v_at + t9) + x8))) (fun _ => rfl) fun v_cell_11 =>
  sms_bx (.bin .mod (.var 9) (.var 2)) (fz PyData.int) (m_mod (e_var rfl) (e_var rfl)) fun t13 ht13 =>
  sms_bx (.bin .fdiv (.var 9) (.int 7)) (fz PyData.int) (m_fdiv (e_var rfl) (e_int _)) fun t14 ht14 =>
  sms_bx (.bin .mod (.bin .fdiv (.var 9) (.int 7)) (.int 3)) (fz PyData.int) (m_mod (ht14) (e_int _)) fun t15 ht15 =>
  sms_bx (.bin .mul (.bin .mod (.var 9) (.var 2)) (.bi .int (.cons (.cmp .gt (.bin .mod (.bin .fdiv (.var 9) (.int 7)) (.int 3)) (.int 0)) .nil))) (fz PyData.int) (m_mul (ht13) (e_intB (e_gt (ht15) (e_int _)))) fun t16 ht16 =>
  s_app (f := PyData.int) rfl (ht16) (own_v rfl) fun v_row_12 =>
  s_del (s_del (s_nil (s_end (Or.inl rfl))))⟩) fun s6 =>
  s_app (f := (encU PyData.int)) rfl (e_tupO (e := PyData.int) (e_var rfl) rfl) (own_v rfl) fun v_rows_17 =>
  s_del (s_del (s_nil (s_end (Or.inl rfl))))⟩) fun s2 =>
  s_ret1 (φ := (fz (encP3 PyData.int PyData.int (encU (encU PyData.int))))) (sim_p (e_tup (es_cons (e_var rfl) (own_v rfl) (es_cons (e_var rfl) (own_v rfl) (es_cons (e_tupO (e := (encU PyData.int)) (e_var rfl) rfl) (own_v rfl) (es_nil)))) (Nat.le_of_ble_eq_true rfl))) (fun _ => rfl))
end Mn

namespace Mn
open PySem PySem.Spec PyProof.Rows
open L2 (atI ixN cutS)
theorem w_law_drawn (v_script : List Int) (v_p : Int) : Sim (s_law_drawn [scrD v_script, PyData.int v_p]) (F_law_drawn v_script v_p) (fz (encP3 PyData.int PyData.int (encU (encU PyData.int)))) :=
  s_def (φ := (fz (encP3 PyData.int PyData.int (encU (encU PyData.int))))) rfl (sms_bx (.call 0 (.cons (.var 0) (.cons (.int 1) .nil))) (fz PyData.int) (m_call (eb_cons (e_var rfl) rfl (eb_cons (e_int _) rfl (eb_nil) rfl) rfl) (w_law_mix v_script ((1 : Int)))) fun t1 ht1 =>
  s_asg (φ := (fz PyData.int)) (m_mod (ht1) (e_int _)) (fun _ => rfl) fun v_high_3 =>
  sms_bx (.call 0 (.cons (.var 0) (.cons (.int 2) .nil))) (fz PyData.int) (m_call (eb_cons (e_var rfl) rfl (eb_cons (e_int _) rfl (eb_nil) rfl) rfl) (w_law_mix v_script ((2 : Int)))) fun t4 ht4 =>
  s_asg (φ := (fz PyData.int)) (m_mod (ht4) (e_int _)) (fun _ => rfl) fun v_wide_6 =>
  sms_bx (.call 0 (.cons (.var 0) (.cons (.int 3) .nil))) (fz PyData.int) (m_call (eb_cons (e_var rfl) rfl (eb_cons (e_int _) rfl (eb_nil) rfl) rfl) (w_law_mix v_script ((3 : Int)))) fun t7 ht7 =>
  sms_bx (.bin .mod (.call 0 (.cons (.var 0) (.cons (.int 3) .nil))) (.int 2)) (fz PyData.int) (m_mod (ht7) (e_int _)) fun t8 ht8 =>
  s_if (e_eqI (ht8) (e_int _))
  (s_ret1 (φ := (fz (encP3 PyData.int PyData.int (encU (encU PyData.int))))) (m_call (eb_cons (e_var rfl) rfl (eb_cons (e_int _) rfl (eb_cons (e_var rfl) rfl (eb_cons (e_var rfl) rfl (eb_cons (e_var rfl) rfl (eb_nil) rfl) rfl) rfl) rfl) rfl) (w_law_table v_script ((4 : Int)) v_p v_high_3 v_wide_6)) (fun _ => rfl))
  (s_nil (sms_bx (.call 0 (.cons (.var 0) (.cons (.int 3) .nil))) (fz PyData.int) (m_call (eb_cons (e_var rfl) rfl (eb_cons (e_int _) rfl (eb_nil) rfl) rfl) (w_law_mix v_script ((3 : Int)))) fun t10 ht10 =>
  sms_bx (.bin .fdiv (.call 0 (.cons (.var 0) (.cons (.int 3) .nil))) (.int 2)) (fz PyData.int) (m_fdiv (ht10) (e_int _)) fun t11 ht11 =>
  s_asg (φ := (fz PyData.int)) (m_mod (ht11) (e_int _)) (fun _ => rfl) fun v_between_13 =>
  sms_bx (.call 1 (.cons (.var 0) (.cons (.int 4) (.cons (.var 1) (.cons (.var 2) (.cons (.var 4) .nil)))))) (fz (encP3 PyData.int PyData.int (encU (encU PyData.int)))) (m_call (eb_cons (e_var rfl) rfl (eb_cons (e_int _) rfl (eb_cons (e_var rfl) rfl (eb_cons (e_var rfl) rfl (eb_cons (e_var rfl) rfl (eb_nil) rfl) rfl) rfl) rfl) rfl) (w_law_table v_script ((4 : Int)) v_p v_high_3 v_between_13)) fun t14 ht14 =>
  sms_bx (.call 1 (.cons (.var 0) (.cons (.int 30) (.cons (.var 1) (.cons (.var 4) (.cons (.var 3) .nil)))))) (fz (encP3 PyData.int PyData.int (encU (encU PyData.int)))) (m_call (eb_cons (e_var rfl) rfl (eb_cons (e_int _) rfl (eb_cons (e_var rfl) rfl (eb_cons (e_var rfl) rfl (eb_cons (e_var rfl) rfl (eb_nil) rfl) rfl) rfl) rfl) rfl) (w_law_table v_script ((30 : Int)) v_p v_between_13 v_wide_6)) fun t15 ht15 =>
  s_ret1 (φ := (fz (encP3 PyData.int PyData.int (encU (encU PyData.int))))) (m_call (eb_cons (e_var rfl) rfl (eb_cons (ht14) rfl (eb_cons (ht15) rfl (eb_nil) rfl) rfl) rfl) (w_law_product v_p t14 t15)) (fun _ => rfl))))
end Mn

namespace Mn
open PySem PySem.Spec PyProof.Rows
open L2 (atI ixN cutS)
theorem w_law_led_v2 (v_p : Int) (v_table_here : Int × Int × List (List Int)) (v_load : List Int) : Sim (s_law_led [PyData.int v_p, (encP3 PyData.int PyData.int (encU (encU PyData.int))) v_table_here, (encL PyData.int) v_load]) (F_law_led v_p v_table_here v_load) (fz (encU PyData.int)) :=
  s_def (φ := (fz (encU PyData.int))) rfl (sms_bx (.comp (.bin .mod (.bi .sum (.cons (.comp (.bin .mul (.var 4) (.var 5)) (.tp [4, 5]) (.zip (.var 3) (.var 2)) .emp [4, 5]) .nil)) (.var 0)) (.nm 3) (.ex (.idx (.var 1) (.int 2))) .emp [3]) (ol PyData.int) (m_comp (e := (encU PyData.int)) (f := PyData.int) (φ := (fz PyData.int)) (i_ex (e := (encU PyData.int)) (e_idxP (e_var rfl) (e_int _) rfl rfl) rfl) (fun y1 => ⟨_, rfl, sim_bx (.comp (.bin .mul (.var 4) (.var 5)) (.tp [4, 5]) (.zip (.var 3) (.var 2)) .emp [4, 5]) (ol PyData.int) (m_comp (e := (encP2 PyData.int PyData.int)) (f := PyData.int) (φ := (fz PyData.int)) (i_zip (e := PyData.int) (f := PyData.int) (e_var rfl) (e_var rfl) rfl rfl) (fun y2 => ⟨_, rfl, m_mul (e_var rfl) (e_var rfl)⟩) (fun _ => own_v rfl)) fun t4 ht4 => m_mod (e_sum (ht4) rfl) (e_var rfl)⟩) (fun _ => own_v rfl)) fun t6 ht6 =>
  s_ret1 (φ := (fz (encU PyData.int))) (sim_p (e_tupO (e := PyData.int) (ht6) rfl)) (fun _ => rfl))
end Mn

namespace Mn
open PySem PySem.Spec PyProof.Rows
open L2 (atI ixN cutS)
theorem w_law_base (v_p : Int) (v_long : Int) (v_loads : List (List Int)) : Sim (s_law_base [PyData.int v_p, PyData.int v_long, (encL (encU PyData.int)) v_loads]) (F_law_base v_p v_long v_loads) (ol (encU PyData.int)) :=
  s_def (φ := (ol (encU PyData.int))) rfl (s_asg (φ := (ol (encP2 PyData.int (encL PyData.int)))) (sim_p (e_lst (es_nil) (Nat.le_of_ble_eq_true rfl))) (fun _ => rfl) fun v_base_here_1 =>
  s_frz rfl (s_for (e := (encU PyData.int)) (σ := List (Int × List Int)) (E := fun (s2 : List (Int × List Int)) => [some (RV.fz (PyData.int v_p)), some (RV.fz (PyData.int v_long)), some (RV.fz ((encL (encU PyData.int)) v_loads)), some (RV.fz ((encL (encP2 PyData.int (encL PyData.int))) s2)), none, none, none, none, none, none, none, none, none, none, none, none, none]) v_base_here_1 rfl (i_ex (e := (encU PyData.int)) (e_var rfl) rfl) (b_ex (bo_v (e_var rfl))) (fun x3 s2 => ⟨_, rfl,
  s_asg (φ := (ol PyData.int)) (sim_p (e_lisO (e := PyData.int) (e_var rfl) rfl)) (fun _ => rfl) fun v_row_4 =>
  s_del (s_for (e := (encP2 PyData.int (encL PyData.int))) (σ := List Int) (E := fun (s5 : List Int) => [some (RV.fz (PyData.int v_p)), some (RV.fz (PyData.int v_long)), some (RV.fz ((encL (encU PyData.int)) v_loads)), some (RV.fz ((encL (encP2 PyData.int (encL PyData.int))) s2)), none, some (RV.ol (List.map PyData.int s5)), none, none, none, none, none, none, none, none, none, none, none]) v_row_4 rfl (i_ex (e := (encP2 PyData.int (encL PyData.int))) (e_var rfl) rfl) (b_ex (bo_v (e_var rfl))) (fun x6 s5 => ⟨_, rfl,
  s_asg (φ := (fz PyData.int)) (m_idx (e := PyData.int) (e_var rfl) (e_var rfl) rfl) (fun _ => rfl) fun v_times_8 =>
  s_asg (φ := (ol PyData.int)) (m_comp (e := (encP2 PyData.int PyData.int)) (f := PyData.int) (φ := (fz PyData.int)) (i_zip (e := PyData.int) (f := PyData.int) (e_var rfl) (e_var rfl) rfl rfl) (fun y9 => ⟨_, rfl, sim_bx (.bin .mul (.var 9) (.var 15)) (fz PyData.int) (m_mul (e_var rfl) (e_var rfl)) fun t10 ht10 => m_mod (e_sub (e_var rfl) (ht10)) (e_var rfl)⟩) (fun _ => own_v rfl)) (fun _ => rfl) fun v_row_13 =>
  s_del (s_del (s_del (s_nil (s_end (Or.inl rfl)))))⟩) fun s5 =>
  sms_bi (.r1 (.var 1)) (List.map PyData.int) (i_r1 (e_var rfl)) fun r14 hr14 =>
  s_asg (φ := (ol PyData.int)) (m_compT (e := PyData.int) (f := PyData.int) (φ := (fz PyData.int)) (sim_p hr14) (fun y15 => ⟨_, rfl, sim_bx (.idx (.var 5) (.var 12)) (fz PyData.int) (m_idx (e := PyData.int) (e_var rfl) (e_var rfl) rfl) fun t16 ht16 => sim_p (e_neI (ht16) (e_int _)), sim_p (e_var rfl)⟩) (fun _ => own_v rfl)) (fun _ => rfl) fun v_leads_18 =>
  s_if (e_gt (e_len (e := PyData.int) (e_var rfl) rfl) (e_int _))
  (s_asg (φ := (fz PyData.int)) (m_idx (e := PyData.int) (e_var rfl) (e_int _) rfl) (fun _ => rfl) fun v_lead_20 =>
  sms_bi (.r2 (.int 1) (.var 0)) (List.map PyData.int) (i_r2 (e_int _) (e_var rfl)) fun r21 hr21 =>
  sms_bx (.comp (.var 16) (.nm 16) (.r2 (.int 1) (.var 0)) (.one (.cmp .eq (.bin .mod (.bin .mul (.var 16) (.idx (.var 5) (.var 7))) (.var 0)) (.int 1))) [16]) (ol PyData.int) (m_compT (e := PyData.int) (f := PyData.int) (φ := (fz PyData.int)) (sim_p hr21) (fun y22 => ⟨_, rfl, sim_bx (.idx (.var 5) (.var 7)) (fz PyData.int) (m_idx (e := PyData.int) (e_var rfl) (e_var rfl) rfl) fun t23 ht23 => sim_bx (.bin .mul (.var 16) (.idx (.var 5) (.var 7))) (fz PyData.int) (m_mul (e_var rfl) (ht23)) fun t24 ht24 => sim_bx (.bin .mod (.bin .mul (.var 16) (.idx (.var 5) (.var 7))) (.var 0)) (fz PyData.int) (m_mod (ht24) (e_var rfl)) fun t25 ht25 => sim_p (e_eqI (ht25) (e_int _)), sim_p (e_var rfl)⟩) (fun _ => own_v rfl)) fun t26 ht26 =>
  s_asg (φ := (fz PyData.int)) (m_idx (e := PyData.int) (ht26) (e_int _) rfl) (fun _ => rfl) fun v_over_28 =>
  s_asg (φ := (ol PyData.int)) (m_comp (e := PyData.int) (f := PyData.int) (φ := (fz PyData.int)) (i_ex (e := PyData.int) (e_var rfl) rfl) (fun y29 => ⟨_, rfl, sim_bx (.bin .mul (.var 10) (.var 13)) (fz PyData.int) (m_mul (e_var rfl) (e_var rfl)) fun t30 ht30 => m_mod (ht30) (e_var rfl)⟩) (fun _ => own_v rfl)) (fun _ => rfl) fun v_row_33 =>
  s_asg (φ := (ol (encP2 PyData.int (encL PyData.int)))) (sim_p (e_lst (es_nil) (Nat.le_of_ble_eq_true rfl))) (fun _ => rfl) fun v_stay_34 =>
  s_del (s_del (s_for (e := (encP2 PyData.int (encL PyData.int))) (σ := List (Int × List Int)) (E := fun (s35 : List (Int × List Int)) => [some (RV.fz (PyData.int v_p)), some (RV.fz (PyData.int v_long)), some (RV.fz ((encL (encU PyData.int)) v_loads)), some (RV.fz ((encL (encP2 PyData.int (encL PyData.int))) s2)), none, some (RV.ol (List.map PyData.int v_row_33)), none, some (RV.fz (PyData.int v_lead_20)), none, none, none, some (RV.ol (List.map (encP2 PyData.int (encL PyData.int)) s35)), none, none, none, none, none]) v_stay_34 rfl (i_ex (e := (encP2 PyData.int (encL PyData.int))) (e_var rfl) rfl) (b_ex (bo_v (e_var rfl))) (fun x36 s35 => ⟨_, rfl,
  s_asg (φ := (fz PyData.int)) (m_idx (e := PyData.int) (e_var rfl) (e_var rfl) rfl) (fun _ => rfl) fun v_times_38 =>
  sms_bx (.comp (.bin .mod (.bin .sub (.var 14) (.bin .mul (.var 9) (.var 15))) (.var 0)) (.tp [14, 15]) (.zip (.var 8) (.var 5)) .emp [14, 15]) (ol PyData.int) (m_comp (e := (encP2 PyData.int PyData.int)) (f := PyData.int) (φ := (fz PyData.int)) (i_zip (e := PyData.int) (f := PyData.int) (e_var rfl) (e_var rfl) rfl rfl) (fun y40 => ⟨_, rfl, sim_bx (.bin .mul (.var 9) (.var 15)) (fz PyData.int) (m_mul (e_var rfl) (e_var rfl)) fun t41 ht41 => m_mod (e_sub (e_var rfl) (ht41)) (e_var rfl)⟩) (fun _ => own_v rfl)) fun t43 ht43 =>
  s_app (f := (encP2 PyData.int (encL PyData.int))) rfl (e_tup (es_cons (e_var rfl) (own_v rfl) (es_cons (ht43) (own_o rfl rfl) (es_nil))) (Nat.le_of_ble_eq_true rfl)) (own_v rfl) fun v_stay_39 =>
  s_del (s_del (s_del (s_nil (s_end (Or.inl rfl)))))⟩) fun s35 =>
  s_frz rfl (sms_bx (.bin .add (.var 11) (.lst (.cons (.tup (.cons (.var 7) (.cons (.var 5) .nil))) .nil))) (ol (encP2 PyData.int (encL PyData.int))) (m_catL (e := (encP2 PyData.int (encL PyData.int))) (e_var rfl) (e_lst (es_cons (e_tup (es_cons (e_var rfl) (own_v rfl) (es_cons (e_var rfl) (own_v rfl) (es_nil))) (Nat.le_of_ble_eq_true rfl)) (own_v rfl) (es_nil)) (Nat.le_of_ble_eq_true rfl)) rfl rfl) fun t44 ht44 =>
  s_asg (φ := (ol (encP2 PyData.int (encL PyData.int)))) (m_sortK (f := (encL PyData.int)) (ht44) rfl (fun _ _ h => by cases h)) (fun _ => rfl) fun v_base_here_46 =>
  s_frz rfl (s_del (s_del (s_del (s_nil (s_nil (s_end (Or.inl rfl)))))))))))
  (s_del (s_del (s_nil (s_nil (s_end (Or.inl rfl)))))))⟩) fun s2 =>
  s_ret1 (φ := (ol (encU PyData.int))) (m_comp (e := (encP2 PyData.int (encL PyData.int))) (f := (encU PyData.int)) (φ := (fz (encU PyData.int))) (i_ex (e := (encP2 PyData.int (encL PyData.int))) (e_var rfl) rfl) (fun y47 => ⟨_, rfl, sim_p (e_tupO (e := PyData.int) (e_var rfl) rfl)⟩) (fun _ => own_v rfl)) (fun _ => rfl)))
end Mn

namespace Mn
open PySem PySem.Spec PyProof.Rows
open L2 (atI ixN cutS)
theorem w_law_base_v2 (v_p : Int) (v_long : Int) (v_loads : List (List Int)) : Sim (s_law_base [PyData.int v_p, PyData.int v_long, (encU (encU PyData.int)) v_loads]) (F_law_base v_p v_long v_loads) (ol (encU PyData.int)) :=
  s_def (φ := (ol (encU PyData.int))) rfl (s_asg (φ := (ol (encP2 PyData.int (encL PyData.int)))) (sim_p (e_lst (es_nil) (Nat.le_of_ble_eq_true rfl))) (fun _ => rfl) fun v_base_here_1 =>
  s_frz rfl (s_for (e := (encU PyData.int)) (σ := List (Int × List Int)) (E := fun (s2 : List (Int × List Int)) => [some (RV.fz (PyData.int v_p)), some (RV.fz (PyData.int v_long)), some (RV.fz ((encU (encU PyData.int)) v_loads)), some (RV.fz ((encL (encP2 PyData.int (encL PyData.int))) s2)), none, none, none, none, none, none, none, none, none, none, none, none, none]) v_base_here_1 rfl (i_ex (e := (encU PyData.int)) (e_var rfl) rfl) (b_ex (bo_v (e_var rfl))) (fun x3 s2 => ⟨_, rfl,
  s_asg (φ := (ol PyData.int)) (sim_p (e_lisO (e := PyData.int) (e_var rfl) rfl)) (fun _ => rfl) fun v_row_4 =>
  s_del (s_for (e := (encP2 PyData.int (encL PyData.int))) (σ := List Int) (E := fun (s5 : List Int) => [some (RV.fz (PyData.int v_p)), some (RV.fz (PyData.int v_long)), some (RV.fz ((encU (encU PyData.int)) v_loads)), some (RV.fz ((encL (encP2 PyData.int (encL PyData.int))) s2)), none, some (RV.ol (List.map PyData.int s5)), none, none, none, none, none, none, none, none, none, none, none]) v_row_4 rfl (i_ex (e := (encP2 PyData.int (encL PyData.int))) (e_var rfl) rfl) (b_ex (bo_v (e_var rfl))) (fun x6 s5 => ⟨_, rfl,
  s_asg (φ := (fz PyData.int)) (m_idx (e := PyData.int) (e_var rfl) (e_var rfl) rfl) (fun _ => rfl) fun v_times_8 =>
  s_asg (φ := (ol PyData.int)) (m_comp (e := (encP2 PyData.int PyData.int)) (f := PyData.int) (φ := (fz PyData.int)) (i_zip (e := PyData.int) (f := PyData.int) (e_var rfl) (e_var rfl) rfl rfl) (fun y9 => ⟨_, rfl, sim_bx (.bin .mul (.var 9) (.var 15)) (fz PyData.int) (m_mul (e_var rfl) (e_var rfl)) fun t10 ht10 => m_mod (e_sub (e_var rfl) (ht10)) (e_var rfl)⟩) (fun _ => own_v rfl)) (fun _ => rfl) fun v_row_13 =>
  s_del (s_del (s_del (s_nil (s_end (Or.inl rfl)))))⟩) fun s5 =>
  sms_bi (.r1 (.var 1)) (List.map PyData.int) (i_r1 (e_var rfl)) fun r14 hr14 =>
  s_asg (φ := (ol PyData.int)) (m_compT (e := PyData.int) (f := PyData.int) (φ := (fz PyData.int)) (sim_p hr14) (fun y15 => ⟨_, rfl, sim_bx (.idx (.var 5) (.var 12)) (fz PyData.int) (m_idx (e := PyData.int) (e_var rfl) (e_var rfl) rfl) fun t16 ht16 => sim_p (e_neI (ht16) (e_int _)), sim_p (e_var rfl)⟩) (fun _ => own_v rfl)) (fun _ => rfl) fun v_leads_18 =>
  s_if (e_gt (e_len (e := PyData.int) (e_var rfl) rfl) (e_int _))
  (s_asg (φ := (fz PyData.int)) (m_idx (e := PyData.int) (e_var rfl) (e_int _) rfl) (fun _ => rfl) fun v_lead_20 =>
  sms_bi (.r2 (.int 1) (.var 0)) (List.map PyData.int) (i_r2 (e_int _) (e_var rfl)) fun r21 hr21 =>
  sms_bx (.comp (.var 16) (.nm 16) (.r2 (.int 1) (.var 0)) (.one (.cmp .eq (.bin .mod (.bin .mul (.var 16) (.idx (.var 5) (.var 7))) (.var 0)) (.int 1))) [16]) (ol PyData.int) (m_compT (e := PyData.int) (f := PyData.int) (φ := (fz PyData.int)) (sim_p hr21) (fun y22 => ⟨_, rfl, sim_bx (.idx (.var 5) (.var 7)) (fz PyData.int) (m_idx (e := PyData.int) (e_var rfl) (e_var rfl) rfl) fun t23 ht23 => sim_bx (.bin .mul (.var 16) (.idx (.var 5) (.var 7))) (fz PyData.int) (m_mul (e_var rfl) (ht23)) fun t24 ht24 => sim_bx (.bin .mod (.bin .mul (.var 16) (.idx (.var 5) (.var 7))) (.var 0)) (fz PyData.int) (m_mod (ht24) (e_var rfl)) fun t25 ht25 => sim_p (e_eqI (ht25) (e_int _)), sim_p (e_var rfl)⟩) (fun _ => own_v rfl)) fun t26 ht26 =>
  s_asg (φ := (fz PyData.int)) (m_idx (e := PyData.int) (ht26) (e_int _) rfl) (fun _ => rfl) fun v_over_28 =>
  s_asg (φ := (ol PyData.int)) (m_comp (e := PyData.int) (f := PyData.int) (φ := (fz PyData.int)) (i_ex (e := PyData.int) (e_var rfl) rfl) (fun y29 => ⟨_, rfl, sim_bx (.bin .mul (.var 10) (.var 13)) (fz PyData.int) (m_mul (e_var rfl) (e_var rfl)) fun t30 ht30 => m_mod (ht30) (e_var rfl)⟩) (fun _ => own_v rfl)) (fun _ => rfl) fun v_row_33 =>
  s_asg (φ := (ol (encP2 PyData.int (encL PyData.int)))) (sim_p (e_lst (es_nil) (Nat.le_of_ble_eq_true rfl))) (fun _ => rfl) fun v_stay_34 =>
  s_del (s_del (s_for (e := (encP2 PyData.int (encL PyData.int))) (σ := List (Int × List Int)) (E := fun (s35 : List (Int × List Int)) => [some (RV.fz (PyData.int v_p)), some (RV.fz (PyData.int v_long)), some (RV.fz ((encU (encU PyData.int)) v_loads)), some (RV.fz ((encL (encP2 PyData.int (encL PyData.int))) s2)), none, some (RV.ol (List.map PyData.int v_row_33)), none, some (RV.fz (PyData.int v_lead_20)), none, none, none, some (RV.ol (List.map (encP2 PyData.int (encL PyData.int)) s35)), none, none, none, none, none]) v_stay_34 rfl (i_ex (e := (encP2 PyData.int (encL PyData.int))) (e_var rfl) rfl) (b_ex (bo_v (e_var rfl))) (fun x36 s35 => ⟨_, rfl,
  s_asg (φ := (fz PyData.int)) (m_idx (e := PyData.int) (e_var rfl) (e_var rfl) rfl) (fun _ => rfl) fun v_times_38 =>
  sms_bx (.comp (.bin .mod (.bin .sub (.var 14) (.bin .mul (.var 9) (.var 15))) (.var 0)) (.tp [14, 15]) (.zip (.var 8) (.var 5)) .emp [14, 15]) (ol PyData.int) (m_comp (e := (encP2 PyData.int PyData.int)) (f := PyData.int) (φ := (fz PyData.int)) (i_zip (e := PyData.int) (f := PyData.int) (e_var rfl) (e_var rfl) rfl rfl) (fun y40 => ⟨_, rfl, sim_bx (.bin .mul (.var 9) (.var 15)) (fz PyData.int) (m_mul (e_var rfl) (e_var rfl)) fun t41 ht41 => m_mod (e_sub (e_var rfl) (ht41)) (e_var rfl)⟩) (fun _ => own_v rfl)) fun t43 ht43 =>
  s_app (f := (encP2 PyData.int (encL PyData.int))) rfl (e_tup (es_cons (e_var rfl) (own_v rfl) (es_cons (ht43) (own_o rfl rfl) (es_nil))) (Nat.le_of_ble_eq_true rfl)) (own_v rfl) fun v_stay_39 =>
  s_del (s_del (s_del (s_nil (s_end (Or.inl rfl)))))⟩) fun s35 =>
  s_frz rfl (sms_bx (.bin .add (.var 11) (.lst (.cons (.tup (.cons (.var 7) (.cons (.var 5) .nil))) .nil))) (ol (encP2 PyData.int (encL PyData.int))) (m_catL (e := (encP2 PyData.int (encL PyData.int))) (e_var rfl) (e_lst (es_cons (e_tup (es_cons (e_var rfl) (own_v rfl) (es_cons (e_var rfl) (own_v rfl) (es_nil))) (Nat.le_of_ble_eq_true rfl)) (own_v rfl) (es_nil)) (Nat.le_of_ble_eq_true rfl)) rfl rfl) fun t44 ht44 =>
  s_asg (φ := (ol (encP2 PyData.int (encL PyData.int)))) (m_sortK (f := (encL PyData.int)) (ht44) rfl (fun _ _ h => by cases h)) (fun _ => rfl) fun v_base_here_46 =>
  s_frz rfl (s_del (s_del (s_del (s_nil (s_nil (s_end (Or.inl rfl)))))))))))
  (s_del (s_del (s_nil (s_nil (s_end (Or.inl rfl)))))))⟩) fun s2 =>
  s_ret1 (φ := (ol (encU PyData.int))) (m_comp (e := (encP2 PyData.int (encL PyData.int))) (f := (encU PyData.int)) (φ := (fz (encU PyData.int))) (i_ex (e := (encP2 PyData.int (encL PyData.int))) (e_var rfl) rfl) (fun y47 => ⟨_, rfl, sim_p (e_tupO (e := PyData.int) (e_var rfl) rfl)⟩) (fun _ => own_v rfl)) (fun _ => rfl)))
end Mn

namespace Mn
open PySem PySem.Spec PyProof.Rows
open L2 (atI ixN cutS)
theorem w_law_led_v3 (v_p : Int) (v_table_here : Int × Int × List (List Int)) (v_load : Option (List Int)) : Sim (s_law_led [PyData.int v_p, (encP3 PyData.int PyData.int (encU (encU PyData.int))) v_table_here, (encO (encU PyData.int)) v_load]) (F_law_led_v2 v_p v_table_here v_load) (fz (encU PyData.int)) :=
  s_def (φ := (fz (encU PyData.int))) rfl (sms_bx (.comp (.bin .mod (.bi .sum (.cons (.comp (.bin .mul (.var 4) (.var 5)) (.tp [4, 5]) (.zip (.var 3) (.var 2)) .emp [4, 5]) .nil)) (.var 0)) (.nm 3) (.ex (.idx (.var 1) (.int 2))) .emp [3]) (ol PyData.int) (m_comp (e := (encU PyData.int)) (f := PyData.int) (φ := (fz PyData.int)) (i_ex (e := (encU PyData.int)) (e_idxP (e_var rfl) (e_int _) rfl rfl) rfl) (fun y1 => ⟨_, rfl, sim_bx (.var 2) (fz (encU PyData.int)) (m_un (e_var rfl)) fun u2 hu2 => sim_bx (.comp (.bin .mul (.var 4) (.var 5)) (.tp [4, 5]) (.zip (.var 3) (.var 2)) .emp [4, 5]) (ol PyData.int) (m_comp (e := (encP2 PyData.int PyData.int)) (f := PyData.int) (φ := (fz PyData.int)) (i_zip (e := PyData.int) (f := PyData.int) (e_var rfl) (hu2) rfl rfl) (fun y3 => ⟨_, rfl, m_mul (e_var rfl) (e_var rfl)⟩) (fun _ => own_v rfl)) fun t5 ht5 => m_mod (e_sum (ht5) rfl) (e_var rfl)⟩) (fun _ => own_v rfl)) fun t7 ht7 =>
  s_ret1 (φ := (fz (encU PyData.int))) (sim_p (e_tupO (e := PyData.int) (ht7) rfl)) (fun _ => rfl))
end Mn

namespace Mn
open PySem PySem.Spec PyProof.Rows
open L2 (atI ixN cutS)
theorem w_law_whole (v_found : Int) : Sim (s_law_whole [PyData.int v_found]) (F_law_whole v_found) (fz PyData.bool) :=
  s_def (φ := (fz PyData.bool)) rfl (s_ret1 (φ := (fz PyData.bool)) (sim_p (e_and (e_isI (e_var rfl) rfl rfl) (e_one (e_not (e_isI (e_var rfl) rfl rfl))))) (fun _ => rfl))
end Mn

namespace Mn
open PySem PySem.Spec PyProof.Rows
open L2 (atI ixN cutS)
theorem w_law_rests_v2 (v_found : Option (List Int)) (v_due : Option (List Int)) : Sim (s_law_rests [(encO (encU PyData.int)) v_found, (encO (encU PyData.int)) v_due]) (F_law_rests_v2 v_found v_due) (fz PyData.bool) :=
  s_def (φ := (fz PyData.bool)) rfl (sms_bx (.or (.not (.bi (.isI .tuple) (.cons (.var 0) .nil))) (.one (.cmp .ne (.bi .len (.cons (.var 0) .nil)) (.bi .len (.cons (.var 1) .nil))))) (fz PyData.bool) (m_or (e_not (e_isI (e_var rfl) (by cases v_found <;> rfl) (by cases v_found <;> rfl))) (sim_bx (.var 0) (fz (encU PyData.int)) (m_un (e_var rfl)) fun u1 hu1 => sim_bx (.var 1) (fz (encU PyData.int)) (m_un (e_var rfl)) fun u2 hu2 => sim_p (e_one (e_neI (e_len (e := PyData.int) (hu1) rfl) (e_len (e := PyData.int) (hu2) rfl))))) fun t3 ht3 =>
  s_if (ht3)
  (s_ret1 (φ := (fz PyData.bool)) (sim_p (e_bl _)) (fun _ => rfl))
  (s_nil (sms_bx (.var 0) (fz (encU PyData.int)) (m_un (e_var rfl)) fun u4 hu4 =>
  sms_bx (.comp (.call 0 (.cons (.var 2) .nil)) (.nm 2) (.ex (.var 0)) .emp [2]) (ol PyData.bool) (m_comp (e := PyData.int) (f := PyData.bool) (φ := (fz PyData.bool)) (i_ex (e := PyData.int) (hu4) rfl) (fun y5 => ⟨_, rfl, m_call (eb_cons (e_var rfl) rfl (eb_nil) rfl) (w_law_whole y5)⟩) (fun _ => own_v rfl)) fun t7 ht7 =>
  s_ret1 (φ := (fz PyData.bool)) (sim_p (e_and (e_all (ht7) rfl) (e_one (e_eqv (good_O (good_U good_I) notN_U) (by decide) (e_var rfl) (e_var rfl) rfl rfl)))) (fun _ => rfl))))
end Mn

namespace Mn
open PySem PySem.Spec PyProof.Rows
open L2 (atI ixN cutS)
theorem w_law_right_v2 (v_p : Int) (v_table_here : Int × Int × List (List Int)) (v_load : List Int) (v_found : Option (List Int)) : Sim (s_law_right_v2 [PyData.int v_p, (encP3 PyData.int PyData.int (encU (encU PyData.int))) v_table_here, (encU PyData.int) v_load, (encO (encU PyData.int)) v_found]) (F_law_right_v2 v_p v_table_here v_load v_found) (fz PyData.bool) :=
  s_def (φ := (fz PyData.bool)) rfl (sms_bi (.r1 (.idx (.var 1) (.int 1))) (List.map PyData.int) (i_r1 (e_idxP (e_var rfl) (e_int _) rfl rfl)) fun r1 hr1 =>
  s_asg (φ := (ol (encU PyData.int))) (m_comp (e := PyData.int) (f := (encU PyData.int)) (φ := (fz (encU PyData.int))) (sim_p hr1) (fun y2 => ⟨_, rfl, sim_bx (.comp (.idx (.var 6) (.var 5)) (.nm 6) (.ex (.idx (.var 1) (.int 2))) .emp [6]) (ol PyData.int) (m_comp (e := (encU PyData.int)) (f := PyData.int) (φ := (fz PyData.int)) (i_ex (e := (encU PyData.int)) (e_idxP (e_var rfl) (e_int _) rfl rfl) rfl) (fun y3 => ⟨_, rfl, m_idx (e := PyData.int) (e_var rfl) (e_var rfl) rfl⟩) (fun _ => own_v rfl)) fun t5 ht5 => sim_p (e_tupO (e := PyData.int) (ht5) rfl)⟩) (fun _ => own_v rfl)) (fun _ => rfl) fun v_uprights_7 =>
  s_frz rfl (sms_bx (.bin .add (.var 4) (.lst (.cons (.var 2) .nil))) (ol (encU PyData.int)) (m_catL (e := (encU PyData.int)) (e_var rfl) (e_lst (es_cons (e_var rfl) (own_v rfl) (es_nil)) (Nat.le_of_ble_eq_true rfl)) rfl rfl) fun t8 ht8 =>
  sms_bx (.call 0 (.cons (.var 0) (.cons (.idx (.var 1) (.int 0)) (.cons (.bin .add (.var 4) (.lst (.cons (.var 2) .nil))) .nil)))) (ol (encU PyData.int)) (m_call (eb_cons (e_var rfl) rfl (eb_cons (e_idxP (e_var rfl) (e_int _) rfl rfl) rfl (eb_cons (ht8) rfl (eb_nil) rfl) rfl) rfl) (w_law_base v_p v_table_here.1 t8)) fun t9 ht9 =>
  sms_bx (.call 0 (.cons (.var 0) (.cons (.idx (.var 1) (.int 0)) (.cons (.var 4) .nil)))) (ol (encU PyData.int)) (m_call (eb_cons (e_var rfl) rfl (eb_cons (e_idxP (e_var rfl) (e_int _) rfl rfl) rfl (eb_cons (e_var rfl) rfl (eb_nil) rfl) rfl) rfl) (w_law_base v_p v_table_here.1 v_uprights_7)) fun t10 ht10 =>
  s_if (e_gt (e_len (e := (encU PyData.int)) (ht9) rfl) (e_len (e := (encU PyData.int)) (ht10) rfl))
  (s_ret1 (φ := (fz PyData.bool)) (sim_p (e_isNn notN_U (e_var rfl))) (fun _ => rfl))
  (s_nil (sms_bx (.or (.cmp .isN (.var 3) .non) (.or (.not (.call 1 (.cons (.var 3) (.cons (.var 3) .nil)))) (.one (.cmp .ne (.bi .len (.cons (.var 3) .nil)) (.idx (.var 1) (.int 1)))))) (fz PyData.bool) (m_or (e_isNn notN_U (e_var rfl)) (sim_bx (.call 1 (.cons (.var 3) (.cons (.var 3) .nil))) (fz PyData.bool) (m_call (eb_cons (e_var rfl) rfl (eb_cons (e_var rfl) rfl (eb_nil) rfl) rfl) (w_law_rests_v2 v_found v_found)) fun t11 ht11 => m_or (e_not (ht11)) (sim_bx (.var 3) (fz (encU PyData.int)) (m_un (e_var rfl)) fun u12 hu12 => sim_p (e_one (e_neI (e_len (e := PyData.int) (hu12) rfl) (e_idxP (e_var rfl) (e_int _) rfl rfl)))))) fun t14 ht14 =>
  s_if (ht14)
  (s_ret1 (φ := (fz PyData.bool)) (sim_p (e_bl _)) (fun _ => rfl))
  (s_nil (sms_bx (.var 3) (fz (encU PyData.int)) (m_un (e_var rfl)) fun u15 hu15 =>
  sms_bx (.comp (.chn .le .lt (.int 0) (.var 7) (.var 0)) (.nm 7) (.ex (.var 3)) .emp [7]) (ol PyData.bool) (m_comp (e := PyData.int) (f := PyData.bool) (φ := (fz PyData.bool)) (i_ex (e := PyData.int) (hu15) rfl) (fun y16 => ⟨_, rfl, sim_p (e_chn rfl rfl (e_int _) (e_var rfl) (e_var rfl))⟩) (fun _ => own_v rfl)) fun t17 ht17 =>
  sms_bx (.or (.not (.bi .all (.cons (.comp (.chn .le .lt (.int 0) (.var 7) (.var 0)) (.nm 7) (.ex (.var 3)) .emp [7]) .nil))) (.one (.cmp .ne (.call 2 (.cons (.var 0) (.cons (.var 1) (.cons (.var 3) .nil)))) (.var 2)))) (fz PyData.bool) (m_or (e_not (e_all (ht17) rfl)) (sim_bx (.call 2 (.cons (.var 0) (.cons (.var 1) (.cons (.var 3) .nil)))) (fz (encU PyData.int)) (m_call (eb_cons (e_var rfl) rfl (eb_cons (e_var rfl) rfl (eb_cons (e_var rfl) rfl (eb_nil) rfl) rfl) rfl) (w_law_led_v3 v_p v_table_here v_found)) fun t18 ht18 => sim_p (e_one (e_nev (good_U good_I) (by decide) (ht18) (e_var rfl) rfl rfl)))) fun t19 ht19 =>
  s_if (ht19)
  (s_ret1 (φ := (fz PyData.bool)) (sim_p (e_bl _)) (fun _ => rfl))
  (s_nil (sms_bx (.call 0 (.cons (.var 0) (.cons (.idx (.var 1) (.int 1)) (.cons (.idx (.var 1) (.int 2)) .nil)))) (ol (encU PyData.int)) (m_call (eb_cons (e_var rfl) rfl (eb_cons (e_idxP (e_var rfl) (e_int _) rfl rfl) rfl (eb_cons (e_idxP (e_var rfl) (e_int _) rfl rfl) rfl (eb_nil) rfl) rfl) rfl) (w_law_base_v2 v_p v_table_here.2.1 v_table_here.2.2)) fun t20 ht20 =>
  s_asg (φ := (ol PyData.int)) (m_comp (e := (encU PyData.int)) (f := PyData.int) (φ := (fz PyData.int)) (i_ex (e := (encU PyData.int)) (ht20) rfl) (fun y21 => ⟨_, rfl, m_indexU good_I (by decide) (e_var rfl) (e_int _) rfl⟩) (fun _ => own_v rfl)) (fun _ => rfl) fun v_leads_24 =>
  sms_bi (.r1 (.idx (.var 1) (.int 1))) (List.map PyData.int) (i_r1 (e_idxP (e_var rfl) (e_int _) rfl rfl)) fun r25 hr25 =>
  sms_bx (.comp (.or (.cmp .eq (.idx (.var 3) (.var 5)) (.int 0)) (.one (.cmp .inn (.var 5) (.var 8)))) (.nm 5) (.r1 (.idx (.var 1) (.int 1))) .emp [5]) (ol PyData.bool) (m_comp (e := PyData.int) (f := PyData.bool) (φ := (fz PyData.bool)) (sim_p hr25) (fun y26 => ⟨_, rfl, sim_bx (.var 3) (fz (encU PyData.int)) (m_un (e_var rfl)) fun u27 hu27 => sim_bx (.idx (.var 3) (.var 5)) (fz PyData.int) (m_idx (e := PyData.int) (hu27) (e_var rfl) rfl) fun t28 ht28 => sim_p (e_or (e_eqI (ht28) (e_int _)) (e_one (e_innL good_I (by decide) (e_var rfl) (e_var rfl) rfl rfl)))⟩) (fun _ => own_v rfl)) fun t29 ht29 =>
  s_ret1 (φ := (fz PyData.bool)) (sim_p (e_all (ht29) rfl)) (fun _ => rfl)))))))))
end Mn

namespace Mn
open PySem PySem.Spec PyProof.Rows
open L2 (atI ixN cutS)
theorem w_first_with (v_rows : List (List Int)) (v_place : Int) : Sim (s_first_with [(encL (encL PyData.int)) v_rows, PyData.int v_place]) (F_first_with v_rows v_place) (fz (encO PyData.int)) :=
  s_def (φ := (fz (encO PyData.int))) rfl (s_forL (e := (encP2 PyData.int (encL PyData.int))) (σ := Unit) (ρ := Option Int) (E := fun (s1 : Unit) => [some (RV.fz ((encL (encL PyData.int)) v_rows)), some (RV.fz (PyData.int v_place)), none, none]) (φ := (fz (encO PyData.int))) (mk := (fun v => v)) (()) rfl (i_en (e := (encL PyData.int)) (e_var rfl) rfl) (b_en (bo_v (e_var rfl))) (fun x2 s1 => ⟨_, rfl,
  sms_bx (.idx (.var 3) (.var 1)) (fz PyData.int) (m_idx (e := PyData.int) (e_var rfl) (e_var rfl) rfl) fun t3 ht3 =>
  s_if (e_neI (ht3) (e_int _))
  (s_ret (φ := (fz (encO PyData.int))) (mk := Lp.rt) (sim_p (e_var rfl)) (fun _ => rfl))
  (s_nil (s_del (s_del (s_nil (s_end (Or.inl rfl))))))⟩) (fun _ => rfl) fun s1 =>
  s_ret1 (φ := (fz (encO PyData.int))) (sim_p (e_non)) (fun _ => rfl))
end Mn

namespace Mn
open PySem PySem.Spec PyProof.Rows
open L2 (atI ixN cutS)
theorem w_inverse (v_p : Int) (v_x : Int) : Sim (s_inverse [PyData.int v_p, PyData.int v_x]) (F_inverse v_p v_x) (fz PyData.int) :=
  s_def (φ := (fz PyData.int)) rfl (sms_bi (.r2 (.int 1) (.var 0)) (List.map PyData.int) (i_r2 (e_int _) (e_var rfl)) fun r2 hr2 =>
  s_forL (e := PyData.int) (σ := Unit) (ρ := Int) (E := fun (s1 : Unit) => [some (RV.fz (PyData.int v_p)), some (RV.fz (PyData.int v_x)), none]) (φ := (fz PyData.int)) (mk := (fun v => v)) (()) rfl (sim_p hr2) (rfl) (fun x3 s1 => ⟨_, rfl,
  sms_bx (.bin .mul (.var 2) (.var 1)) (fz PyData.int) (m_mul (e_var rfl) (e_var rfl)) fun t4 ht4 =>
  sms_bx (.bin .mod (.bin .mul (.var 2) (.var 1)) (.var 0)) (fz PyData.int) (m_mod (ht4) (e_var rfl)) fun t5 ht5 =>
  s_if (e_eqI (ht5) (e_int _))
  (s_ret (φ := (fz PyData.int)) (mk := Lp.rt) (sim_p (e_var rfl)) (fun _ => rfl))
  (s_nil (s_del (s_nil (s_end (Or.inl rfl)))))⟩) (fun _ => rfl) fun s1 =>
  s_nev)
end Mn

namespace Mn
open PySem PySem.Spec PyProof.Rows
open L2 (atI ixN cutS)
theorem w_less (v_p : Int) (v_row : List Int) (v_other : List Int) (v_times : Int) : Sim (s_less [PyData.int v_p, (encL PyData.int) v_row, (encL PyData.int) v_other, PyData.int v_times]) (F_less v_p v_row v_other v_times) (ol PyData.int) :=
  s_def (φ := (ol PyData.int)) rfl (s_ret1 (φ := (ol PyData.int)) (m_comp (e := (encP2 PyData.int PyData.int)) (f := PyData.int) (φ := (fz PyData.int)) (i_zip (e := PyData.int) (f := PyData.int) (e_var rfl) (e_var rfl) rfl rfl) (fun y1 => ⟨_, rfl, sim_bx (.bin .mul (.var 3) (.var 5)) (fz PyData.int) (m_mul (e_var rfl) (e_var rfl)) fun t2 ht2 => m_mod (e_sub (e_var rfl) (ht2)) (e_var rfl)⟩) (fun _ => own_v rfl)) (fun _ => rfl))
end Mn

namespace Mn
open PySem PySem.Spec PyProof.Rows
open L2 (atI ixN cutS)
theorem w_base_of (v_p : Int) (v_long : Int) (v_loads : List (List Int)) : Sim (s_base_of [PyData.int v_p, PyData.int v_long, (encL (encU PyData.int)) v_loads]) (F_base_of v_p v_long v_loads) (ol (encU PyData.int)) :=
  s_def (φ := (ol (encU PyData.int))) rfl (s_asg (φ := (ol (encL PyData.int))) (m_comp (e := (encU PyData.int)) (f := (encL PyData.int)) (φ := (ol PyData.int)) (i_ex (e := (encU PyData.int)) (e_var rfl) rfl) (fun y1 => ⟨_, rfl, sim_p (e_lisO (e := PyData.int) (e_var rfl) rfl)⟩) (fun _ => own_o rfl rfl)) (fun _ => rfl) fun v_rows_3 =>
  s_asg (φ := (ol (encL PyData.int))) (sim_p (e_lst (es_nil) (Nat.le_of_ble_eq_true rfl))) (fun _ => rfl) fun v_base_4 =>
  s_del (sms_bi (.r1 (.var 1)) (List.map PyData.int) (i_r1 (e_var rfl)) fun r6 hr6 =>
  s_for (e := PyData.int) (σ := List (List Int) × List (List Int)) (E := fun (s5 : List (List Int) × List (List Int)) => [some (RV.fz (PyData.int v_p)), some (RV.fz (PyData.int v_long)), none, some (RV.ol (List.map (encL PyData.int) s5.1)), none, some (RV.ol (List.map (encL PyData.int) s5.2)), none, none, none, none, none, none]) ((v_rows_3, v_base_4)) rfl (sim_p hr6) (rfl) (fun x7 s5 => ⟨_, rfl,
  s_asg (φ := (fz (encO PyData.int))) (m_callS (eb_cons (e_var rfl) rfl (eb_cons (e_var rfl) rfl (eb_nil) rfl) rfl) (w_first_with s5.1 x7) (flat_O flat_I)) (fun _ => rfl) fun v_k_9 =>
  s_if (e_noNn notN_I (e_var rfl))
  (sms_bx (.var 7) (fz PyData.int) (m_un (e_var rfl)) fun u10 hu10 =>
  s_pop (f := (encL PyData.int)) (by decide) rfl (hu10) fun q11 =>
  sms_bx (.idx (.var 8) (.var 6)) (fz PyData.int) (m_idx (e := PyData.int) (e_var rfl) (e_var rfl) rfl) fun t12 ht12 =>
  s_asg (φ := (fz PyData.int)) (m_call (eb_cons (e_var rfl) rfl (eb_cons (ht12) rfl (eb_nil) rfl) rfl) (w_inverse v_p t12)) (fun _ => rfl) fun v_over_14 =>
  s_asg (φ := (ol PyData.int)) (m_comp (e := PyData.int) (f := PyData.int) (φ := (fz PyData.int)) (i_ex (e := PyData.int) (e_var rfl) rfl) (fun y15 => ⟨_, rfl, sim_bx (.bin .mul (.var 9) (.var 10)) (fz PyData.int) (m_mul (e_var rfl) (e_var rfl)) fun t16 ht16 => m_mod (ht16) (e_var rfl)⟩) (fun _ => own_v rfl)) (fun _ => rfl) fun v_chosen_19 =>
  s_frz rfl (s_asg (φ := (ol (encL PyData.int))) (m_comp (e := (encL PyData.int)) (f := (encL PyData.int)) (φ := (ol PyData.int)) (i_ex (e := (encL PyData.int)) (e_var rfl) rfl) (fun y20 => ⟨_, rfl, sim_bx (.idx (.var 11) (.var 6)) (fz PyData.int) (m_idx (e := PyData.int) (e_var rfl) (e_var rfl) rfl) fun t21 ht21 => m_call (eb_cons (e_var rfl) rfl (eb_cons (e_var rfl) rfl (eb_cons (e_var rfl) rfl (eb_cons (ht21) rfl (eb_nil) rfl) rfl) rfl) rfl) (w_less v_p y20 v_chosen_19 t21)⟩) (fun _ => own_o rfl rfl)) (fun _ => rfl) fun v_rows_24 =>
  sms_bx (.comp (.call 2 (.cons (.var 0) (.cons (.var 11) (.cons (.var 8) (.cons (.idx (.var 11) (.var 6)) .nil))))) (.nm 11) (.ex (.var 5)) .emp [11]) (ol (encL PyData.int)) (m_comp (e := (encL PyData.int)) (f := (encL PyData.int)) (φ := (ol PyData.int)) (i_ex (e := (encL PyData.int)) (e_var rfl) rfl) (fun y25 => ⟨_, rfl, sim_bx (.idx (.var 11) (.var 6)) (fz PyData.int) (m_idx (e := PyData.int) (e_var rfl) (e_var rfl) rfl) fun t26 ht26 => m_call (eb_cons (e_var rfl) rfl (eb_cons (e_var rfl) rfl (eb_cons (e_var rfl) rfl (eb_cons (ht26) rfl (eb_nil) rfl) rfl) rfl) rfl) (w_less v_p y25 v_chosen_19 t26)⟩) (fun _ => own_o rfl rfl)) fun t28 ht28 =>
  s_asg (φ := (ol (encL PyData.int))) (m_catL (e := (encL PyData.int)) (ht28) (e_lst (es_cons (e_var rfl) (own_v rfl) (es_nil)) (Nat.le_of_ble_eq_true rfl)) rfl rfl) (fun _ => rfl) fun v_base_30 =>
  s_del (s_del (s_del (s_del (s_nil (s_nil (s_end (Or.inl rfl)))))))))
  (s_del (s_del (s_nil (s_nil (s_end (Or.inl rfl))))))⟩) fun s5 =>
  s_ret1 (φ := (ol (encU PyData.int))) (m_comp (e := (encL PyData.int)) (f := (encU PyData.int)) (φ := (fz (encU PyData.int))) (i_ex (e := (encL PyData.int)) (e_var rfl) rfl) (fun y31 => ⟨_, rfl, sim_p (e_tupO (e := PyData.int) (e_var rfl) rfl)⟩) (fun _ => own_v rfl)) (fun _ => rfl)))
end Mn

namespace Mn
open PySem PySem.Spec PyProof.Rows
open L2 (atI ixN cutS)
theorem w_lead_of (v_load : List Int) : Sim (s_lead_of [(encU PyData.int) v_load]) (F_lead_of v_load) (fz PyData.int) :=
  s_def (φ := (fz PyData.int)) rfl (s_forL (e := (encP2 PyData.int PyData.int)) (σ := Unit) (ρ := Int) (E := fun (s1 : Unit) => [some (RV.fz ((encU PyData.int) v_load)), none, none]) (φ := (fz PyData.int)) (mk := (fun v => v)) (()) rfl (i_en (e := PyData.int) (e_var rfl) rfl) (b_en (bo_v (e_var rfl))) (fun x2 s1 => ⟨_, rfl,
  s_if (e_neI (e_var rfl) (e_int _))
  (s_ret (φ := (fz PyData.int)) (mk := Lp.rt) (sim_p (e_var rfl)) (fun _ => rfl))
  (s_nil (s_del (s_del (s_nil (s_end (Or.inl rfl))))))⟩) (fun _ => rfl) fun s1 =>
  s_ret1 (φ := (fz PyData.int)) (sim_p (e_len (e := PyData.int) (e_var rfl) rfl)) (fun _ => rfl))
end Mn

namespace Mn
open PySem PySem.Spec PyProof.Rows
open L2 (atI ixN cutS)
theorem w_solved (v_p : Int) (v_table : Int × Int × List (List Int)) (v_load : List Int) : Sim (s_solved [PyData.int v_p, (encP3 PyData.int PyData.int (encU (encU PyData.int))) v_table, (encU PyData.int) v_load]) (F_solved v_p v_table v_load) (fz (encO (encU PyData.int))) :=
  s_def (φ := (fz (encO (encU PyData.int)))) rfl (s_asg (φ := (fz PyData.int)) (sim_p (e_idxP (e_var rfl) (e_int _) rfl rfl)) (fun _ => rfl) fun v_wide_1 =>
  s_asg (φ := (ol (encU PyData.int))) (m_comp (e := (encP2 (encU PyData.int) PyData.int)) (f := (encU PyData.int)) (φ := (fz (encU PyData.int))) (i_zip (e := (encU PyData.int)) (f := PyData.int) (e_idxP (e_var rfl) (e_int _) rfl rfl) (e_var rfl) rfl rfl) (fun y2 => ⟨_, rfl, m_catU (e := PyData.int) (e_var rfl) (e_tup (es_cons (e_var rfl) (own_v rfl) (es_nil)) (Nat.le_of_ble_eq_true rfl))⟩) (fun _ => own_v rfl)) (fun _ => rfl) fun v_longer_5 =>
  sms_bi (.r1 (.var 3)) (List.map PyData.int) (i_r1 (e_var rfl)) fun r6 hr6 =>
  s_asg (φ := (ol PyData.int)) (m_comp (e := PyData.int) (f := PyData.int) (φ := (fz PyData.int)) (sim_p hr6) (fun y7 => ⟨_, rfl, sim_p (e_int _)⟩) (fun _ => own_v rfl)) (fun _ => rfl) fun v_found_9 =>
  s_frz rfl (s_del (s_del (sms_bx (.call 0 (.cons (.var 0) (.cons (.bin .add (.var 3) (.int 1)) (.cons (.var 4) .nil)))) (ol (encU PyData.int)) (m_call (eb_cons (e_var rfl) rfl (eb_cons (e_add (e_var rfl) (e_int _)) rfl (eb_cons (e_var rfl) rfl (eb_nil) rfl) rfl) rfl) (w_base_of v_p (v_wide_1 + ((1 : Int))) v_longer_5)) fun t11 ht11 =>
  s_forL (e := (encU PyData.int)) (σ := List Int) (ρ := Option (List Int)) (E := fun (s10 : List Int) => [some (RV.fz (PyData.int v_p)), none, none, some (RV.fz (PyData.int v_wide_1)), some (RV.fz ((encL (encU PyData.int)) v_longer_5)), none, none, some (RV.ol (List.map PyData.int s10)), none, none]) (φ := (fz (encO (encU PyData.int)))) (mk := (fun v => v)) v_found_9 rfl (i_ex (e := (encU PyData.int)) (ht11) rfl) (b_ex (bo_n rfl)) (fun x12 s10 => ⟨_, rfl,
  s_asg (φ := (fz PyData.int)) (m_call (eb_cons (e_var rfl) rfl (eb_nil) rfl) (w_lead_of x12)) (fun _ => rfl) fun v_lead_14 =>
  s_if (e_eqI (e_var rfl) (e_var rfl))
  (s_ret (φ := (fz (encO (encU PyData.int)))) (mk := Lp.rt) (sim_p (e_non)) (fun _ => rfl))
  (s_nil (sms_bx (.idx (.var 5) (.var 3)) (fz PyData.int) (m_idx (e := PyData.int) (e_var rfl) (e_var rfl) rfl) fun t15 ht15 =>
  s_sti (f := PyData.int) rfl (ht15) (own_v rfl) (e_var rfl) fun v_found_16 =>
  s_del (s_del (s_nil (s_end (Or.inl rfl))))))⟩) (fun _ => rfl) fun s10 =>
  s_ret1 (φ := (fz (encO (encU PyData.int)))) (sim_p (e_tupO (e := PyData.int) (e_var rfl) rfl)) (fun _ => rfl)))))
end Mn

namespace Mn
open PySem PySem.Spec PyProof.Rows
open L2 (atI ixN cutS)
theorem w_law_k08 (v_script : List Int) : Sim (s_law_k08 [scrD v_script]) (F_law_k08 v_script) (fz PyData.bool) :=
  s_def (φ := (fz PyData.bool)) rfl (sms_bx (.call 0 (.cons (.var 0) (.cons (.int 0) .nil))) (fz PyData.int) (m_call (eb_cons (e_var rfl) rfl (eb_cons (e_int _) rfl (eb_nil) rfl) rfl) (w_law_mix v_script ((0 : Int)))) fun t1 ht1 =>
  sms_bx (.bin .mod (.call 0 (.cons (.var 0) (.cons (.int 0) .nil))) (.int 4)) (fz PyData.int) (m_mod (ht1) (e_int _)) fun t2 ht2 =>
  s_asg (φ := (fz PyData.int)) (m_idx (e := PyData.int) (e_lst (es_cons (e_int _) (own_v rfl) (es_cons (e_int _) (own_v rfl) (es_cons (e_int _) (own_v rfl) (es_cons (e_int _) (own_v rfl) (es_nil))))) (Nat.le_of_ble_eq_true rfl)) (ht2) rfl) (fun _ => rfl) fun v_p_4 =>
  s_asg (φ := (fz (encP3 PyData.int PyData.int (encU (encU PyData.int))))) (m_call (eb_cons (e_var rfl) rfl (eb_cons (e_var rfl) rfl (eb_nil) rfl) rfl) (w_law_drawn v_script v_p_4)) (fun _ => rfl) fun v_table_here_6 =>
  sms_bi (.r1 (.idx (.var 2) (.int 0))) (List.map PyData.int) (i_r1 (e_idxP (e_var rfl) (e_int _) rfl rfl)) fun r7 hr7 =>
  sms_bx (.comp (.bin .mod (.call 0 (.cons (.var 0) (.cons (.bin .add (.int 60) (.var 4)) .nil))) (.var 1)) (.nm 4) (.r1 (.idx (.var 2) (.int 0))) .emp [4]) (ol PyData.int) (m_comp (e := PyData.int) (f := PyData.int) (φ := (fz PyData.int)) (sim_p hr7) (fun y8 => ⟨_, rfl, sim_bx (.call 0 (.cons (.var 0) (.cons (.bin .add (.int 60) (.var 4)) .nil))) (fz PyData.int) (m_call (eb_cons (e_var rfl) rfl (eb_cons (e_add (e_int _) (e_var rfl)) rfl (eb_nil) rfl) rfl) (w_law_mix v_script (((60 : Int)) + y8))) fun t9 ht9 => m_mod (ht9) (e_var rfl)⟩) (fun _ => own_v rfl)) fun t11 ht11 =>
  s_asg (φ := (fz (encU PyData.int))) (sim_p (e_tupO (e := PyData.int) (ht11) rfl)) (fun _ => rfl) fun v_load_12 =>
  sms_bx (.call 0 (.cons (.var 0) (.cons (.int 59) .nil))) (fz PyData.int) (m_call (eb_cons (e_var rfl) rfl (eb_cons (e_int _) rfl (eb_nil) rfl) rfl) (w_law_mix v_script ((59 : Int)))) fun t13 ht13 =>
  sms_bx (.bin .mod (.call 0 (.cons (.var 0) (.cons (.int 59) .nil))) (.int 3)) (fz PyData.int) (m_mod (ht13) (e_int _)) fun t14 ht14 =>
  s_cut (σ := List Int) (E := fun (s15 : List Int) => [none, some (RV.fz (PyData.int v_p_4)), some (RV.fz ((encP3 PyData.int PyData.int (encU (encU PyData.int))) v_table_here_6)), some (RV.fz ((encU PyData.int) s15)), none, none, none]) (s_if (e_gt (ht14) (e_int _))
  (sms_bi (.r1 (.idx (.var 2) (.int 1))) (List.map PyData.int) (i_r1 (e_idxP (e_var rfl) (e_int _) rfl rfl)) fun r16 hr16 =>
  sms_bx (.comp (.bin .mod (.call 0 (.cons (.var 0) (.cons (.bin .add (.int 70) (.var 4)) .nil))) (.var 1)) (.nm 4) (.r1 (.idx (.var 2) (.int 1))) .emp [4]) (ol PyData.int) (m_comp (e := PyData.int) (f := PyData.int) (φ := (fz PyData.int)) (sim_p hr16) (fun y17 => ⟨_, rfl, sim_bx (.call 0 (.cons (.var 0) (.cons (.bin .add (.int 70) (.var 4)) .nil))) (fz PyData.int) (m_call (eb_cons (e_var rfl) rfl (eb_cons (e_add (e_int _) (e_var rfl)) rfl (eb_nil) rfl) rfl) (w_law_mix v_script (((70 : Int)) + y17))) fun t18 ht18 => m_mod (ht18) (e_var rfl)⟩) (fun _ => own_v rfl)) fun t20 ht20 =>
  s_asg (φ := (fz (encU PyData.int))) (m_call (eb_cons (e_var rfl) rfl (eb_cons (e_var rfl) rfl (eb_cons (ht20) rfl (eb_nil) rfl) rfl) rfl) (w_law_led_v2 v_p_4 v_table_here_6 t20)) (fun _ => rfl) fun v_load_22 =>
  s_del (s_nil (s_nil (s_end rfl))))
  (s_del (s_nil (s_nil (s_end rfl))))) fun s15 =>
  sms_bx (.comp (.int 0) (.nm 6) (.ex (.var 3)) .emp [6]) (ol PyData.int) (m_comp (e := PyData.int) (f := PyData.int) (φ := (fz PyData.int)) (i_ex (e := PyData.int) (e_var rfl) rfl) (fun y24 => ⟨_, rfl, sim_p (e_int _)⟩) (fun _ => own_v rfl)) fun t25 ht25 =>
  s_forL (e := (encU PyData.int)) (σ := Unit) (ρ := Bool) (E := fun (s23 : Unit) => [none, some (RV.fz (PyData.int v_p_4)), some (RV.fz ((encP3 PyData.int PyData.int (encU (encU PyData.int))) v_table_here_6)), some (RV.fz ((encU PyData.int) s15)), none, none, none]) (φ := (fz PyData.bool)) (mk := (fun v => v)) (()) rfl (i_ex (e := (encU PyData.int)) (e_lst (es_cons (e_var rfl) (own_v rfl) (es_cons (e_tupO (e := PyData.int) (ht25) rfl) (own_v rfl) (es_cons (e_var rfl) (own_v rfl) (es_nil)))) (Nat.le_of_ble_eq_true rfl)) rfl) (b_ex (bo_n rfl)) (fun x26 s23 => ⟨_, rfl,
  sms_bx (.call 4 (.cons (.var 1) (.cons (.var 2) (.cons (.var 5) .nil)))) (fz (encO (encU PyData.int))) (m_call (eb_cons (e_var rfl) rfl (eb_cons (e_var rfl) rfl (eb_cons (e_var rfl) rfl (eb_nil) rfl) rfl) rfl) (w_solved v_p_4 v_table_here_6 x26)) fun t27 ht27 =>
  sms_bx (.call 3 (.cons (.var 1) (.cons (.var 2) (.cons (.var 5) (.cons (.call 4 (.cons (.var 1) (.cons (.var 2) (.cons (.var 5) .nil)))) .nil))))) (fz PyData.bool) (m_call (eb_cons (e_var rfl) rfl (eb_cons (e_var rfl) rfl (eb_cons (e_var rfl) rfl (eb_cons (ht27) rfl (eb_nil) rfl) rfl) rfl) rfl) (w_law_right_v2 v_p_4 v_table_here_6 x26 t27)) fun t28 ht28 =>
  s_if (e_not (ht28))
  (s_ret (φ := (fz PyData.bool)) (mk := Lp.rt) (sim_p (e_bl _)) (fun _ => rfl))
  (s_nil (s_del (s_nil (s_end (Or.inl rfl)))))⟩) (fun _ => rfl) fun s23 =>
  s_ret1 (φ := (fz PyData.bool)) (sim_p (e_bl _)) (fun _ => rfl))
end Mn

set_option maxHeartbeats 1000000
namespace La
open Mn (mulG modG mapG mapO LIM)
class Pr (p : Int) : Prop where
  pr : p = 2 ∨ p = 3 ∨ p = 5 ∨ p = 7
theorem Pr.pos {p : Int} [h : Pr p] : 0 < p := by rcases h.pr with e | e | e | e <;> omega
theorem Pr.le {p : Int} [h : Pr p] : p ≤ 7 := by rcases h.pr with e | e | e | e <;> omega
theorem Pr.gt {p : Int} [h : Pr p] : 1 < p := by rcases h.pr with e | e | e | e <;> omega
structure Fp (p : Int) where
  v : Int
  lo : 0 ≤ v
  hi : v < p
namespace Fp
variable {p : Int}
theorem ext {a b : Fp p} (h : a.v = b.v) : a = b := by cases a; cases b; cases h; rfl
theorem ext_iff {a b : Fp p} : a = b ↔ a.v = b.v := ⟨fun h => by rw [h], ext⟩
instance : DecidableEq (Fp p) := fun a b => decidable_of_iff (a.v = b.v) ext_iff.symm
variable [Pr p]
def of (x : Int) : Fp p := ⟨x % p, Int.emod_nonneg _ (by have := Pr.pos (p := p); omega), Int.emod_lt_of_pos _ Pr.pos⟩
theorem of_v (x : Int) : (of x : Fp p).v = x % p := rfl
theorem of_self (a : Fp p) : of a.v = a := ext (Int.emod_eq_of_lt a.lo a.hi)
theorem of_eq {x y : Int} (h : x % p = y % p) : (of x : Fp p) = of y := ext h
theorem v_mod (a : Fp p) : a.v % p = a.v := Int.emod_eq_of_lt a.lo a.hi
def powN (a : Fp p) : Nat → Fp p
  | 0 => of 1
  | n + 1 => of ((powN a n).v * a.v)
def inv (a : Fp p) : Fp p := if a.v = 0 then of 0 else powN a (p - 2).toNat
def powZ (a : Fp p) : Int → Fp p
  | .ofNat n => powN a n
  | .negSucc n => inv (powN a (n + 1))
theorem mm1 (x y : Int) : (x % p * y) % p = (x * y) % p := by rw [Int.mul_emod, Int.emod_emod_of_dvd _ (Int.dvd_refl p), ← Int.mul_emod]
theorem mm2 (x y : Int) : (x * (y % p)) % p = (x * y) % p := by rw [Int.mul_comm, mm1, Int.mul_comm]
theorem ng (i : Int) : (-(i % p)) % p = (-i) % p := by
  have : -(i % p) = -i + p * (i / p) := by have := Int.emod_add_mul_ediv i p; omega
  rw [this, Int.add_mul_emod_self_left]
instance : Lean.Grind.Semiring (Fp p) where
  add a b := of (a.v + b.v)
  mul a b := of (a.v * b.v)
  natCast := ⟨fun n => of n⟩
  ofNat n := ⟨of n⟩
  nsmul := ⟨fun n a => of ((n : Int) % p * a.v)⟩
  npow := ⟨powN⟩
  add_zero a := ext (by show (a.v + 0 % p) % p = a.v; simp [v_mod])
  add_comm a b := ext (by show (a.v + b.v) % p = (b.v + a.v) % p; rw [Int.add_comm])
  add_assoc a b c := ext (by show ((a.v + b.v) % p + c.v) % p = (a.v + (b.v + c.v) % p) % p; simp [Int.add_assoc])
  mul_assoc a b c := ext (by show ((a.v * b.v) % p * c.v) % p = (a.v * ((b.v * c.v) % p)) % p; rw [mm1, mm2, Int.mul_assoc])
  mul_one a := ext (by show (a.v * (1 % p)) % p = a.v; rw [mm2, Int.mul_one, v_mod])
  one_mul a := ext (by show ((1 % p) * a.v) % p = a.v; rw [mm1, Int.one_mul, v_mod])
  left_distrib a b c := ext (by show (a.v * ((b.v + c.v) % p)) % p = ((a.v * b.v) % p + (a.v * c.v) % p) % p; rw [mm2, Int.mul_add, Int.add_emod])
  right_distrib a b c := ext (by show (((a.v + b.v) % p) * c.v) % p = ((a.v * c.v) % p + (b.v * c.v) % p) % p; rw [mm1, Int.add_mul, Int.add_emod])
  zero_mul a := ext (by show ((0 % p) * a.v) % p = 0 % p; simp)
  mul_zero a := ext (by show (a.v * (0 % p)) % p = 0 % p; simp)
  pow_zero a := rfl
  pow_succ a n := rfl
  ofNat_succ n := ext (by show ((n + 1 : Nat) : Int) % p = ((n : Int) % p + ((1 : Nat) : Int) % p) % p; simp)
  ofNat_eq_natCast n := rfl
  nsmul_eq_natCast_mul n a := rfl
instance : Lean.Grind.Ring (Fp p) where
  neg a := of (-a.v)
  sub a b := of (a.v - b.v)
  intCast := ⟨of⟩
  zsmul := ⟨fun i a => of (i % p * a.v)⟩
  neg_add_cancel a := ext (by show ((-a.v) % p + a.v) % p = ((0 : Nat) : Int) % p; simp [Int.add_left_neg])
  sub_eq_add_neg a b := ext (by show (a.v - b.v) % p = (a.v + (-b.v) % p) % p; rw [Int.add_emod_emod]; rfl)
  neg_zsmul i a := ext (by
    show ((-i) % p * a.v) % p = (-((i % p * a.v) % p)) % p
    rw [mm1, Int.neg_mul, mm1, ng])
  zsmul_natCast_eq_nsmul n a := rfl
  intCast_ofNat n := rfl
  intCast_neg i := ext (by show (-i) % p = (-(i % p)) % p; exact (ng _).symm)
instance : Lean.Grind.CommRing (Fp p) where
  mul_comm a b := ext (by show (a.v * b.v) % p = (b.v * a.v) % p; rw [Int.mul_comm])
theorem zero_v : (0 : Fp p).v = 0 := by show ((0 : Nat) : Int) % p = 0; simp
theorem one_v : (1 : Fp p).v = 1 := by show ((1 : Nat) : Int) % p = 1; exact Int.emod_eq_of_lt (by omega) (by have := Pr.gt (p := p); omega)
theorem add_v (a b : Fp p) : (a + b).v = (a.v + b.v) % p := rfl
theorem mul_v (a b : Fp p) : (a * b).v = (a.v * b.v) % p := rfl
theorem sub_v (a b : Fp p) : (a - b).v = (a.v - b.v) % p := rfl
theorem neg_v (a : Fp p) : (-a).v = (-a.v) % p := rfl
theorem inv_mul {a : Fp p} (h : a.v ≠ 0) : (inv a).v * a.v % p = 1 := by
  have hp := Pr.pr (p := p)
  have lo := a.lo
  have hi := a.hi
  unfold inv
  rw [if_neg h]
  obtain ⟨x, l, u⟩ := a
  simp only at h lo hi ⊢
  rcases hp with rfl | rfl | rfl | rfl
  · have : x = 1 := by omega
    subst this; rfl
  · have : x = 1 ∨ x = 2 := by omega
    rcases this with rfl | rfl <;> rfl
  · have : x = 1 ∨ x = 2 ∨ x = 3 ∨ x = 4 := by omega
    rcases this with rfl | rfl | rfl | rfl <;> rfl
  · have : x = 1 ∨ x = 2 ∨ x = 3 ∨ x = 4 ∨ x = 5 ∨ x = 6 := by omega
    rcases this with rfl | rfl | rfl | rfl | rfl | rfl <;> rfl
instance : Lean.Grind.Field (Fp p) where
  inv := inv
  div a b := a * inv b
  zpow := ⟨powZ⟩
  div_eq_mul_inv a b := rfl
  zero_ne_one h := by
    have := congrArg Fp.v h
    rw [zero_v, one_v] at this
    omega
  inv_zero := by
    show inv (0 : Fp p) = 0
    unfold inv
    rw [if_pos zero_v]
    rfl
  mul_inv_cancel {a} h := by
    refine ext ?_
    have : a.v ≠ 0 := fun e => h (ext (by rw [e, zero_v]))
    show (a.v * (inv a).v) % p = ((1 : Nat) : Int) % p
    rw [Int.mul_comm, inv_mul this]
    exact one_v.symm
  zpow_zero a := rfl
  zpow_succ a n := by
    show powZ a (((n + 1 : Nat)) : Int) = powZ a (n : Int) * a
    rfl
  zpow_neg a n := by
    show powZ a (-n) = inv (powZ a n)
    have inv1 : inv (of 1 : Fp p) = of 1 := by
      refine ext ?_
      have h1 : (of 1 : Fp p).v = 1 := one_v
      have := inv_mul (a := (of 1 : Fp p)) (by rw [h1]; omega)
      rw [h1, Int.mul_one, v_mod] at this
      rw [this, h1]
    have invinv : ∀ b : Fp p, inv (inv b) = b := fun b => by
      by_cases z : b.v = 0
      · have : inv b = b := by unfold inv; rw [if_pos z]; exact ext (by rw [z]; exact zero_v)
        rw [this, this]
      · have e1 := inv_mul z
        have z2 : (inv b).v ≠ 0 := fun q => by rw [q] at e1; simp at e1
        have e2 := inv_mul z2
        refine ext ?_
        have : ((inv (inv b)).v * ((inv b).v * b.v % p)) % p = ((inv (inv b)).v * (inv b).v % p * b.v) % p := by
          rw [mm1, mm2, Int.mul_assoc]
        rw [e1, e2, Int.mul_one, Int.one_mul, v_mod, v_mod] at this
        exact this
    cases n with
    | ofNat n =>
      cases n with
      | zero => exact inv1.symm
      | succ n => rfl
    | negSucc n =>
      show powN a (n + 1) = inv (inv (powN a (n + 1)))
      rw [invinv]
end Fp

section
variable {K : Type} [Lean.Grind.CommRing K]
def sm : Nat → (Nat → K) → K
  | 0, _ => 0
  | n + 1, f => sm n f + f n
theorem sm_congr {n : Nat} {f g : Nat → K} (h : ∀ i, i < n → f i = g i) : sm n f = sm n g := by
  induction n with
  | zero => rfl
  | succ n ih => show sm n f + f n = sm n g + g n; rw [ih fun i hi => h i (by omega), h n (by omega)]
theorem sm_zero (n : Nat) : sm n (fun _ => (0 : K)) = 0 := by
  induction n with
  | zero => rfl
  | succ n ih => show sm n _ + 0 = 0; rw [ih]; grind
theorem sm_z {n : Nat} {f : Nat → K} (h : ∀ i, i < n → f i = 0) : sm n f = 0 := by rw [sm_congr h, sm_zero]
theorem sm_add (n : Nat) (f g : Nat → K) : sm n (fun i => f i + g i) = sm n f + sm n g := by
  induction n with
  | zero => show (0 : K) = 0 + 0; grind
  | succ n ih => show sm n _ + (f n + g n) = (sm n f + f n) + (sm n g + g n); rw [ih]; grind
theorem sm_mul (n : Nat) (c : K) (f : Nat → K) : sm n (fun i => c * f i) = c * sm n f := by
  induction n with
  | zero => show (0 : K) = c * 0; grind
  | succ n ih => show sm n _ + c * f n = c * (sm n f + f n); rw [ih]; grind
theorem sm_mulr (n : Nat) (c : K) (f : Nat → K) : sm n (fun i => f i * c) = sm n f * c := by
  induction n with
  | zero => show (0 : K) = 0 * c; grind
  | succ n ih => show sm n _ + f n * c = (sm n f + f n) * c; rw [ih]; grind
theorem sm_neg (n : Nat) (f : Nat → K) : sm n (fun i => - f i) = - sm n f := by
  induction n with
  | zero => show (0 : K) = -0; grind
  | succ n ih => show sm n _ + - f n = -(sm n f + f n); rw [ih]; grind
theorem sm_sub (n : Nat) (f g : Nat → K) : sm n (fun i => f i - g i) = sm n f - sm n g := by
  induction n with
  | zero => show (0 : K) = 0 - 0; grind
  | succ n ih => show sm n _ + (f n - g n) = (sm n f + f n) - (sm n g + g n); rw [ih]; grind
theorem sm_swap (n m : Nat) (f : Nat → Nat → K) : sm n (fun i => sm m (f i)) = sm m (fun j => sm n fun i => f i j) := by
  induction n with
  | zero => show (0 : K) = sm m fun _ => 0; rw [sm_zero]
  | succ n ih => show sm n _ + sm m (f n) = sm m fun j => (sm n fun i => f i j) + f n j; rw [sm_add, ih]
/-- one alone is not 0 -/
theorem sm_one {n k : Nat} {f : Nat → K} (hk : k < n) (h : ∀ i, i < n → i ≠ k → f i = 0) : sm n f = f k := by
  induction n with
  | zero => omega
  | succ n ih =>
    show sm n f + f n = f k
    by_cases e : k = n
    · subst e
      rw [sm_z fun i hi => h i (by omega) (by omega)]
      grind
    · rw [ih (by omega) fun i hi => h i (by omega), h n (by omega) (by omega)]
      grind
theorem sm_append (n m : Nat) (f : Nat → K) : sm (n + m) f = sm n f + sm m (fun i => f (n + i)) := by
  induction m with
  | zero => show sm n f = sm n f + 0; grind
  | succ m ih => show sm (n + m) f + f (n + m) = sm n f + (sm m _ + f (n + m)); rw [ih]; grind
theorem sm_succ (n : Nat) (f : Nat → K) : sm (n + 1) f = sm n f + f n := rfl
theorem sm_head (n : Nat) (f : Nat → K) : sm (n + 1) f = f 0 + sm n (fun i => f (i + 1)) := by
  rw [show n + 1 = 1 + n by omega, sm_append]
  have : sm 1 f = f 0 := by show 0 + f 0 = f 0; grind
  rw [this]
  congr 1
  exact sm_congr fun i _ => by rw [Nat.add_comm]
def dl (i j : Nat) : K := if i = j then 1 else 0
theorem sm_dl {n k : Nat} (f : Nat → K) (hk : k < n) : sm n (fun i => dl k i * f i) = f k := by
  rw [sm_one hk fun i _ hi => by unfold dl; rw [if_neg (Ne.symm hi)]; grind]
  unfold dl
  rw [if_pos rfl]
  grind
theorem sm_dlr {n k : Nat} (f : Nat → K) (hk : k < n) : sm n (fun i => f i * dl i k) = f k := by
  rw [sm_one hk fun i _ hi => by unfold dl; rw [if_neg hi]; grind]
  unfold dl
  rw [if_pos rfl]
  grind
/-- products of tables -/
def mm (w : Nat) (A B : Nat → Nat → K) : Nat → Nat → K := fun i j => sm w fun k => A i k * B k j
/-- a table leads a load -/
def ml (w : Nat) (A : Nat → Nat → K) (v : Nat → K) : Nat → K := fun i => sm w fun k => A i k * v k
theorem mm_assoc (w u : Nat) (A B C : Nat → Nat → K) : mm u (mm w A B) C = mm w A (mm u B C) := by
  funext i j
  show sm u (fun k => (sm w fun l => A i l * B l k) * C k j) = sm w fun l => A i l * sm u fun k => B l k * C k j
  have a : ∀ k, (sm w fun l => A i l * B l k) * C k j = sm w fun l => A i l * (B l k * C k j) := fun k => by
    rw [← sm_mulr]
    exact sm_congr fun l _ => by grind
  have b : ∀ l, A i l * (sm u fun k => B l k * C k j) = sm u fun k => A i l * (B l k * C k j) := fun l => by rw [← sm_mul]
  rw [sm_congr fun k _ => a k, sm_congr fun l _ => b l, sm_swap]
theorem ml_mm (w u : Nat) (A B : Nat → Nat → K) (v : Nat → K) : ml u (mm w A B) v = ml w A (ml u B v) := by
  funext i
  exact congrFun (congrFun (mm_assoc w u A B fun k _ => v k) i) 0
end
end La

set_option maxHeartbeats 4000000
namespace Mn
open PySem PySem.Spec PyProof.Rows
open L2 (atI ixN cutS)
def F_columns_of (v_table : Int × Int × List (List Int)) : Option (List (List Int)) :=
  (rng1 v_table.2.1).bind fun (r1 : List Int) =>
  mapG r1 fun (y2 : Int) => ((mapG v_table.2.2 fun (y3 : List Int) => atI y3 y2).bind fun (t5 : List Int) => some t5)
end Mn

namespace Mn
open PySem PySem.Spec PyProof.Rows
open L2 (atI ixN cutS)
def F_summed (v_p : Int) (v_row : List Int) (v_load : List Int) : Option (Int) :=
  (mapG (List.zip v_row v_load) fun (y1 : Int × Int) => mulG y1.1 y1.2).bind fun (t3 : List Int) =>
  modG t3.sum v_p
end Mn

namespace Mn
open PySem PySem.Spec PyProof.Rows
open L2 (atI ixN cutS)
def F_product (v_p : Int) (v_one : Int × Int × List (List Int)) (v_other : Int × Int × List (List Int)) : Option (Int × Int × List (List Int)) :=
  (F_columns_of v_other).bind fun (v_columns_2 : List (List Int)) =>
  (mapG v_one.2.2 fun (y3 : List Int) => ((mapG v_columns_2 fun (y4 : List Int) => F_summed v_p y3 y4).bind fun (t6 : List Int) => some t6)).bind fun (v_rows_8 : List (List Int)) =>
  some ((v_one.1, v_other.2.1, v_rows_8))
end Mn

namespace Mn
open PySem PySem.Spec PyProof.Rows
open L2 (atI ixN cutS)
def F_led (v_p : Int) (v_table : Int × Int × List (List Int)) (v_load : List Int) : Option (List Int) :=
  (mapG v_table.2.2 fun (y1 : List Int) => F_summed v_p y1 v_load).bind fun (t3 : List Int) =>
  some t3
end Mn

namespace Mn
open PySem PySem.Spec PyProof.Rows
open L2 (atI ixN cutS)
def F_added (v_p : Int) (v_one : Int × Int × List (List Int)) (v_other : Int × Int × List (List Int)) : Option (Int × Int × List (List Int)) :=
  (some (([] : List (List Int)))).bind fun (v_rows_1 : List (List Int)) =>
  (foldO (fun (x3 : List Int × List Int) (s2 : List (List Int)) =>
  (mapG (List.zip x3.1 x3.2) fun (y5 : Int × Int) => modG (y5.1 + y5.2) v_p).bind fun (t7 : List Int) =>
  (appG s2 t7).bind fun (v_rows_4 : List (List Int)) =>
  some v_rows_4) (List.zip v_one.2.2 v_other.2.2) v_rows_1).bind fun (s2 : List (List Int)) =>
  some ((v_one.1, v_one.2.1, s2))
end Mn

namespace Mn
open PySem PySem.Spec PyProof.Rows
open L2 (atI ixN cutS)
def F_turned_over (v_table : Int × Int × List (List Int)) : Option (Int × Int × List (List Int)) :=
  (F_columns_of v_table).bind fun (t1 : List (List Int)) =>
  some ((v_table.2.1, v_table.1, t1))
end Mn

namespace Mn
open PySem PySem.Spec PyProof.Rows
open L2 (atI ixN cutS)
def F_law_over (v_table_here : Int × Int × List (List Int)) : Option (Int × Int × List (List Int)) :=
  (rng1 v_table_here.2.1).bind fun (r1 : List Int) =>
  (mapG r1 fun (y2 : Int) => ((mapG v_table_here.2.2 fun (y3 : List Int) => atI y3 y2).bind fun (t5 : List Int) => some t5)).bind fun (v_rows_7 : List (List Int)) =>
  some ((v_table_here.2.1, v_table_here.1, v_rows_7))
end Mn

namespace Mn
open PySem PySem.Spec PyProof.Rows
open L2 (atI ixN cutS)
def F_law_rests (v_found : List Int) (v_due : List Int) : Option (Bool) :=
  if (((!true) || (!decide ((v_found.length : Int) = (v_due.length : Int))))) = true then
  (some false)
  else
  ((mapG v_found fun (y1 : Int) => F_law_whole y1).bind fun (t3 : List Bool) =>
  some (((t3.all id) && (decide (v_found = v_due)))))
end Mn

namespace Mn
open PySem PySem.Spec PyProof.Rows
open L2 (atI ixN cutS)
def F_law_is_table (v_found : Int × Int × List (List Int)) (v_due : Int × Int × List (List Int)) : Option (Bool) :=
  (if (!true) = true then some true else if (!decide ((3 : Int) = (3 : Int))) = true then some true else ((F_law_whole v_found.1).bind fun (t1 : Bool) => if (!t1) = true then some true else ((F_law_whole v_found.2.1).bind fun (t2 : Bool) => some (!t2)))).bind fun (t5 : Bool) =>
  if t5 = true then
  (some false)
  else
  (if (((!decide ((v_found.1, v_found.2.1) = (v_due.1, v_due.2.1))) || (((!true) || (!decide ((v_found.2.2.length : Int) = v_due.1)))))) = true then
  (some false)
  else
  ((rng1 v_due.1).bind fun (r6 : List Int) =>
  (mapG r6 fun (y7 : Int) => ((atI v_found.2.2 y7).bind fun (t8 : List Int) => (atI v_due.2.2 y7).bind fun (t9 : List Int) => F_law_rests t8 t9)).bind fun (t11 : List Bool) =>
  some (t11.all id)))
end Mn

set_option maxHeartbeats 1000000
namespace La
open Mn
open PySem
open L2 (atI ixN atI_nat)
theorem lim : LIM = 1000000 := rfl
theorem mulG_l {x y : Int} (h1 : -1000000000000000 ≤ x) (h2 : x ≤ 1000000000000000) : mulG x y = some (x * y) := by
  unfold mulG
  rw [z_small_of h1 h2]
  rfl
theorem mulG_r {x y : Int} (h1 : -1000000000000000 ≤ y) (h2 : y ≤ 1000000000000000) : mulG x y = some (x * y) := by
  unfold mulG
  rw [z_small_of h1 h2, Bool.or_true]
  rfl
theorem modG_s {x y : Int} (h : 0 < y) : modG x y = some (x % y) := if_pos h
theorem fdivG_s {x y : Int} (h : 0 < y) (h2 : y < 1073741824) : fdivG x y = some (x / y) := if_pos ⟨h, h2⟩
theorem rng1_s {n : Nat} (h : n ≤ 1000000) : rng1 (n : Int) = some ((List.range n).map fun i : Nat => (i : Int)) := by
  unfold rng1
  rw [if_pos ⟨by omega, by omega⟩, Int.toNat_natCast]
theorem rng1_z {n : Int} (h0 : 0 ≤ n) (h : n ≤ 1000000) : rng1 n = some ((List.range n.toNat).map fun i : Nat => (i : Int)) := by
  unfold rng1
  rw [if_pos ⟨by omega, by omega⟩]
theorem rng2_s {a b : Int} (h0 : -1000000 ≤ a) (h1 : a ≤ 1000000) (h2 : -1000000 ≤ b) (h3 : b ≤ 1000000) : rng2 a b = some ((List.range (b - a).toNat).map fun i : Nat => a + (i : Int)) := by
  unfold rng2
  rw [if_pos ⟨h0, h1, h2, h3⟩]
theorem mapO_s {α β : Type} {f : α → Option β} {g : α → β} : ∀ {xs : List α}, (∀ x ∈ xs, f x = some (g x)) → mapO f xs = some (xs.map g)
  | [], _ => rfl
  | x :: xs, h => by
    unfold mapO
    rw [h x (by simp), mapO_s fun y hy => h y (by simp [hy])]
    rfl
theorem mapG_s {α β : Type} {f : α → Option β} {xs : List α} (g : α → β) (h : ∀ x ∈ xs, f x = some (g x)) (hl : xs.length ≤ LIM) : mapG xs f = some (xs.map g) := by
  unfold mapG
  rw [if_pos hl, mapO_s h]
theorem mapG_r {α β : Type} {f : α → Option β} {φ : Nat → α} {n : Nat} (g : Nat → β) (h : ∀ i, i < n → f (φ i) = some (g i)) (hl : n ≤ 1000000) : mapG ((List.range n).map φ) f = some ((List.range n).map g) := by
  have : mapO f ((List.range n).map φ) = some ((List.range n).map g) := by
    have : ∀ xs : List Nat, (∀ i ∈ xs, f (φ i) = some (g i)) → mapO f (xs.map φ) = some (xs.map g) := fun xs => by
      induction xs with
      | nil => intro _; rfl
      | cons x xs ih =>
        intro h
        rw [List.map_cons, List.map_cons]
        unfold mapO
        rw [h x (by simp), ih fun i hi => h i (by simp [hi])]
        rfl
    exact this _ fun i hi => h i (List.mem_range.mp hi)
  unfold mapG
  rw [if_pos (by rw [List.length_map, List.length_range, lim]; exact hl), this]
theorem filO_s {α β : Type} {f : α → Option (Option β)} {g : α → Option β} : ∀ {xs : List α}, (∀ x ∈ xs, f x = some (g x)) → filO f xs = some (xs.filterMap g)
  | [], _ => rfl
  | x :: xs, h => by
    unfold filO
    rw [h x (by simp), filO_s fun y hy => h y (by simp [hy]), List.filterMap_cons]
    cases g x <;> rfl
theorem filG_s {α β : Type} {f : α → Option (Option β)} {xs : List α} (g : α → Option β) (h : ∀ x ∈ xs, f x = some (g x)) (hl : xs.length ≤ LIM) : filG xs f = some (xs.filterMap g) := by
  unfold filG
  rw [if_pos hl, filO_s h]
theorem appG_s {α : Type} {xs : List α} {x : α} (h : xs.length < 1000000) : appG xs x = some (xs ++ [x]) := if_pos h
theorem catG_s {α : Type} {xs ys : List α} (h : xs.length + ys.length ≤ 1000000) : catG xs ys = some (xs ++ ys) := if_pos h
/-- a loop that appends one thing a time -/
theorem foldO_r {α β : Type} {f : α → List β → Option (List β)} {φ : Nat → α} {n : Nat} (g : Nat → β) (h : ∀ i, i < n → ∀ s, f (φ i) s = appG s (g i)) (hl : n ≤ 1000000) : foldO f ((List.range n).map φ) [] = some ((List.range n).map g) := by
  have : ∀ (xs : List Nat) (s : List β), (∀ i ∈ xs, i < n) → s.length + xs.length ≤ 1000000 → foldO f (xs.map φ) s = some (s ++ xs.map g) := fun xs => by
    induction xs with
    | nil => intro s _ _; simp [foldO]
    | cons x xs ih =>
      intro s hx hs
      rw [List.map_cons]
      unfold foldO
      rw [List.length_cons] at hs
      rw [h x (hx x (by simp)) s, appG_s (by omega)]
      show foldO f (xs.map φ) (s ++ [g x]) = _
      rw [ih _ (fun i hi => hx i (by simp [hi])) (by rw [List.length_append, List.length_cons, List.length_nil]; omega)]
      simp
  have := this (List.range n) [] (fun i hi => List.mem_range.mp hi) (by simp; omega)
  simpa using this
/-- a loop by an invariant -/
theorem foldO_inv {σ α : Type} {f : α → σ → Option σ} {φ : Nat → α} {n : Nat} (I : Nat → σ → Prop) {s0 : σ} (h0 : I 0 s0) (h : ∀ i s, i < n → I i s → ∃ s', f (φ i) s = some s' ∧ I (i + 1) s') : ∃ s, foldO f ((List.range n).map φ) s0 = some s ∧ I n s := by
  induction n generalizing φ s0 I with
  | zero => exact ⟨s0, rfl, h0⟩
  | succ n ih =>
    rw [List.range_succ_eq_map, List.map_cons, List.map_map]
    obtain ⟨s1, e1, h1⟩ := h 0 s0 (by omega) h0
    obtain ⟨s, e, hs⟩ := ih (φ := φ ∘ Nat.succ) (fun i s => I (i + 1) s) h1 (fun i s hi q => h (i + 1) s (by omega) q)
    refine ⟨s, ?_, hs⟩
    unfold foldO
    rw [e1]
    exact e
/-- a loop by what stands at each turn -/
theorem foldO_st {σ α : Type} {f : α → σ → Option σ} {φ : Nat → α} {n : Nat} (S : Nat → σ) (h : ∀ i, i < n → f (φ i) (S i) = some (S (i + 1))) : foldO f ((List.range n).map φ) (S 0) = some (S n) := by
  obtain ⟨s, e, rfl⟩ := foldO_inv (f := f) (φ := φ) (n := n) (fun i s => s = S i) rfl (fun i s hi e => ⟨S (i + 1), by rw [e]; exact h i hi, rfl⟩)
  exact e
theorem loopO_nx {σ ρ α : Type} {f : α → σ → Option (Lp σ ρ)} {φ : Nat → α} {n : Nat} (S : Nat → σ) (h : ∀ i, i < n → f (φ i) (S i) = some (.nx (S (i + 1)))) : loopO f ((List.range n).map φ) (S 0) = some (.nx (S n)) := by
  induction n generalizing φ S with
  | zero => rfl
  | succ n ih =>
    rw [List.range_succ_eq_map, List.map_cons, List.map_map]
    unfold loopO
    rw [h 0 (by omega)]
    exact ih (φ := φ ∘ Nat.succ) (fun i => S (i + 1)) fun i hi => h (i + 1) (by omega)
theorem zip_r {α β : Type} (f : Nat → α) (g : Nat → β) (n : Nat) : List.zip ((List.range n).map f) ((List.range n).map g) = (List.range n).map fun i => (f i, g i) := by
  generalize List.range n = xs
  induction xs with
  | nil => rfl
  | cons x xs ih => simp [ih]
theorem at_r {α : Type} (f : Nat → α) {n i : Nat} (h : i < n) : atI ((List.range n).map f) (i : Int) = some (f i) := atI_nat (by rw [List.getElem?_map, List.getElem?_range h]; rfl)
theorem at_z {α : Type} (f : Nat → α) {n : Nat} {i : Int} (h0 : 0 ≤ i) (h : i < n) : atI ((List.range n).map f) i = some (f i.toNat) := by
  have e : i = ((i.toNat : Nat) : Int) := by omega
  conv => lhs; rw [e]
  exact at_r f (by omega)
theorem r_inj {α : Type} {f g : Nat → α} {n : Nat} : (List.range n).map f = (List.range n).map g ↔ ∀ i, i < n → f i = g i := by
  constructor
  · intro h i hi
    have : ((List.range n).map f)[i]? = ((List.range n).map g)[i]? := by rw [h]
    rw [List.getElem?_map, List.getElem?_map, List.getElem?_range hi] at this
    exact Option.some.inj this
  · intro h
    exact List.map_congr_left fun i hi => h i (List.mem_range.mp hi)
theorem r_len {α : Type} (f : Nat → α) (n : Nat) : ((List.range n).map f).length = n := by rw [List.length_map, List.length_range]
variable {p : Int} [Pr p]
def lst (n : Nat) (v : Nat → Fp p) : List Int := (List.range n).map fun i => (v i).v
def rws (h w : Nat) (A : Nat → Nat → Fp p) : List (List Int) := (List.range h).map fun i => lst w (A i)
def tb (h w : Nat) (A : Nat → Nat → Fp p) : Int × Int × List (List Int) := ((h : Int), (w : Int), rws h w A)
theorem lst_len (n : Nat) (v : Nat → Fp p) : (lst n v).length = n := r_len _ _
theorem rws_len (h w : Nat) (A : Nat → Nat → Fp p) : (rws h w A).length = h := r_len _ _
theorem lst_at {n i : Nat} (v : Nat → Fp p) (h : i < n) : atI (lst n v) (i : Int) = some (v i).v := at_r _ h
theorem rws_at {n w i : Nat} (A : Nat → Nat → Fp p) (h : i < n) : atI (rws n w A) (i : Int) = some (lst w (A i)) := at_r _ h
theorem lst_eq {n : Nat} {v w : Nat → Fp p} : lst n v = lst n w ↔ ∀ i, i < n → v i = w i := by
  unfold lst
  rw [r_inj]
  exact ⟨fun h i hi => Fp.ext (h i hi), fun h i hi => by rw [h i hi]⟩
theorem rws_eq {h w : Nat} {A B : Nat → Nat → Fp p} : rws h w A = rws h w B ↔ ∀ i, i < h → ∀ j, j < w → A i j = B i j := by
  unfold rws
  rw [r_inj]
  exact ⟨fun q i hi => lst_eq.mp (q i hi), fun q i hi => lst_eq.mpr (q i hi)⟩
theorem tb_eq {h w : Nat} {A B : Nat → Nat → Fp p} : tb h w A = tb h w B ↔ ∀ i, i < h → ∀ j, j < w → A i j = B i j := by
  unfold tb
  rw [Prod.mk.injEq, Prod.mk.injEq, rws_eq]
  exact ⟨fun q => q.2.2, fun q => ⟨rfl, rfl, q⟩⟩
theorem tb_congr {h w : Nat} {A B : Nat → Nat → Fp p} (q : ∀ i, i < h → ∀ j, j < w → A i j = B i j) : tb h w A = tb h w B := tb_eq.mpr q
theorem v_small (a : Fp p) : -1000000000000000 ≤ a.v ∧ a.v ≤ 1000000000000000 := by
  have := a.lo; have := a.hi; have := Pr.le (p := p); omega
theorem sum_r (n : Nat) (f : Nat → Int) : ((List.range (n + 1)).map f).sum = ((List.range n).map f).sum + f n := by
  rw [List.range_succ, List.map_append, List.sum_append, List.map_singleton, List.sum_singleton]
theorem dot_sm (n : Nat) (a b : Nat → Fp p) : ((List.range n).map fun i => (a i).v * (b i).v).sum % p = (sm n fun i => a i * b i).v := by
  induction n with
  | zero => show (0 : Int) % p = (0 : Fp p).v; rw [Fp.zero_v, Int.zero_emod]
  | succ n ih =>
    rw [sum_r, sm_succ, Fp.add_v, ← ih, Fp.mul_v, ← Int.add_emod]
theorem pP : 0 < p := Pr.pos
theorem f_summed (n : Nat) (hn : n ≤ 1000000) (a b : Nat → Fp p) : F_summed p (lst n a) (lst n b) = some (sm n fun i => a i * b i).v := by
  unfold F_summed lst
  rw [zip_r, mapG_r (fun i => (a i).v * (b i).v) (fun i _ => mulG_l (v_small _).1 (v_small _).2) hn]
  rw [Option.bind_some, modG_s pP, dot_sm]
theorem f_led (h w : Nat) (hh : h ≤ 1000000) (hw : w ≤ 1000000) (A : Nat → Nat → Fp p) (v : Nat → Fp p) : F_led p (tb h w A) (lst w v) = some (lst h (ml w A v)) := by
  unfold F_led tb rws
  rw [mapG_r (fun i => (ml w A v i).v) (fun i _ => f_summed w hw (A i) v) hh]
  rfl
theorem f_columns (h w : Nat) (hh : h ≤ 1000000) (hw : w ≤ 1000000) (A : Nat → Nat → Fp p) : F_columns_of (tb h w A) = some (rws w h fun i j => A j i) := by
  unfold F_columns_of
  show (rng1 (w : Int)).bind _ = _
  rw [rng1_s hw, Option.bind_some]
  show mapG _ _ = _
  rw [mapG_r (fun i => lst h fun j => A j i) (fun i hi => ?_) hw]
  · rfl
  · show (mapG (rws h w A) _).bind _ = _
    unfold rws
    rw [mapG_r (fun j => (A j i).v) (fun j _ => lst_at (A j) hi) hh]
    rfl
theorem f_product (h w n : Nat) (hh : h ≤ 1000000) (hw : w ≤ 1000000) (hn : n ≤ 1000000) (A B : Nat → Nat → Fp p) : F_product p (tb h w A) (tb w n B) = some (tb h n (mm w A B)) := by
  unfold F_product
  rw [f_columns w n hw hn, Option.bind_some]
  show (mapG (rws h w A) _).bind _ = _
  unfold rws
  rw [mapG_r (fun i => lst n (mm w A B i)) (fun i hi => ?_) hh]
  · rfl
  · rw [mapG_r (fun j => (mm w A B i j).v) (fun j _ => f_summed w hw (A i) fun k => B k j) hn]
    rfl
theorem f_turned_over (h w : Nat) (hh : h ≤ 1000000) (hw : w ≤ 1000000) (A : Nat → Nat → Fp p) : F_turned_over (tb h w A) = some (tb w h fun i j => A j i) := by
  unfold F_turned_over
  rw [f_columns h w hh hw]
  rfl
theorem f_added (h w : Nat) (hh : h ≤ 1000000) (hw : w ≤ 1000000) (A B : Nat → Nat → Fp p) : F_added p (tb h w A) (tb h w B) = some (tb h w fun i j => A i j + B i j) := by
  unfold F_added
  show (foldO _ (List.zip (rws h w A) (rws h w B)) []).bind _ = _
  unfold rws
  rw [zip_r, foldO_r (fun i => lst w fun j => A i j + B i j) (fun i _ s => ?_) hh]
  · rfl
  · show (mapG (List.zip (lst w (A i)) (lst w (B i))) _).bind _ = _
    unfold lst
    rw [zip_r, mapG_r (fun j => (A i j + B i j).v) (fun j _ => modG_s pP) hw]
    show (appG s _).bind _ = _
    cases appG s ((List.range w).map fun j => (A i j + B i j).v) <;> rfl
theorem f_law_product (h w n : Nat) (hh : h ≤ 1000000) (hw : w ≤ 1000000) (hn : n ≤ 1000000) (A B : Nat → Nat → Fp p) : F_law_product p (tb h w A) (tb w n B) = some (tb h n (mm w A B)) := by
  unfold F_law_product
  show (foldO _ (rws h w A) []).bind _ = _
  unfold rws
  rw [foldO_r (fun i => lst n (mm w A B i)) (fun i _ s => ?_) hh]
  · rfl
  · show (rng1 (n : Int)).bind _ = _
    rw [rng1_s hn, Option.bind_some, mapG_r (fun j => (mm w A B i j).v) (fun j hj => ?_) hn]
    · show (appG s _).bind _ = _
      unfold lst
      cases appG s _ <;> rfl
    · show (rng1 (w : Int)).bind _ = _
      rw [rng1_s hw, Option.bind_some, mapG_r (fun k => (A i k).v * (B k j).v) (fun k hk => ?_) hw]
      · rw [Option.bind_some, modG_s pP, dot_sm]
        rfl
      · rw [lst_at _ hk, Option.bind_some]
        show (atI (rws w n B) k).bind _ = _
        rw [rws_at _ hk, Option.bind_some, lst_at _ hj, Option.bind_some, mulG_l (v_small _).1 (v_small _).2]
theorem f_law_led (h w : Nat) (hh : h ≤ 1000000) (hw : w ≤ 1000000) (A : Nat → Nat → Fp p) (v : Nat → Fp p) : F_law_led p (tb h w A) (lst w v) = some (lst h (ml w A v)) := by
  unfold F_law_led tb rws
  rw [mapG_r (fun i => (ml w A v i).v) (fun i _ => f_summed w hw (A i) v) hh]
  rfl
theorem f_law_over (h w : Nat) (hh : h ≤ 1000000) (hw : w ≤ 1000000) (A : Nat → Nat → Fp p) : F_law_over (tb h w A) = some (tb w h fun i j => A j i) := by
  have := f_columns h w hh hw A
  unfold F_columns_of at this
  unfold F_law_over
  obtain ⟨r, e1, e2⟩ := bind_of this
  rw [e1, Option.bind_some, e2]
  rfl
theorem all_true {n : Nat} {α : Type} (xs : List α) : (xs.map fun _ => true).all id = true := by induction xs <;> simp_all
theorem f_law_rests (x : List Int) (hx : x.length ≤ 1000000) : F_law_rests x x = some true := by
  unfold F_law_rests
  have e : mapG x (fun y1 => F_law_whole y1) = some (x.map fun _ => true) := mapG_s (fun _ => true) (fun _ _ => rfl) hx
  rw [e]
  simp
theorem f_law_rests_ne {x y : List Int} (hx : x.length ≤ 1000000) : F_law_rests x y = some (decide (x = y)) := by
  by_cases h : x = y
  · subst h; rw [f_law_rests x hx]; simp
  · unfold F_law_rests
    have e : mapG x (fun y1 => F_law_whole y1) = some (x.map fun _ => true) := mapG_s (fun _ => true) (fun _ _ => rfl) hx
    rw [e]
    by_cases q : (x.length : Int) = y.length <;> simp [h, q]
theorem f_law_is_table (h w : Nat) (hh : h ≤ 1000000) (hw : w ≤ 1000000) (A : Nat → Nat → Fp p) : F_law_is_table (tb h w A) (tb h w A) = some true := by
  unfold F_law_is_table
  have e : mapG ((List.range h).map fun i : Nat => (i : Int)) (fun y => (atI (rws h w A) y).bind fun t8 => (atI (rws h w A) y).bind fun t9 => F_law_rests t8 t9) = some ((List.range h).map fun _ => true) := mapG_r (fun _ => true) (fun i hi => by
    rw [rws_at _ hi, Option.bind_some, Option.bind_some]
    exact f_law_rests _ (by rw [lst_len]; exact hw)) hh
  simp [F_law_whole, tb, rws_len, rng1_s hh, e]
end La

namespace La
section
variable {K : Type} [Lean.Grind.Field K] [DecidableEq K]
inductive Spn (L : List (Nat → K)) : (Nat → K) → Prop
  | zero : Spn L (fun _ => 0)
  | add (c : K) {b v : Nat → K} : b ∈ L → Spn L v → Spn L (fun i => v i + c * b i)
theorem Spn.eq {L : List (Nat → K)} {v w : Nat → K} (h : Spn L v) (e : ∀ i, w i = v i) : Spn L w := by
  have : w = v := funext e
  rw [this]; exact h
theorem Spn.mem {L : List (Nat → K)} {b : Nat → K} (h : b ∈ L) : Spn L b := (Spn.add 1 h .zero).eq fun i => by grind
theorem Spn.plus {L : List (Nat → K)} {v w : Nat → K} (hv : Spn L v) (hw : Spn L w) : Spn L (fun i => v i + w i) := by
  induction hw with
  | zero => exact hv.eq fun i => by grind
  | add c hb _ ih => exact (ih.add c hb).eq fun i => by grind
theorem Spn.smul {L : List (Nat → K)} {v : Nat → K} (c : K) (hv : Spn L v) : Spn L (fun i => c * v i) := by
  induction hv with
  | zero => exact Spn.zero.eq fun i => by grind
  | add d hb _ ih => exact (ih.add (c * d) hb).eq fun i => by grind
theorem Spn.sub {L : List (Nat → K)} {v w : Nat → K} (hv : Spn L v) (hw : Spn L w) : Spn L (fun i => v i - w i) := ((hv.plus (hw.smul (-1)))).eq fun i => by grind
theorem Spn.less {L : List (Nat → K)} {v w : Nat → K} (c : K) (hv : Spn L v) (hw : Spn L w) : Spn L (fun i => v i - c * w i) := hv.sub (hw.smul c)
theorem Spn.mono {L M : List (Nat → K)} (h : ∀ b ∈ L, Spn M b) {v : Nat → K} (hv : Spn L v) : Spn M v := by
  induction hv with
  | zero => exact .zero
  | add c hb _ ih => exact (ih.plus ((h _ hb).smul c))
theorem Spn.sup {L : List (Nat → K)} {n : Nat} (h : ∀ b ∈ L, ∀ i, n ≤ i → b i = 0) {v : Nat → K} (hv : Spn L v) : ∀ i, n ≤ i → v i = 0 := by
  induction hv with
  | zero => intro i _; rfl
  | add c hb _ ih => intro i hi; have := ih i hi; have := h _ hb i hi; grind
theorem spn_nil {v : Nat → K} (h : Spn [] v) : ∀ i, v i = 0 := by
  cases h with
  | zero => intro i; rfl
  | add c hb _ => exact absurd hb (by simp)
/-- a base with its leads -/
structure Rf (n : Nat) (ps : List (Nat × (Nat → K))) : Prop where
  inc : ps.Pairwise (fun a b => a.1 < b.1)
  one : ∀ q ∈ ps, q.2 q.1 = 1
  low : ∀ q ∈ ps, ∀ i, i < q.1 → q.2 i = 0
  oth : ∀ q ∈ ps, ∀ r ∈ ps, q.1 ≠ r.1 → r.2 q.1 = 0
  lt : ∀ q ∈ ps, q.1 < n
  sup : ∀ q ∈ ps, ∀ i, n ≤ i → q.2 i = 0
def vs (ps : List (Nat × (Nat → K))) : List (Nat → K) := ps.map Prod.snd
theorem mem_vs {ps : List (Nat × (Nat → K))} {b : Nat → K} : b ∈ vs ps ↔ ∃ q ∈ ps, q.2 = b := by unfold vs; rw [List.mem_map]
/-- the sum with the numbers at the leads -/
def cmb (ps : List (Nat × (Nat → K))) (v : Nat → K) (i : Nat) : K := ps.foldr (fun q s => v q.1 * q.2 i + s) 0
theorem cmb_cons (q : Nat × (Nat → K)) (ps : List (Nat × (Nat → K))) (v : Nat → K) (i : Nat) : cmb (q :: ps) v i = v q.1 * q.2 i + cmb ps v i := rfl
theorem cmb_zero (ps : List (Nat × (Nat → K))) (v : Nat → K) (h : ∀ q ∈ ps, v q.1 = 0) (i : Nat) : cmb ps v i = 0 := by
  induction ps with
  | nil => rfl
  | cons q ps ih =>
    rw [cmb_cons, h q (by simp), ih fun r hr => h r (by simp [hr])]
    grind
theorem cmb_add (ps : List (Nat × (Nat → K))) (v w : Nat → K) (c : K) (i : Nat) : cmb ps (fun j => v j + c * w j) i = cmb ps v i + c * cmb ps w i := by
  induction ps with
  | nil => show (0 : K) = 0 + c * 0; grind
  | cons q ps ih => rw [cmb_cons, cmb_cons, cmb_cons, ih]; grind
theorem cmb_one (ps : List (Nat × (Nat → K))) (inc : ps.Pairwise (fun a b => a.1 < b.1)) {q : Nat × (Nat → K)} (hq : q ∈ ps) (v : Nat → K) (h1 : v q.1 = 1) (h0 : ∀ r ∈ ps, r.1 ≠ q.1 → v r.1 = 0) (i : Nat) : cmb ps v i = q.2 i := by
  induction ps with
  | nil => simp at hq
  | cons r ps ih =>
    have hp := List.pairwise_cons.mp inc
    rw [cmb_cons]
    rcases List.mem_cons.mp hq with rfl | hq
    · rw [h1, cmb_zero ps v fun r hr => h0 r (by simp [hr]) (by have := hp.1 r hr; omega)]
      grind
    · have := hp.1 q hq
      rw [h0 r (by simp) (by omega), ih hp.2 hq fun r hr => h0 r (by simp [hr])]
      grind
theorem Rf.coord {n : Nat} {ps : List (Nat × (Nat → K))} (R : Rf n ps) {v : Nat → K} (h : Spn (vs ps) v) : ∀ i, v i = cmb ps v i := by
  induction h with
  | zero => intro i; exact (cmb_zero ps _ (fun _ _ => rfl) i).symm
  | add c hb _ ih =>
    intro i
    rw [cmb_add, ← ih i]
    obtain ⟨q, hq, rfl⟩ := mem_vs.mp hb
    rw [cmb_one ps R.inc hq q.2 (R.one q hq) (fun r hr e => R.oth r hr q hq e) i]
theorem Rf.null {n : Nat} {ps : List (Nat × (Nat → K))} (R : Rf n ps) {v : Nat → K} (h : Spn (vs ps) v) (z : ∀ q ∈ ps, v q.1 = 0) : ∀ i, v i = 0 := fun i => by
  rw [R.coord h i, cmb_zero ps v z]
theorem cmb_low (ps : List (Nat × (Nat → K))) (v : Nat → K) (i : Nat) (h : ∀ q ∈ ps, v q.1 = 0 ∨ q.2 i = 0) : cmb ps v i = 0 := by
  induction ps with
  | nil => rfl
  | cons q ps ih =>
    rw [cmb_cons, ih fun r hr => h r (by simp [hr])]
    rcases h q (by simp) with e | e <;> rw [e] <;> grind
/-- the lead of what is in the space is one of the leads -/
theorem Rf.lead {n : Nat} {ps : List (Nat × (Nat → K))} (R : Rf n ps) {v : Nat → K} (h : Spn (vs ps) v) {l : Nat} (hl : v l ≠ 0) (z : ∀ i, i < l → v i = 0) : ∃ q ∈ ps, q.1 = l := by
  have step : ∀ ps' : List (Nat × (Nat → K)), (∀ q ∈ ps', q ∈ ps) → ps'.Pairwise (fun a b => a.1 < b.1) → (∀ q ∈ ps, q ∈ ps' ∨ v q.1 = 0) → ∃ q ∈ ps, q.1 = l := fun ps' => by
    induction ps' with
    | nil =>
      intro _ _ hz
      exact absurd (R.null h (fun q hq => (hz q hq).elim (fun a => absurd a (by simp)) id) l) hl
    | cons q ps' ih =>
      intro hs hp hz
      have hp := List.pairwise_cons.mp hp
      by_cases e : v q.1 = 0
      · refine ih (fun r hr => hs r (by simp [hr])) hp.2 fun r hr => ?_
        rcases hz r hr with a | a
        · rcases List.mem_cons.mp a with rfl | a
          · exact .inr e
          · exact .inl a
        · exact .inr a
      · refine ⟨q, hs q (by simp), ?_⟩
        have low : ∀ i, i < q.1 → v i = 0 := fun i hi => by
          rw [R.coord h i]
          refine cmb_low ps v i fun r hr => ?_
          rcases hz r hr with a | a
          · rcases List.mem_cons.mp a with rfl | a
            · exact .inr (R.low r hr i hi)
            · have := hp.1 r a
              exact .inr (R.low r hr i (by omega))
          · exact .inl a
        rcases Nat.lt_trichotomy q.1 l with a | a | a
        · exact absurd (z _ a) e
        · exact a
        · exact absurd (low _ a) hl
  exact step ps (fun q hq => hq) R.inc fun q hq => .inl hq
/-- what belongs to a base, told by the space alone -/
theorem Rf.mem_iff {n : Nat} {ps : List (Nat × (Nat → K))} (R : Rf n ps) (q : Nat × (Nat → K)) : q ∈ ps ↔ Spn (vs ps) q.2 ∧ q.2 q.1 = 1 ∧ (∀ i, i < q.1 → q.2 i = 0) ∧ ∀ v l, Spn (vs ps) v → v l ≠ 0 → (∀ i, i < l → v i = 0) → l ≠ q.1 → q.2 l = 0 := by
  constructor
  · intro hq
    refine ⟨Spn.mem (mem_vs.mpr ⟨q, hq, rfl⟩), R.one q hq, R.low q hq, fun v l hv hl z e => ?_⟩
    obtain ⟨r, hr, rfl⟩ := R.lead hv hl z
    exact R.oth r hr q hq e
  · rintro ⟨h1, h2, h3, h4⟩
    obtain ⟨r, hr, e⟩ := R.lead h1 (l := q.1) (by rw [h2]; intro e; exact Lean.Grind.Field.zero_ne_one e.symm) h3
    have : q.2 = r.2 := funext fun i => by
      have d := h1.sub (Spn.mem (mem_vs.mpr ⟨r, hr, rfl⟩))
      have := R.null d (fun s hs => by
        by_cases es : s.1 = q.1
        · rw [es, h2, ← e, R.one r hr]; grind
        · rw [h4 s.2 s.1 (Spn.mem (mem_vs.mpr ⟨s, hs, rfl⟩)) (by rw [R.one s hs]; intro e; exact Lean.Grind.Field.zero_ne_one e.symm) (R.low s hs) es, R.oth s hs r hr (by omega)]; grind) i
      grind
    have : q = r := Prod.ext e.symm this
    rw [this]
    exact hr
theorem Rf.nodup {n : Nat} {ps : List (Nat × (Nat → K))} (R : Rf n ps) : ps.Nodup := R.inc.imp fun {a b} h e => by rw [e] at h; omega
theorem Rf.uniq {n m : Nat} {ps qs : List (Nat × (Nat → K))} (R : Rf n ps) (R' : Rf m qs) (h : ∀ v, Spn (vs ps) v ↔ Spn (vs qs) v) : ps = qs := by
  have hm : ∀ q, q ∈ ps ↔ q ∈ qs := fun q => by
    rw [R.mem_iff, R'.mem_iff]
    simp only [h]
  exact List.Perm.eq_of_pairwise (fun a b _ _ x y => by omega) R.inc R'.inc ((List.perm_ext_iff_of_nodup R.nodup R'.nodup).mpr hm)
/-- one inclusion, as many: the same space -/
theorem Rf.leads_sub {n m : Nat} {ps qs : List (Nat × (Nat → K))} (R : Rf n ps) (R' : Rf m qs) (h : ∀ v, Spn (vs ps) v → Spn (vs qs) v) : ∀ l ∈ ps.map Prod.fst, l ∈ qs.map Prod.fst := fun l hl => by
  obtain ⟨q, hq, rfl⟩ := List.mem_map.mp hl
  obtain ⟨r, hr, e⟩ := R'.lead (h _ (Spn.mem (mem_vs.mpr ⟨q, hq, rfl⟩))) (l := q.1) (by rw [R.one q hq]; intro e; exact Lean.Grind.Field.zero_ne_one e.symm) (R.low q hq)
  exact List.mem_map.mpr ⟨r, hr, e⟩
theorem Rf.nodup1 {n : Nat} {ps : List (Nat × (Nat → K))} (R : Rf n ps) : (ps.map Prod.fst).Nodup := List.pairwise_map.mpr (R.inc.imp fun {a b} h e => by omega)
theorem nodup_len {α : Type} [DecidableEq α] {l m : List α} (hl : l.Nodup) (h : ∀ x ∈ l, x ∈ m) : l.length ≤ m.length := by
  induction l generalizing m with
  | nil => simp
  | cons x l ih =>
    have hp := List.nodup_cons.mp hl
    have hx := h x (by simp)
    have := ih (m := m.erase x) hp.2 fun y hy => (List.mem_erase_of_ne (by rintro rfl; exact hp.1 hy)).mpr (h y (by simp [hy]))
    rw [List.length_erase_of_mem hx] at this
    have : 0 < m.length := List.length_pos_of_mem hx
    rw [List.length_cons]
    omega
theorem Rf.size_le {n m : Nat} {ps qs : List (Nat × (Nat → K))} (R : Rf n ps) (R' : Rf m qs) (h : ∀ v, Spn (vs ps) v → Spn (vs qs) v) : ps.length ≤ qs.length := by
  have := nodup_len R.nodup1 (R.leads_sub R' h)
  simpa using this
theorem Rf.len_le {n : Nat} {ps : List (Nat × (Nat → K))} (R : Rf n ps) : ps.length ≤ n := by
  have := nodup_len (m := List.range n) R.nodup1 fun l hl => by
    obtain ⟨q, hq, rfl⟩ := List.mem_map.mp hl
    exact List.mem_range.mpr (R.lt q hq)
  simpa using this
/-- at the place q: rows have noughts ahead of it, the base's leads are ahead of it -/
structure At (n q : Nat) (rows : List (Nat → K)) (ps : List (Nat × (Nat → K))) : Prop where
  rf : Rf n ps
  ahead : ∀ r ∈ ps, r.1 < q
  zero : ∀ r ∈ rows, ∀ i, i < q → r i = 0
  sup : ∀ r ∈ rows, ∀ i, n ≤ i → r i = 0
theorem At.start {n : Nat} {rows : List (Nat → K)} (h : ∀ r ∈ rows, ∀ i, n ≤ i → r i = 0) : At n 0 rows [] :=
  ⟨⟨.nil, fun q h => absurd h (by simp), fun q h => absurd h (by simp), fun q h => absurd h (by simp), fun q h => absurd h (by simp), fun q h => absurd h (by simp)⟩, fun q h => absurd h (by simp), fun r _ i hi => absurd hi (by omega), h⟩
theorem At.skip {n q : Nat} {rows : List (Nat → K)} {ps : List (Nat × (Nat → K))} (A : At n q rows ps) (h : ∀ r ∈ rows, r q = 0) : At n (q + 1) rows ps :=
  ⟨A.rf, fun r hr => Nat.lt_succ_of_lt (A.ahead r hr), fun r hr i hi => by
    rcases Nat.lt_succ_iff_lt_or_eq.mp hi with a | rfl
    · exact A.zero r hr i a
    · exact h r hr, A.sup⟩
def cut (c : Nat → K) (q : Nat) (r : Nat → K) : Nat → K := fun i => r i - r q * c i
theorem At.step {n q : Nat} {rows : List (Nat → K)} {ps : List (Nat × (Nat → K))} (A : At n q rows ps) (hq : q < n) {k : Nat} {r0 : Nat → K} (hk : rows[k]? = some r0) (h : r0 q ≠ 0) :
    At n (q + 1) ((rows.eraseIdx k).map (cut (fun i => (r0 q)⁻¹ * r0 i) q)) (ps.map (fun b => (b.1, cut (fun i => (r0 q)⁻¹ * r0 i) q b.2)) ++ [(q, fun i => (r0 q)⁻¹ * r0 i)]) ∧
    ∀ v, Spn (((rows.eraseIdx k).map (cut (fun i => (r0 q)⁻¹ * r0 i) q)) ++ vs (ps.map (fun b => (b.1, cut (fun i => (r0 q)⁻¹ * r0 i) q b.2)) ++ [(q, fun i => (r0 q)⁻¹ * r0 i)])) v ↔ Spn (rows ++ vs ps) v := by
  have hm : r0 ∈ rows := List.mem_of_getElem? hk
  have c1 : (r0 q)⁻¹ * r0 q = 1 := by grind
  have c0 : ∀ i, i < q → (r0 q)⁻¹ * r0 i = 0 := fun i hi => by rw [A.zero r0 hm i hi]; grind
  have cs : ∀ i, n ≤ i → (r0 q)⁻¹ * r0 i = 0 := fun i hi => by rw [A.sup r0 hm i hi]; grind
  have er : ∀ r ∈ rows.eraseIdx k, r ∈ rows := fun r hr => List.mem_of_mem_eraseIdx hr
  generalize hc : (fun i => (r0 q)⁻¹ * r0 i) = c at *
  have c1 : c q = 1 := by rw [← hc]; exact c1
  have c0 : ∀ i, i < q → c i = 0 := fun i hi => by rw [← hc]; exact c0 i hi
  have cs : ∀ i, n ≤ i → c i = 0 := fun i hi => by rw [← hc]; exact cs i hi
  have inv : ∀ r ∈ ps.map (fun b => (b.1, cut c q b.2)) ++ [(q, c)], (∃ b ∈ ps, r = (b.1, cut c q b.2)) ∨ r = (q, c) := fun r hr => by
    rcases List.mem_append.mp hr with hr | hr
    · obtain ⟨b, hb, rfl⟩ := List.mem_map.mp hr
      exact .inl ⟨b, hb, rfl⟩
    · exact .inr (List.mem_singleton.mp hr)
  refine ⟨⟨⟨?_, ?_, ?_, ?_, ?_, ?_⟩, ?_, ?_, ?_⟩, fun v => ⟨Spn.mono fun b hb => ?_, Spn.mono fun b hb => ?_⟩⟩
  · refine List.pairwise_append.mpr ⟨List.pairwise_map.mpr A.rf.inc, List.pairwise_singleton _ _, fun a ha b hb => ?_⟩
    obtain ⟨x, hx, rfl⟩ := List.mem_map.mp ha
    rw [List.mem_singleton.mp hb]
    exact A.ahead x hx
  · intro r hr
    rcases inv r hr with ⟨b, hb, rfl⟩ | rfl
    · show b.2 b.1 - b.2 q * c b.1 = 1
      rw [A.rf.one b hb, c0 _ (A.ahead b hb)]; grind
    · exact c1
  · intro r hr i hi
    rcases inv r hr with ⟨b, hb, rfl⟩ | rfl
    · have hi : i < b.1 := hi
      have := A.ahead b hb
      show b.2 i - b.2 q * c i = 0
      rw [A.rf.low b hb i hi, c0 i (by omega)]; grind
    · exact c0 i hi
  · intro r hr s hs e
    rcases inv r hr with ⟨b, hb, rfl⟩ | rfl
    · rcases inv s hs with ⟨d, hd, rfl⟩ | rfl
      · show d.2 b.1 - d.2 q * c b.1 = 0
        rw [A.rf.oth b hb d hd e, c0 _ (A.ahead b hb)]; grind
      · exact c0 _ (A.ahead b hb)
    · rcases inv s hs with ⟨d, hd, rfl⟩ | rfl
      · show d.2 q - d.2 q * c q = 0
        rw [c1]; grind
      · exact absurd rfl e
  · intro r hr
    rcases inv r hr with ⟨b, hb, rfl⟩ | rfl
    · exact A.rf.lt b hb
    · exact hq
  · intro r hr i hi
    rcases inv r hr with ⟨b, hb, rfl⟩ | rfl
    · show b.2 i - b.2 q * c i = 0
      rw [A.rf.sup b hb i hi, cs i hi]; grind
    · exact cs i hi
  · intro r hr
    rcases inv r hr with ⟨b, hb, rfl⟩ | rfl
    · exact Nat.lt_succ_of_lt (A.ahead b hb)
    · exact Nat.lt_succ_self q
  · intro r hr i hi
    obtain ⟨x, hx, rfl⟩ := List.mem_map.mp hr
    show x i - x q * c i = 0
    rcases Nat.lt_succ_iff_lt_or_eq.mp hi with a | rfl
    · rw [A.zero x (er x hx) i a, c0 i a]; grind
    · rw [c1]; grind
  · intro r hr i hi
    obtain ⟨x, hx, rfl⟩ := List.mem_map.mp hr
    show x i - x q * c i = 0
    rw [A.sup x (er x hx) i hi, cs i hi]; grind
  · have hcS : Spn (rows ++ vs ps) c := by
      rw [← hc]
      exact (Spn.mem (List.mem_append_left _ hm)).smul _
    rcases List.mem_append.mp hb with hb | hb
    · obtain ⟨x, hx, rfl⟩ := List.mem_map.mp hb
      exact (Spn.mem (List.mem_append_left _ (er x hx))).less (x q) hcS
    · obtain ⟨r, hr, rfl⟩ := mem_vs.mp hb
      rcases inv r hr with ⟨b, hb2, rfl⟩ | rfl
      · exact (Spn.mem (List.mem_append_right _ (mem_vs.mpr ⟨b, hb2, rfl⟩))).less (b.2 q) hcS
      · exact hcS
  · have hcS : Spn ((rows.eraseIdx k).map (cut c q) ++ vs (ps.map (fun b => (b.1, cut c q b.2)) ++ [(q, c)])) c := Spn.mem (List.mem_append_right _ (mem_vs.mpr ⟨(q, c), by simp, rfl⟩))
    have back : ∀ x : Nat → K, Spn ((rows.eraseIdx k).map (cut c q) ++ vs (ps.map (fun b => (b.1, cut c q b.2)) ++ [(q, c)])) (cut c q x) → Spn ((rows.eraseIdx k).map (cut c q) ++ vs (ps.map (fun b => (b.1, cut c q b.2)) ++ [(q, c)])) x := fun x hx => (hx.plus (hcS.smul (x q))).eq fun i => by
      show x i = (x i - x q * c i) + x q * c i
      grind
    rcases List.mem_append.mp hb with hb | hb
    · obtain ⟨j, hj, rfl⟩ := List.getElem_of_mem hb
      by_cases e : j = k
      · subst e
        have : rows[j] = r0 := by rw [List.getElem?_eq_getElem hj] at hk; exact Option.some.inj hk
        rw [this]
        refine (hcS.smul (r0 q)).eq fun i => ?_
        rw [← hc]
        grind
      · refine back _ (Spn.mem (List.mem_append_left _ (List.mem_map.mpr ⟨rows[j], ?_, rfl⟩)))
        refine List.mem_iff_getElem?.mpr ?_
        by_cases l : j < k
        · exact ⟨j, by rw [List.getElem?_eraseIdx, if_pos l]; exact List.getElem?_eq_getElem hj⟩
        · exact ⟨j - 1, by rw [List.getElem?_eraseIdx, if_neg (by omega), show j - 1 + 1 = j by omega]; exact List.getElem?_eq_getElem hj⟩
    · obtain ⟨b', hb', rfl⟩ := mem_vs.mp hb
      exact back _ (Spn.mem (List.mem_append_right _ (mem_vs.mpr ⟨(b'.1, cut c q b'.2), List.mem_append_left _ (List.mem_map.mpr ⟨b', hb', rfl⟩), rfl⟩)))
theorem At.done {n : Nat} {rows : List (Nat → K)} {ps : List (Nat × (Nat → K))} (A : At n n rows ps) (v : Nat → K) : Spn (rows ++ vs ps) v ↔ Spn (vs ps) v := by
  refine ⟨Spn.mono fun b hb => ?_, Spn.mono fun b hb => Spn.mem (List.mem_append_right _ hb)⟩
  rcases List.mem_append.mp hb with hb | hb
  · refine Spn.zero.eq fun i => ?_
    by_cases h : i < n
    · exact A.zero b hb i h
    · exact A.sup b hb i (by omega)
  · exact Spn.mem hb
/-- one more load put into a base -/
theorem Rf.put {n l : Nat} {ps qs : List (Nat × (Nat → K))} (R : Rf n ps) {r : Nat → K} (hz : ∀ q ∈ ps, r q.1 = 0) (hl : r l ≠ 0) (low : ∀ i, i < l → r i = 0) (ln : l < n) (sup : ∀ i, n ≤ i → r i = 0)
    (pm : qs.Perm (ps.map (fun q => (q.1, cut (fun i => (r l)⁻¹ * r i) l q.2)) ++ [(l, fun i => (r l)⁻¹ * r i)])) (inc : qs.Pairwise (fun a b => a.1 < b.1)) : Rf n qs ∧ ∀ v, Spn (vs qs) v ↔ Spn (vs ps ++ [r]) v := by
  have c1 : (r l)⁻¹ * r l = 1 := by grind
  have c0 : ∀ i, i < l → (r l)⁻¹ * r i = 0 := fun i hi => by rw [low i hi]; grind
  have cz : ∀ q ∈ ps, (r l)⁻¹ * r q.1 = 0 := fun q hq => by rw [hz q hq]; grind
  have cs : ∀ i, n ≤ i → (r l)⁻¹ * r i = 0 := fun i hi => by rw [sup i hi]; grind
  have ne : ∀ q ∈ ps, q.1 ≠ l := fun q hq e => hl (by rw [← e]; exact hz q hq)
  have crs : Spn (vs ps ++ [r]) (fun i => (r l)⁻¹ * r i) := (Spn.mem (b := r) (by simp)).smul _
  have rc : ∀ i, r i = r l * ((r l)⁻¹ * r i) := fun i => by grind
  generalize hc : (fun i => (r l)⁻¹ * r i) = c at *
  have c1 : c l = 1 := by rw [← hc]; exact c1
  have c0 : ∀ i, i < l → c i = 0 := fun i hi => by rw [← hc]; exact c0 i hi
  have cz : ∀ q ∈ ps, c q.1 = 0 := fun q hq => by rw [← hc]; exact cz q hq
  have cs : ∀ i, n ≤ i → c i = 0 := fun i hi => by rw [← hc]; exact cs i hi
  have rc : ∀ i, r i = r l * c i := fun i => by rw [← hc]; exact rc i
  have inv : ∀ s ∈ qs, (∃ b ∈ ps, s = (b.1, cut c l b.2)) ∨ s = (l, c) := fun s hs => by
    rcases List.mem_append.mp (pm.mem_iff.mp hs) with hs | hs
    · obtain ⟨b, hb, rfl⟩ := List.mem_map.mp hs
      exact .inl ⟨b, hb, rfl⟩
    · exact .inr (List.mem_singleton.mp hs)
  have cq : (l, c) ∈ qs := pm.mem_iff.mpr (by simp)
  refine ⟨⟨inc, fun s hs => ?_, fun s hs i hi => ?_, fun s hs t ht e => ?_, fun s hs => ?_, fun s hs i hi => ?_⟩, fun v => ⟨Spn.mono fun b hb => ?_, Spn.mono fun b hb => ?_⟩⟩
  · rcases inv s hs with ⟨b, hb, rfl⟩ | rfl
    · show b.2 b.1 - b.2 l * c b.1 = 1
      rw [R.one b hb, cz b hb]; grind
    · exact c1
  · rcases inv s hs with ⟨b, hb, rfl⟩ | rfl
    · have hi : i < b.1 := hi
      show b.2 i - b.2 l * c i = 0
      rw [R.low b hb i hi]
      by_cases q : l < b.1
      · rw [R.low b hb l q]; grind
      · rw [c0 i (by omega)]; grind
    · exact c0 i hi
  · rcases inv s hs with ⟨b, hb, rfl⟩ | rfl
    · rcases inv t ht with ⟨d, hd, rfl⟩ | rfl
      · show d.2 b.1 - d.2 l * c b.1 = 0
        rw [R.oth b hb d hd e, cz b hb]; grind
      · exact cz b hb
    · rcases inv t ht with ⟨d, hd, rfl⟩ | rfl
      · show d.2 l - d.2 l * c l = 0
        rw [c1]; grind
      · exact absurd rfl e
  · rcases inv s hs with ⟨b, hb, rfl⟩ | rfl
    · exact R.lt b hb
    · exact ln
  · rcases inv s hs with ⟨b, hb, rfl⟩ | rfl
    · show b.2 i - b.2 l * c i = 0
      rw [R.sup b hb i hi, cs i hi]; grind
    · exact cs i hi
  · obtain ⟨s, hs, rfl⟩ := mem_vs.mp hb
    rcases inv s hs with ⟨b, hb2, rfl⟩ | rfl
    · exact (Spn.mem (List.mem_append_left _ (mem_vs.mpr ⟨b, hb2, rfl⟩))).less (b.2 l) crs
    · exact crs
  · have hcS : Spn (vs qs) c := Spn.mem (mem_vs.mpr ⟨(l, c), cq, rfl⟩)
    rcases List.mem_append.mp hb with hb | hb
    · obtain ⟨b', hb', rfl⟩ := mem_vs.mp hb
      have : (b'.1, cut c l b'.2) ∈ qs := pm.mem_iff.mpr (List.mem_append_left _ (List.mem_map.mpr ⟨b', hb', rfl⟩))
      refine ((Spn.mem (mem_vs.mpr ⟨_, this, rfl⟩)).plus (hcS.smul (b'.2 l))).eq fun i => ?_
      show b'.2 i = (b'.2 i - b'.2 l * c i) + b'.2 l * c i
      grind
    · rw [List.mem_singleton.mp hb]
      exact (hcS.smul (r l)).eq rc
theorem exists_rf {n : Nat} {L : List (Nat → K)} (sup : ∀ b ∈ L, ∀ i, n ≤ i → b i = 0) : ∃ ps, Rf n ps ∧ (∀ v, Spn (vs ps) v ↔ Spn L v) ∧ ps.length ≤ L.length := by
  have step : ∀ q, q ≤ n → ∃ rows ps, At n q rows ps ∧ (∀ v, Spn (rows ++ vs ps) v ↔ Spn L v) ∧ rows.length + ps.length = L.length := fun q => by
    induction q with
    | zero => intro _; exact ⟨L, [], At.start sup, fun v => by simp [vs], rfl⟩
    | succ q ih =>
      intro hq
      obtain ⟨rows, ps, A, sp, len⟩ := ih (by omega)
      by_cases h : ∀ r ∈ rows, r q = 0
      · exact ⟨rows, ps, A.skip h, sp, len⟩
      · have : ∃ r0, ¬ (r0 ∈ rows → r0 q = 0) := Classical.byContradiction fun e => h fun r hr => Classical.byContradiction fun z => e ⟨r, fun y => z (y hr)⟩
        obtain ⟨r0, hr⟩ := this
        have hm : r0 ∈ rows := Classical.byContradiction fun e => hr fun y => absurd y e
        have hne : r0 q ≠ 0 := fun e => hr fun _ => e
        obtain ⟨k, hk⟩ := List.mem_iff_getElem?.mp hm
        obtain ⟨A', sp'⟩ := A.step (by omega) hk hne
        refine ⟨_, _, A', fun v => (sp' v).trans (sp v), ?_⟩
        have hlt : k < rows.length := (List.getElem?_eq_some_iff.mp hk).1
        simp [List.length_eraseIdx, hlt]
        omega
  obtain ⟨rows, ps, A, sp, len⟩ := step n (Nat.le_refl _)
  exact ⟨ps, A.rf, fun v => (A.done v).symm.trans (sp v), by omega⟩
open Classical in
/-- the base of a space -/
noncomputable def bse (n : Nat) (S : (Nat → K) → Prop) : List (Nat × (Nat → K)) := if h : ∃ ps, Rf n ps ∧ ∀ v, Spn (vs ps) v ↔ S v then h.choose else []
theorem bse_eq {n : Nat} {S : (Nat → K) → Prop} {ps : List (Nat × (Nat → K))} (R : Rf n ps) (h : ∀ v, Spn (vs ps) v ↔ S v) : bse n S = ps := by
  have e : ∃ ps, Rf n ps ∧ ∀ v, Spn (vs ps) v ↔ S v := ⟨ps, R, h⟩
  unfold bse
  rw [dif_pos e]
  exact Rf.uniq e.choose_spec.1 R fun v => (e.choose_spec.2 v).trans (h v).symm
/-- the base of what some loads span -/
theorem bse_spn {n : Nat} {L : List (Nat → K)} (sup : ∀ b ∈ L, ∀ i, n ≤ i → b i = 0) : Rf n (bse n (Spn L)) ∧ (∀ v, Spn (vs (bse n (Spn L))) v ↔ Spn L v) ∧ (bse n (Spn L)).length ≤ L.length := by
  obtain ⟨ps, R, h, l⟩ := exists_rf sup
  rw [bse_eq R h]
  exact ⟨R, h, l⟩
/-- a smaller space has no greater base -/
theorem bse_mono {n m : Nat} {L M : List (Nat → K)} (sl : ∀ b ∈ L, ∀ i, n ≤ i → b i = 0) (sm : ∀ b ∈ M, ∀ i, m ≤ i → b i = 0) (h : ∀ b ∈ L, Spn M b) : (bse n (Spn L)).length ≤ (bse m (Spn M)).length := by
  obtain ⟨R, e, _⟩ := bse_spn sl
  obtain ⟨R', e', _⟩ := bse_spn sm
  exact R.size_le R' fun v hv => (e' v).mpr (Spn.mono h ((e v).mp hv))
/-- a table's rows, columns, as loads -/
def rowsOf (h w : Nat) (A : Nat → Nat → K) : List (Nat → K) := (List.range h).map fun i j => if j < w then A i j else 0
def tr (A : Nat → Nat → K) : Nat → Nat → K := fun i j => A j i
theorem rowsOf_sup (h w : Nat) (A : Nat → Nat → K) : ∀ b ∈ rowsOf h w A, ∀ i, w ≤ i → b i = 0 := fun b hb i hi => by
  obtain ⟨k, _, rfl⟩ := List.mem_map.mp hb
  exact if_neg (by omega)
theorem rowsOf_mem {h w i : Nat} (A : Nat → Nat → K) (hi : i < h) : (fun j => if j < w then A i j else 0) ∈ rowsOf h w A := List.mem_map.mpr ⟨i, List.mem_range.mpr hi, rfl⟩
theorem spn_foldr {M : List (Nat → K)} {α : Type} (qs : List α) (f : α → K) (g : α → Nat → K) (h : ∀ q ∈ qs, Spn M (g q)) : Spn M (fun i => qs.foldr (fun q s => f q * g q i + s) 0) := by
  induction qs with
  | nil => exact .zero
  | cons q qs ih => exact (((h q (by simp)).smul (f q)).plus (ih fun r hr => h r (by simp [hr]))).eq fun i => rfl
/-- the rank -/
noncomputable def rk (h w : Nat) (A : Nat → Nat → K) : Nat := (bse w (Spn (rowsOf h w A))).length
theorem rk_tr_le (h w : Nat) (A : Nat → Nat → K) : rk w h (tr A) ≤ rk h w A := by
  obtain ⟨R, e, _⟩ := bse_spn (rowsOf_sup h w A)
  unfold rk
  generalize bse w (Spn (rowsOf h w A)) = ps at R e ⊢
  -- the columns at the leads span all columns
  have sup2 : ∀ b ∈ ps.map (fun q i => if i < h then A i q.1 else 0), ∀ i, h ≤ i → b i = 0 := fun b hb i hi => by
    obtain ⟨q, _, rfl⟩ := List.mem_map.mp hb
    exact if_neg (by omega)
  have l2 := (bse_spn sup2).2.2
  rw [List.length_map] at l2
  refine Nat.le_trans (bse_mono (rowsOf_sup w h (tr A)) sup2 fun b hb => ?_) l2
  obtain ⟨j, hj, rfl⟩ := List.mem_map.mp hb
  have hj := List.mem_range.mp hj
  have c : ∀ i, i < h → A i j = cmb ps (fun k => if k < w then A i k else 0) j := fun i hi => by
    have := R.coord ((e _).mpr (Spn.mem (rowsOf_mem (w := w) A hi))) j
    rw [if_pos hj] at this
    exact this
  refine (spn_foldr ps (fun q => q.2 j) (fun q i => if i < h then A i q.1 else 0) fun q hq => Spn.mem (List.mem_map.mpr ⟨q, hq, rfl⟩)).eq fun i => ?_
  show (if i < h then A i j else 0) = _
  by_cases hi : i < h
  · rw [if_pos hi, c i hi]
    unfold cmb
    have : ∀ qs : List (Nat × (Nat → K)), (∀ q ∈ qs, q ∈ ps) → qs.foldr (fun q s => (if q.1 < w then A i q.1 else 0) * q.2 j + s) 0 = qs.foldr (fun q s => q.2 j * (if i < h then A i q.1 else 0) + s) 0 := fun qs => by
      induction qs with
      | nil => intro _; rfl
      | cons q qs ih =>
        intro hq
        rw [List.foldr_cons, List.foldr_cons, ih fun r hr => hq r (by simp [hr]), if_pos (R.lt q (hq q (by simp))), if_pos hi]
        grind
    exact this ps fun q hq => hq
  · rw [if_neg hi]
    have : ∀ qs : List (Nat × (Nat → K)), qs.foldr (fun q s => q.2 j * (if i < h then A i q.1 else 0) + s) 0 = 0 := fun qs => by
      induction qs with
      | nil => rfl
      | cons q qs ih => rw [List.foldr_cons, ih, if_neg hi]; grind
    exact (this ps).symm
theorem rk_tr (h w : Nat) (A : Nat → Nat → K) : rk w h (tr A) = rk h w A := Nat.le_antisymm (rk_tr_le h w A) (rk_tr_le w h (tr A))
theorem spn_sm {M : List (Nat → K)} (n : Nat) (f : Nat → K) (g : Nat → Nat → K) (h : ∀ k, k < n → Spn M (g k)) : Spn M (fun i => sm n fun k => f k * g k i) := by
  induction n with
  | zero => exact .zero
  | succ n ih => exact ((ih fun k hk => h k (by omega)).plus ((h n (by omega)).smul (f n))).eq fun i => rfl
/-- a product's rows are sums of the second one's -/
theorem rk_mm_r (h w n : Nat) (A B : Nat → Nat → K) : rk h n (mm w A B) ≤ rk w n B := by
  refine bse_mono (rowsOf_sup _ _ _) (rowsOf_sup _ _ _) fun b hb => ?_
  obtain ⟨i, hi, rfl⟩ := List.mem_map.mp hb
  refine (spn_sm w (A i) (fun k j => if j < n then B k j else 0) fun k hk => Spn.mem (rowsOf_mem B hk)).eq fun j => ?_
  by_cases hj : j < n
  · rw [if_pos hj]
    exact sm_congr fun k _ => by rw [if_pos hj]
  · rw [if_neg hj]
    exact (sm_z fun k _ => by rw [if_neg hj]; grind).symm
theorem tr_mm (w : Nat) (A B : Nat → Nat → K) : tr (mm w A B) = mm w (tr B) (tr A) := funext fun i => funext fun j => sm_congr fun k _ => by show A j k * B k i = B k i * A j k; grind
theorem rk_mm_l (h w n : Nat) (A B : Nat → Nat → K) : rk h n (mm w A B) ≤ rk h w A := by
  rw [← rk_tr h n, tr_mm, ← rk_tr h w]
  exact rk_mm_r n w h (tr B) (tr A)
end
end La

namespace La
open Mn
open PySem
open L2 (atI ixN atI_nat)
variable {p : Int} [Pr p]
theorem Fp.v_ne {x : Fp p} : x ≠ 0 ↔ x.v ≠ 0 := by
  rw [Ne, Fp.ext_iff, Fp.zero_v]
theorem Fp.v_one {x : Fp p} : x = 1 ↔ x.v = 1 := by
  rw [Fp.ext_iff, Fp.one_v]
theorem f_inverse (x : Fp p) (h : x ≠ 0) : F_inverse p x.v = some (x⁻¹).v := by
  have h0 := Fp.v_ne.mp h
  have hp := Pr.pr (p := p)
  have lo := x.lo
  have hi := x.hi
  obtain ⟨v, l, u⟩ := x
  simp only at h0 lo hi ⊢
  rcases hp with rfl | rfl | rfl | rfl
  · have : v = 1 := by omega
    subst this; rfl
  · have : v = 1 ∨ v = 2 := by omega
    rcases this with rfl | rfl <;> rfl
  · have : v = 1 ∨ v = 2 ∨ v = 3 ∨ v = 4 := by omega
    rcases this with rfl | rfl | rfl | rfl <;> rfl
  · have : v = 1 ∨ v = 2 ∨ v = 3 ∨ v = 4 ∨ v = 5 ∨ v = 6 := by omega
    rcases this with rfl | rfl | rfl | rfl | rfl | rfl <;> rfl
theorem f_less (n : Nat) (hn : n ≤ 1000000) (r o : Nat → Fp p) (t : Fp p) : F_less p (lst n r) (lst n o) t.v = some (lst n fun i => r i - t * o i) := by
  unfold F_less lst
  rw [zip_r, mapG_r (fun i => (r i - t * o i).v) (fun i _ => ?_) hn]
  rw [mulG_l (v_small _).1 (v_small _).2, Option.bind_some, modG_s pP]
  rw [Fp.sub_v, Fp.mul_v, Int.sub_emod, Int.sub_emod (r i).v, Int.emod_emod_of_dvd _ (Int.dvd_refl p)]
theorem mapG_m {α β γ : Type} {f : β → Option γ} {φ : α → β} {xs : List α} (g : α → γ) (h : ∀ x ∈ xs, f (φ x) = some (g x)) (hl : xs.length ≤ 1000000) : mapG (xs.map φ) f = some (xs.map g) := by
  unfold mapG
  rw [if_pos (by rw [List.length_map, lim]; exact hl)]
  induction xs with
  | nil => rfl
  | cons x xs ih =>
    rw [List.map_cons, List.map_cons]
    unfold mapO
    rw [h x (by simp), Option.bind_some, ih (fun y hy => h y (by simp [hy])) (by simp at hl; omega)]
    rfl
theorem v_ne0 (x : Fp p) : decide (x.v = 0) = decide (x = 0) := by
  by_cases e : x = 0
  · subst e; simp [Fp.zero_v]
  · rw [decide_eq_false e, decide_eq_false (Fp.v_ne.mp e)]
/-- the first row that is not 0 at a place -/
theorem f_first_with (n q : Nat) (hq : q < n) (rows : List (Nat → Fp p)) : ∃ o, F_first_with (rows.map (lst n)) (q : Int) = some o ∧ ((o = none ∧ ∀ r ∈ rows, r q = 0) ∨ ∃ (k : Nat) (r0 : Nat → Fp p), o = some (k : Int) ∧ rows[k]? = some r0 ∧ r0 q ≠ 0) := by
  unfold F_first_with
  have key : ∀ (rows : List (Nat → Fp p)) (j : Nat), ∃ o, loopO (ρ := Option Int) (fun (x2 : Int × List Int) (s1 : Unit) => (atI x2.2 (q : Int)).bind fun (t3 : Int) => if (!decide (t3 = (0 : Int))) = true then ((some ((some x2.1))).bind fun r => some (Lp.rt r)) else (some (Lp.nx (())))) (enI j (rows.map (lst n))) () = some o ∧
      ((o = .nx () ∧ ∀ r ∈ rows, r q = 0) ∨ ∃ (k : Nat) (r0 : Nat → Fp p), o = .rt (some ((j + k : Nat) : Int)) ∧ rows[k]? = some r0 ∧ r0 q ≠ 0) := fun rows => by
    induction rows with
    | nil => intro j; exact ⟨.nx (), rfl, .inl ⟨rfl, fun r hr => absurd hr (by simp)⟩⟩
    | cons r rows ih =>
      intro j
      rw [List.map_cons]
      unfold enI loopO
      rw [lst_at _ hq, Option.bind_some, v_ne0]
      by_cases e : r q = 0
      · obtain ⟨o, h1, h2⟩ := ih (j + 1)
        refine ⟨o, ?_, ?_⟩
        · rw [if_neg (by simp [e])]
          exact h1
        · rcases h2 with ⟨rfl, h2⟩ | ⟨k, r0, rfl, h3, h4⟩
          · exact .inl ⟨rfl, fun s hs => (List.mem_cons.mp hs).elim (fun z => by rw [z]; exact e) (h2 s)⟩
          · exact .inr ⟨k + 1, r0, by rw [show j + 1 + k = j + (k + 1) by omega], by simpa using h3, h4⟩
      · refine ⟨.rt (some (j : Int)), ?_, .inr ⟨0, r, by simp, rfl, e⟩⟩
        rw [if_pos (by simp [e])]
        rfl
  obtain ⟨o, h1, h2⟩ := key rows 0
  rw [h1]
  rcases h2 with ⟨rfl, h2⟩ | ⟨k, r0, rfl, h3, h4⟩
  · exact ⟨none, rfl, .inl ⟨rfl, h2⟩⟩
  · exact ⟨some (k : Int), by show some (some _) = _; simp, .inr ⟨k, r0, rfl, h3, h4⟩⟩
theorem map_erase' {α β : Type} {f : α → β} : ∀ (xs : List α) (k : Nat), (xs.map f).eraseIdx k = (xs.eraseIdx k).map f
  | [], k => by simp
  | _ :: _, 0 => rfl
  | x :: xs, k + 1 => by simp [map_erase' xs k]
theorem popG_m {α β : Type} {φ : α → β} {xs : List α} {k : Nat} {x : α} (h : xs[k]? = some x) (hl : xs.length ≤ 1000000) : popG (xs.map φ) (k : Int) = some ((xs.eraseIdx k).map φ, φ x) := by
  unfold popG
  rw [if_pos (by omega), Int.toNat_natCast, List.getElem?_map, h]
  show (if _ then _ else _) = _
  rw [if_pos (by rw [List.length_map]; exact hl), map_erase']
theorem f_over (n : Nat) (hn : n ≤ 1000000) (c : Fp p) (r : Nat → Fp p) : mapG (lst n r) (fun y => (mulG c.v y).bind fun t => modG t p) = some (lst n fun i => c * r i) := by
  unfold lst
  rw [mapG_r (fun i => (c * r i).v) (fun i _ => ?_) hn]
  rw [mulG_l (v_small _).1 (v_small _).2, Option.bind_some, modG_s pP]
  rfl
theorem f_base_ex (n : Nat) (hn : n ≤ 100000) (rows : List (Nat → Fp p)) (hr : rows.length ≤ 100000) (sup : ∀ r ∈ rows, ∀ i, n ≤ i → r i = 0) :
    ∃ ps, F_base_of p (n : Int) (rows.map (lst n)) = some ((vs ps).map (lst n)) ∧ Rf n ps ∧ ∀ v, Spn (vs ps) v ↔ Spn rows v := by
  unfold F_base_of
  rw [mapG_m (lst n) (fun _ _ => rfl) (by omega), Option.bind_some, Option.bind_some, rng1_s (by omega), Option.bind_some]
  obtain ⟨s, e, rows', ps, rfl, A, sp, l1, l2⟩ := foldO_inv (f := fun (x7 : Int) (s5 : List (List Int) × List (List Int)) =>
      (F_first_with s5.1 x7).bind fun (v_k_9 : Option Int) =>
      if v_k_9.isSome = true then
      ((v_k_9).bind fun (u10 : Int) =>
      (popG s5.1 u10).bind fun (q11 : (List (List Int)) × (List Int)) =>
      (atI q11.2 x7).bind fun (t12 : Int) =>
      (F_inverse p t12).bind fun (v_over_14 : Int) =>
      (mapG q11.2 fun (y15 : Int) => ((mulG v_over_14 y15).bind fun (t16 : Int) => modG t16 p)).bind fun (v_chosen_19 : List Int) =>
      (mapG q11.1 fun (y20 : List Int) => ((atI y20 x7).bind fun (t21 : Int) => F_less p y20 v_chosen_19 t21)).bind fun (v_rows_24 : List (List Int)) =>
      (mapG s5.2 fun (y25 : List Int) => ((atI y25 x7).bind fun (t26 : Int) => F_less p y25 v_chosen_19 t26)).bind fun (t28 : List (List Int)) =>
      (catG t28 ([v_chosen_19])).bind fun (v_base_30 : List (List Int)) =>
      some ((v_rows_24, v_base_30)))
      else
      (some ((s5.1, s5.2)))) (φ := fun i : Nat => (i : Int)) (n := n) (s0 := (rows.map (lst n), []))
    (fun q s => ∃ (rs : List (Nat → Fp p)) (ps : List (Nat × (Nat → Fp p))), s = (rs.map (lst n), (vs ps).map (lst n)) ∧ At n q rs ps ∧ (∀ v, Spn (rs ++ vs ps) v ↔ Spn rows v) ∧ rs.length ≤ 100000 ∧ ps.length ≤ q)
    ⟨rows, [], rfl, At.start sup, fun v => by simp [vs], hr, Nat.le_refl _⟩ (fun q s hq => by
      rintro ⟨rs, ps, rfl, A, sp, l1, l2⟩
      obtain ⟨o, e1, h⟩ := f_first_with n q hq rs
      simp only [e1, Option.bind_some]
      rcases h with ⟨rfl, hz⟩ | ⟨k, r0, rfl, hk, hne⟩
      · exact ⟨_, rfl, rs, ps, rfl, A.skip hz, sp, l1, by omega⟩
      · rw [if_pos (show (some (k : Int)).isSome = true from rfl), Option.bind_some, popG_m hk (by omega), Option.bind_some]
        rw [lst_at _ hq, Option.bind_some, f_inverse _ hne, Option.bind_some, f_over n (by omega), Option.bind_some]
        obtain ⟨A', sp'⟩ := A.step hq hk hne
        have lel : (rs.eraseIdx k).length ≤ rs.length := List.length_eraseIdx_le rs k
        rw [mapG_m (fun r => lst n (cut (fun i => (r0 q)⁻¹ * r0 i) q r)) (fun r _ => by rw [lst_at _ hq, Option.bind_some, f_less n (by omega)]; rfl) (by omega), Option.bind_some]
        rw [mapG_m (fun r => lst n (cut (fun i => (r0 q)⁻¹ * r0 i) q r)) (fun r _ => by rw [lst_at _ hq, Option.bind_some, f_less n (by omega)]; rfl) (by unfold vs; rw [List.length_map]; omega), Option.bind_some]
        rw [catG_s (by rw [List.length_map]; unfold vs; rw [List.length_map]; simp; omega), Option.bind_some]
        refine ⟨_, rfl, _, _, ?_, A', fun v => (sp' v).trans (sp v), by rw [List.length_map]; omega, by simp; omega⟩
        unfold vs
        simp [List.map_map])
  refine ⟨ps, ?_, A.rf, fun v => (A.done v).symm.trans (sp v)⟩
  rw [e, Option.bind_some, mapG_m (lst n) (fun _ _ => rfl) (by unfold vs; rw [List.length_map]; omega)]
/-- the base told is that of the space -/
theorem f_base_of (n : Nat) (hn : n ≤ 100000) (rows : List (Nat → Fp p)) (hr : rows.length ≤ 100000) (sup : ∀ r ∈ rows, ∀ i, n ≤ i → r i = 0) :
    F_base_of p (n : Int) (rows.map (lst n)) = some ((vs (bse n (Spn rows))).map (lst n)) ∧ Rf n (bse n (Spn rows)) ∧ ∀ v, Spn (vs (bse n (Spn rows))) v ↔ Spn rows v := by
  obtain ⟨ps, e, R, h⟩ := f_base_ex n hn rows hr sup
  rw [bse_eq R h]
  exact ⟨e, R, h⟩
end La

namespace La
open Mn
open PySem
open L2 (atI ixN atI_nat)
variable {p : Int} [Pr p]
theorem bid {α : Type} (M : Option α) : (M.bind fun v => some v) = M := by cases M <;> rfl
theorem at_head {α : Type} (x : α) (xs : List α) : atI (x :: xs) 0 = some x := atI_nat (j := 0) rfl
/-- a loop over things that stand for others, by an invariant over what has been gone through -/
theorem foldO_l {σ α β : Type} {f : β → σ → Option σ} {φ : α → β} (I : List α → σ → Prop) {xs : List α} {s0 : σ} (h0 : I [] s0) (h : ∀ (ys : List α) (x : α) (s : σ), x ∈ xs → (∃ zs, ys ++ x :: zs = xs) → I ys s → ∃ s', f (φ x) s = some s' ∧ I (ys ++ [x]) s') : ∃ s, foldO f (xs.map φ) s0 = some s ∧ I xs s := by
  have : ∀ (zs ys : List α) (s : σ), ys ++ zs = xs → I ys s → ∃ s', foldO f (zs.map φ) s = some s' ∧ I xs s' := fun zs => by
    induction zs with
    | nil => intro ys s e hi; rw [List.append_nil] at e; subst e; exact ⟨s, rfl, hi⟩
    | cons z zs ih =>
      intro ys s e hi
      obtain ⟨s1, e1, h1⟩ := h ys z s (by rw [← e]; simp) ⟨zs, e⟩ hi
      obtain ⟨s2, e2, h2⟩ := ih (ys ++ [z]) s1 (by rw [← e]; simp) h1
      refine ⟨s2, ?_, h2⟩
      rw [List.map_cons]
      unfold foldO
      rw [e1]
      exact e2
  exact this xs [] s0 rfl h0
/-- the same, as goals want it -/
theorem fold_r {σ α R : Type} {f : α → σ → Option σ} {φ : Nat → α} {n : Nat} {K : σ → Option R} {res : Option R} {s0 : σ} (I : Nat → σ → Prop) (h0 : I 0 s0) (h : ∀ i s, i < n → I i s → ∃ s', f (φ i) s = some s' ∧ I (i + 1) s') (fin : ∀ s, I n s → K s = res) : (foldO f ((List.range n).map φ) s0).bind K = res := by
  obtain ⟨s, e, hs⟩ := foldO_inv (f := f) (φ := φ) I h0 h
  rw [e]
  exact fin s hs
theorem fold_l {σ α β R : Type} {f : β → σ → Option σ} {φ : α → β} {xs : List α} {K : σ → Option R} {res : Option R} {s0 : σ} (I : List α → σ → Prop) (h0 : I [] s0) (h : ∀ (ys : List α) (x : α) (s : σ), x ∈ xs → (∃ zs, ys ++ x :: zs = xs) → I ys s → ∃ s', f (φ x) s = some s' ∧ I (ys ++ [x]) s') (fin : ∀ s, I xs s → K s = res) : (foldO f (xs.map φ) s0).bind K = res := by
  obtain ⟨s, e, hs⟩ := foldO_l (f := f) (φ := φ) I h0 h
  rw [e]
  exact fin s hs
theorem foldO_a {α β γ : Type} {f : β → List γ → Option (List γ)} {φ : α → β} {xs : List α} (g : α → γ) (h : ∀ x ∈ xs, ∀ s, f (φ x) s = appG s (g x)) (hl : xs.length ≤ 1000000) : foldO f (xs.map φ) [] = some (xs.map g) := by
  obtain ⟨s, e, rfl⟩ := foldO_l (f := f) (φ := φ) (xs := xs) (s0 := []) (fun ys s => s = ys.map g) rfl (fun ys x s hx ⟨zs, e⟩ hs => by
    subst hs
    refine ⟨_, ?_, rfl⟩
    rw [h x hx, appG_s (by rw [List.length_map]; have := congrArg List.length e; simp at this; omega)]
    simp)
  exact e
theorem lst_fst {n : Nat} {v : Nat → Fp p} : ∀ x ∈ lst n v, ∃ i, i < n ∧ x = (v i).v := fun x hx => by
  obtain ⟨i, hi, rfl⟩ := List.mem_map.mp hx
  exact ⟨i, List.mem_range.mp hi, rfl⟩
theorem range_filter_first (n : Nat) (P : Nat → Bool) : (List.range n).filter P = [] ∧ (∀ i, i < n → P i = false) ∨ ∃ l r, (List.range n).filter P = l :: r ∧ l < n ∧ P l = true ∧ ∀ i, i < l → P i = false := by
  cases h : (List.range n).filter P with
  | nil =>
    refine .inl ⟨rfl, fun i hi => ?_⟩
    have := List.filter_eq_nil_iff.mp h i (List.mem_range.mpr hi)
    simpa using this
  | cons l r =>
    refine .inr ⟨l, r, rfl, ?_, ?_, fun i hi => ?_⟩
    · have : l ∈ (List.range n).filter P := by rw [h]; simp
      exact List.mem_range.mp (List.mem_filter.mp this).1
    · have : l ∈ (List.range n).filter P := by rw [h]; simp
      exact (List.mem_filter.mp this).2
    · have hl : l < n := by
        have : l ∈ (List.range n).filter P := by rw [h]; simp
        exact List.mem_range.mp (List.mem_filter.mp this).1
      cases e : P i with
      | false => rfl
      | true =>
        have hs : ((List.range n).filter P).Pairwise (· < ·) := List.pairwise_lt_range.filter _
        have hm : i ∈ (List.range n).filter P := List.mem_filter.mpr ⟨List.mem_range.mpr (by omega), e⟩
        rw [h] at hs hm
        rcases List.mem_cons.mp hm with rfl | hm
        · omega
        · have := (List.pairwise_cons.mp hs).1 i hm
          omega
theorem filG_r {β : Type} {f : Int → Option (Option β)} {n : Nat} (g : Nat → Option β) (h : ∀ i : Nat, i < n → f (i : Int) = some (g i)) (hl : n ≤ 1000000) : filG ((List.range n).map fun i : Nat => (i : Int)) f = some ((List.range n).filterMap g) := by
  unfold filG
  rw [if_pos (by rw [r_len, lim]; exact hl)]
  have : ∀ xs : List Nat, (∀ i ∈ xs, f (i : Int) = some (g i)) → filO f (xs.map fun i : Nat => (i : Int)) = some (xs.filterMap g) := fun xs => by
    induction xs with
    | nil => intro _; rfl
    | cons x xs ih =>
      intro h
      rw [List.map_cons, List.filterMap_cons]
      unfold filO
      rw [h x (by simp), Option.bind_some, ih fun i hi => h i (by simp [hi])]
      cases g x <;> rfl
  exact this _ fun i hi => h i (List.mem_range.mp hi)
theorem over_list (x : Fp p) (h : x ≠ 0) : ∃ r, filG ((List.range (p - 1).toNat).map fun i : Nat => (1 : Int) + (i : Int)) (fun (y22 : Int) => filB ((mulG y22 x.v).bind fun (t24 : Int) => (modG t24 p).bind fun (t25 : Int) => some (decide (t25 = (1 : Int)))) (some y22)) = some ((x⁻¹).v :: r) := by
  have h0 := Fp.v_ne.mp h
  have hp := Pr.pr (p := p)
  have lo := x.lo
  have hi := x.hi
  obtain ⟨v, l, u⟩ := x
  simp only at h0 lo hi ⊢
  rcases hp with rfl | rfl | rfl | rfl
  · have : v = 1 := by omega
    subst this; exact ⟨[], rfl⟩
  · have : v = 1 ∨ v = 2 := by omega
    rcases this with rfl | rfl <;> exact ⟨[], rfl⟩
  · have : v = 1 ∨ v = 2 ∨ v = 3 ∨ v = 4 := by omega
    rcases this with rfl | rfl | rfl | rfl <;> exact ⟨[], rfl⟩
  · have : v = 1 ∨ v = 2 ∨ v = 3 ∨ v = 4 ∨ v = 5 ∨ v = 6 := by omega
    rcases this with rfl | rfl | rfl | rfl | rfl | rfl <;> exact ⟨[], rfl⟩
/-- how the law's base stands -/
def eb (n : Nat) (ps : List (Nat × (Nat → Fp p))) : List (Int × List Int) := ps.map fun q => ((q.1 : Int), lst n q.2)
theorem insL_perm' {α : Type} (le : α → α → Bool) (p : α) : ∀ l : List α, (insL le p l).Perm (p :: l)
  | [] => .refl _
  | q :: r => by
    unfold insL
    split
    · exact .refl _
    · exact ((insL_perm' le p r).cons q).trans (.swap p q r)
theorem isort_perm' {α : Type} (le : α → α → Bool) : ∀ l : List α, (isort le l).Perm l
  | [] => .refl _
  | p :: r => (insL_perm' le p _).trans ((isort_perm' le r).cons p)
def leN {α : Type} (a b : Nat × α) : Bool := decide (a.1 ≤ b.1)
theorem isort_N {α : Type} (l : List (Nat × α)) (nd : (l.map Prod.fst).Nodup) : (isort leN l).Pairwise (fun a b => a.1 < b.1) := by
  have h := isort_srt (le := leN (α := α)) (fun a b e => by unfold leN at *; simp at *; omega) (fun a b c x y => by unfold leN at *; simp at *; omega) l
  have nd2 : ((isort leN l).map Prod.fst).Nodup := ((isort_perm' leN l).map Prod.fst).nodup_iff.mpr nd
  have h2 : (isort leN l).Pairwise (fun a b => a.1 ≠ b.1) := List.pairwise_map.mp nd2
  exact (h.and h2).imp fun {a b} x => by have := x.1; unfold leN at this; simp at this; have := x.2; omega
theorem sortK_N {α β : Type} (f : α → β) (l : List (Nat × α)) (nd : (l.map Prod.fst).Nodup) : sortK (l.map fun q => ((q.1 : Int), f q.2)) = some ((isort leN l).map fun q => ((q.1 : Int), f q.2)) := by
  unfold sortK
  rw [if_pos, isort_map (f := fun q : Nat × α => ((q.1 : Int), f q.2)) (le := leN) (le' := leK1) (fun a b => by unfold leK1 leN; simp)]
  rw [List.map_map]
  have : (Prod.fst ∘ fun q : Nat × α => ((q.1 : Int), f q.2)) = (fun i : Nat => (i : Int)) ∘ Prod.fst := rfl
  rw [this, ← List.map_map]
  exact List.pairwise_map.mpr (nd.imp fun {a b} h e => h (by omega))
theorem filterMap_if {n : Nat} (P : Nat → Bool) : (List.range n).filterMap (fun i => if P i = true then some (i : Int) else none) = ((List.range n).filter P).map fun i : Nat => (i : Int) := by
  generalize List.range n = xs
  induction xs with
  | nil => rfl
  | cons x xs ih =>
    rw [List.filterMap_cons, List.filter_cons, ih]
    cases P x <;> rfl
/-- the loads put in one behind another -/
theorem f_law_base_ex (n : Nat) (hn : n ≤ 100000) (rows : List (Nat → Fp p)) (hr : rows.length ≤ 100000) (sup : ∀ r ∈ rows, ∀ i, n ≤ i → r i = 0) :
    ∃ ps, F_law_base p (n : Int) (rows.map (lst n)) = some ((vs ps).map (lst n)) ∧ Rf n ps ∧ ∀ v, Spn (vs ps) v ↔ Spn rows v := by
  unfold F_law_base
  rw [Option.bind_some]
  have main : ∃ s, foldO (fun (x3 : List Int) (s2 : List (Int × List Int)) =>
      (some x3).bind fun (v_row_4 : List Int) =>
      (foldO (fun (x6 : Int × List Int) (s5 : List Int) =>
      (atI s5 x6.1).bind fun (v_times_8 : Int) =>
      (mapG (List.zip s5 x6.2) fun (y9 : Int × Int) => ((mulG v_times_8 y9.2).bind fun (t10 : Int) => modG (y9.1 - t10) p)).bind fun (v_row_13 : List Int) =>
      some v_row_13) s2 v_row_4).bind fun (s5 : List Int) =>
      (rng1 (n : Int)).bind fun (r14 : List Int) =>
      (filG r14 fun (y15 : Int) => filB (((atI s5 y15).bind fun (t16 : Int) => some (!decide (t16 = (0 : Int))))) (some y15)).bind fun (v_leads_18 : List Int) =>
      if (decide ((0 : Int) < (v_leads_18.length : Int))) = true then
      ((atI v_leads_18 ((0 : Int))).bind fun (v_lead_20 : Int) =>
      (rng2 ((1 : Int)) p).bind fun (r21 : List Int) =>
      (filG r21 fun (y22 : Int) => filB (((atI s5 v_lead_20).bind fun (t23 : Int) => (mulG y22 t23).bind fun (t24 : Int) => (modG t24 p).bind fun (t25 : Int) => some (decide (t25 = (1 : Int))))) (some y22)).bind fun (t26 : List Int) =>
      (atI t26 ((0 : Int))).bind fun (v_over_28 : Int) =>
      (mapG s5 fun (y29 : Int) => ((mulG v_over_28 y29).bind fun (t30 : Int) => modG t30 p)).bind fun (v_row_33 : List Int) =>
      (some (([] : List (Int × List Int)))).bind fun (v_stay_34 : List (Int × List Int)) =>
      (foldO (fun (x36 : Int × List Int) (s35 : List (Int × List Int)) =>
      (atI x36.2 v_lead_20).bind fun (v_times_38 : Int) =>
      (mapG (List.zip x36.2 v_row_33) fun (y40 : Int × Int) => ((mulG v_times_38 y40.2).bind fun (t41 : Int) => modG (y40.1 - t41) p)).bind fun (t43 : List Int) =>
      (appG s35 ((x36.1, t43))).bind fun (v_stay_39 : List (Int × List Int)) =>
      some v_stay_39) s2 v_stay_34).bind fun (s35 : List (Int × List Int)) =>
      (catG s35 ([(v_lead_20, v_row_33)])).bind fun (t44 : List (Int × List Int)) =>
      (sortK t44).bind fun (v_base_here_46 : List (Int × List Int)) =>
      some v_base_here_46)
      else
      (some s2)) (rows.map (lst n)) [] = some s ∧ ∃ ps, s = eb n ps ∧ Rf n ps ∧ ∀ v, Spn (vs ps) v ↔ Spn rows v := by
    refine foldO_l (φ := lst n) (xs := rows) (s0 := ([] : List (Int × List Int))) (fun ys s => ∃ ps, s = eb n ps ∧ Rf n ps ∧ ∀ v, Spn (vs ps) v ↔ Spn ys v)
      ⟨[], rfl, ⟨.nil, fun q h => absurd h (by simp), fun q h => absurd h (by simp), fun q h => absurd h (by simp), fun q h => absurd h (by simp), fun q h => absurd h (by simp)⟩, fun v => Iff.rfl⟩ (fun ys x s hx _ => by
        rintro ⟨ps, rfl, R, sp⟩
        have hpl := R.len_le
        have xsup := sup x hx
        -- the row less the base's loads
        obtain ⟨w, ew, r, rfl, rz, rs, rsup⟩ := foldO_l (f := fun (x6 : Int × List Int) (s5 : List Int) =>
          (atI s5 x6.1).bind fun (v_times_8 : Int) =>
          (mapG (List.zip s5 x6.2) fun (y9 : Int × Int) => ((mulG v_times_8 y9.2).bind fun (t10 : Int) => modG (y9.1 - t10) p)).bind fun (v_row_13 : List Int) =>
          some v_row_13) (φ := fun q : Nat × (Nat → Fp p) => ((q.1 : Int), lst n q.2)) (xs := ps) (s0 := lst n x)
          (fun qs s => ∃ r : Nat → Fp p, s = lst n r ∧ (∀ q ∈ qs, r q.1 = 0) ∧ Spn (vs ps) (fun i => x i - r i) ∧ ∀ i, n ≤ i → r i = 0)
          ⟨x, rfl, fun q h => absurd h (by simp), Spn.zero.eq fun i => by grind, xsup⟩ (fun qs q s hq ⟨zs, ez⟩ => by
            rintro ⟨r, rfl, h1, h2, h3⟩
            have fl := f_less n (by omega) r q.2 (r q.1)
            unfold F_less at fl
            rw [lst_at _ (R.lt q hq), Option.bind_some, fl, Option.bind_some]
            refine ⟨_, rfl, _, rfl, fun t ht => ?_, ?_, fun i hi => ?_⟩
            · rcases List.mem_append.mp ht with ht | ht
              · have hlt : t.1 < q.1 := by
                  have hp := R.inc
                  rw [← ez] at hp
                  exact (List.pairwise_append.mp hp).2.2 t ht q (by simp)
                have htp : t ∈ ps := by rw [← ez]; simp [ht]
                show r t.1 - r q.1 * q.2 t.1 = 0
                rw [h1 t ht, R.oth t htp q hq (by omega)]
                grind
              · rw [List.mem_singleton.mp ht]
                show r q.1 - r q.1 * q.2 q.1 = 0
                rw [R.one q hq]
                grind
            · exact (h2.plus ((Spn.mem (mem_vs.mpr ⟨q, hq, rfl⟩)).smul (r q.1))).eq fun i => by
                show x i - (r i - r q.1 * q.2 i) = (x i - r i) + r q.1 * q.2 i
                grind
            · show r i - r q.1 * q.2 i = 0
              rw [h3 i hi, R.sup q hq i hi]
              grind)
        have ew : foldO (fun (x6 : Int × List Int) (s5 : List Int) =>
          (atI s5 x6.1).bind fun (v_times_8 : Int) =>
          (mapG (List.zip s5 x6.2) fun (y9 : Int × Int) => ((mulG v_times_8 y9.2).bind fun (t10 : Int) => modG (y9.1 - t10) p)).bind fun (v_row_13 : List Int) =>
          some v_row_13) (eb n ps) (lst n x) = some (lst n r) := ew
        have spx : ∀ v, Spn (ys ++ [x]) v ↔ Spn (vs ps ++ [r]) v := fun v => by
          have a1 : ∀ u, Spn (vs ps) u → Spn (vs ps ++ [r]) u := fun u => Spn.mono fun b hb => Spn.mem (by simp [hb])
          have a2 : ∀ u, Spn ys u → Spn (ys ++ [x]) u := fun u => Spn.mono fun b hb => Spn.mem (by simp [hb])
          constructor
          · refine Spn.mono fun b hb => ?_
            rcases List.mem_append.mp hb with hb | hb
            · exact a1 b ((sp b).mpr (Spn.mem hb))
            · rw [List.mem_singleton.mp hb]
              exact ((a1 _ rs).plus (Spn.mem (L := vs ps ++ [r]) (b := r) (by simp))).eq fun i => by grind
          · refine Spn.mono fun b hb => ?_
            rcases List.mem_append.mp hb with hb | hb
            · exact a2 b ((sp b).mp (Spn.mem hb))
            · rw [List.mem_singleton.mp hb]
              exact ((Spn.mem (L := ys ++ [x]) (b := x) (by simp)).sub (a2 _ ((sp _).mp rs))).eq fun i => by grind
        rw [Option.bind_some, ew, Option.bind_some, rng1_s (show n ≤ 1000000 by omega), Option.bind_some]
        rw [filG_r (fun i => if (!decide (r i = 0)) = true then some (i : Int) else none) (fun i hi => by
          rw [lst_at _ hi]
          simp only [Option.bind_some, filB, v_ne0]
          cases (!decide (r i = 0)) <;> rfl) (by omega), Option.bind_some, filterMap_if]
        rcases range_filter_first n (fun i => !decide (r i = 0)) with ⟨e0, z0⟩ | ⟨l, tl, e0, l1, l2, l3⟩
        · rw [e0]
          refine ⟨_, rfl, ps, rfl, R, fun v => ?_⟩
          have rz0 : ∀ i, r i = 0 := fun i => by
            by_cases hi : i < n
            · simpa using z0 i hi
            · exact rsup i (by omega)
          rw [spx]
          exact ⟨Spn.mono fun b hb => Spn.mem (by simp [hb]), Spn.mono fun b hb => (List.mem_append.mp hb).elim Spn.mem fun hb => by
            rw [List.mem_singleton.mp hb]; exact Spn.zero.eq rz0⟩
        · rw [e0]
          have rl : r l ≠ 0 := by simpa using l2
          have rlow : ∀ i, i < l → r i = 0 := fun i hi => by simpa using l3 i hi
          rw [if_pos (by simp)]
          have a0 : atI ((l :: tl).map fun i : Nat => (i : Int)) 0 = some (l : Int) := at_head _ _
          rw [a0, Option.bind_some, rng2_s (by omega) (by omega) (by have := Pr.pos (p := p); omega) (by have := Pr.le (p := p); omega), Option.bind_some]
          obtain ⟨tl2, eo⟩ := over_list (r l) rl
          simp only [lst_at r l1, Option.bind_some]
          rw [eo, Option.bind_some]
          have a1 : atI ((r l)⁻¹.v :: tl2) 0 = some (r l)⁻¹.v := at_head _ _
          rw [a1, Option.bind_some, f_over n (by omega), Option.bind_some]
          unfold eb
          rw [foldO_a (fun q : Nat × (Nat → Fp p) => ((q.1 : Int), lst n (cut (fun i => (r l)⁻¹ * r i) l q.2))) (fun q hq s => by
            have fl := f_less n (by omega) q.2 (fun i => (r l)⁻¹ * r i) (q.2 l)
            unfold F_less at fl
            rw [lst_at _ l1, Option.bind_some, fl, Option.bind_some]
            exact bid _) (by omega), Option.bind_some, catG_s (by simp; omega), Option.bind_some]
          have hsk := sortK_N (lst n) (ps.map (fun q => (q.1, cut (fun i => (r l)⁻¹ * r i) l q.2)) ++ [(l, fun i => (r l)⁻¹ * r i)]) (by
            rw [List.map_append, List.map_map]
            refine List.nodup_append.mpr ⟨R.nodup1, by simp, fun a ha b hb => ?_⟩
            obtain ⟨q, hq, rfl⟩ := List.mem_map.mp ha
            simp at hb
            subst hb
            intro e
            have e : q.1 = _ := e
            exact rl (by rw [← e]; exact rz q hq))
          rw [List.map_append, List.map_map] at hsk
          have hsk : sortK (ps.map (fun q => ((q.1 : Int), lst n (cut (fun i => (r l)⁻¹ * r i) l q.2))) ++ [((l : Int), lst n fun i => (r l)⁻¹ * r i)]) = _ := hsk
          rw [hsk, Option.bind_some]
          have nd : ((ps.map (fun q => (q.1, cut (fun i => (r l)⁻¹ * r i) l q.2)) ++ [(l, fun i => (r l)⁻¹ * r i)]).map Prod.fst).Nodup := by
            rw [List.map_append, List.map_map]
            refine List.nodup_append.mpr ⟨R.nodup1, by simp, fun a ha b hb => ?_⟩
            obtain ⟨q, hq, rfl⟩ := List.mem_map.mp ha
            simp at hb
            subst hb
            intro e
            have e : q.1 = _ := e
            exact rl (by rw [← e]; exact rz q hq)
          obtain ⟨R', sp'⟩ := R.put rz rl rlow l1 rsup (isort_perm' leN _) (isort_N _ nd)
          exact ⟨_, rfl, _, rfl, R', fun v => (sp' v).trans (spx v).symm⟩)
  obtain ⟨s, e, ps, rfl, R, h⟩ := main
  refine ⟨ps, ?_, R, h⟩
  rw [e, Option.bind_some]
  unfold eb
  rw [mapG_m (φ := fun q : Nat × (Nat → Fp p) => ((q.1 : Int), lst n q.2)) (fun q : Nat × (Nat → Fp p) => lst n q.2) (fun _ _ => rfl) (by have := R.len_le; omega)]
  simp [vs]
theorem f_law_base (n : Nat) (hn : n ≤ 100000) (rows : List (Nat → Fp p)) (hr : rows.length ≤ 100000) (sup : ∀ r ∈ rows, ∀ i, n ≤ i → r i = 0) :
    F_law_base p (n : Int) (rows.map (lst n)) = some ((vs (bse n (Spn rows))).map (lst n)) := by
  obtain ⟨ps, e, R, h⟩ := f_law_base_ex n hn rows hr sup
  rw [bse_eq R h]
  exact e
end La

namespace La
open Mn
open PySem
open L2 (atI ixN atI_nat)
theorem at_any {ns : List Int} {i : Int} (h0 : 0 ≤ i) (h1 : i < ns.length) : ∃ x, atI ns i = some x := by
  have : i.toNat < ns.length := by omega
  refine ⟨ns[i.toNat], ?_⟩
  have e : i = ((i.toNat : Nat) : Int) := by omega
  conv => lhs; rw [e]
  exact atI_nat (by rw [List.getElem?_eq_getElem this])
theorem foldO_any {σ α : Type} {f : α → σ → Option σ} (h : ∀ x s, ∃ s', f x s = some s') : ∀ (xs : List α) (s : σ), ∃ s', foldO f xs s = some s'
  | [], s => ⟨s, rfl⟩
  | x :: xs, s => by
    obtain ⟨s1, e⟩ := h x s
    obtain ⟨s2, e2⟩ := foldO_any h xs s1
    exact ⟨s2, by unfold foldO; rw [e]; exact e2⟩
theorem pow9 : powG 10 9 = some 1000000000 := rfl
theorem pow30 : powG 10 30 = some 1000000000000000000000000000000 := rfl
theorem mix_ex (ns : List Int) (hns : ns.length ≤ 1000) (k : Int) (h0 : 0 ≤ k) (h1 : k < 1000000) : ∃ m, F_law_mix ns k = some m ∧ 0 ≤ m := by
  have hk : 0 ≤ k * k := Int.mul_nonneg h0 h0
  have hk2 : k * k ≤ 1000000 * 1000000 := Int.mul_le_mul (by omega) (by omega) h0 (by omega)
  unfold F_law_mix
  by_cases c : ns.length = 0
  · have : (decide ((ns.length : Int) = 0)) = true := by simp [c]
    rw [if_pos this, mulG_l (by omega) (by omega), Option.bind_some, mulG_r (by omega) (by omega), Option.bind_some, mulG_r (by omega) (by omega), Option.bind_some, modG_s (by omega), Option.bind_some, mulG_r (by omega) (by omega), Option.bind_some, modG_s (by omega)]
    exact ⟨_, rfl, Int.emod_nonneg _ (by omega)⟩
  · have : ¬ (decide ((ns.length : Int) = 0)) = true := by simp [c]
    rw [if_neg this, modG_s (by omega), Option.bind_some]
    have m0 := Int.emod_nonneg k (show (ns.length : Int) ≠ 0 by omega)
    have m1 := Int.emod_lt_of_pos k (show 0 < (ns.length : Int) by omega)
    obtain ⟨cell, e⟩ := at_any m0 m1
    rw [e, Option.bind_some]
    obtain ⟨x0, e0⟩ := at_any (ns := ns) (i := 0) (by omega) (by omega)
    have fin : ∃ m, ((powG 10 30).bind fun t25 => (modG cell t25).bind fun t26 => (mulG t26 48271).bind fun t27 => (mulG k k).bind fun t28 => (mulG t28 7919).bind fun t29 => (modG (t27 + t29 + 11) 2147483647).bind fun t30 => (mulG t30 69621).bind fun t31 => modG t31 1000000007) = some m ∧ 0 ≤ m := by
      rw [pow30, Option.bind_some, modG_s (by omega), Option.bind_some, mulG_r (by omega) (by omega), Option.bind_some, mulG_l (by omega) (by omega), Option.bind_some, mulG_r (by omega) (by omega), Option.bind_some, modG_s (by omega), Option.bind_some, mulG_r (by omega) (by omega), Option.bind_some, modG_s (by omega)]
      exact ⟨_, rfl, Int.emod_nonneg _ (by omega)⟩
    by_cases c2 : (1 : Int) < ns.length
    · rw [if_pos (by simp [c2]), e0, Option.bind_some, modG_s (by omega), Option.bind_some, Option.bind_some]
      by_cases c3 : x0 % 2 = 1
      · rw [if_pos (by simp [c3]), modG_s (by omega), Option.bind_some]
        have m2 := Int.emod_nonneg k (show (ns.length : Int) - 1 ≠ 0 by omega)
        have m3 := Int.emod_lt_of_pos k (show 0 < (ns.length : Int) - 1 by omega)
        obtain ⟨d, e1⟩ := at_any (ns := ns) (i := 1 + k % ((ns.length : Int) - 1)) (by omega) (by omega)
        have q0 : 0 ≤ k / ((ns.length : Int) - 1) := Int.ediv_nonneg h0 (by omega)
        have q1 : k / ((ns.length : Int) - 1) ≤ k := Int.ediv_le_self _ h0
        rw [e1, Option.bind_some, fdivG_s (by omega) (by omega), Option.bind_some, rng1_z q0 (by omega), Option.bind_some]
        obtain ⟨s, e2⟩ := foldO_any (σ := Int) (f := fun (x : Int) (s : Int) => (powG 10 9).bind fun t20 => (fdivG s t20).bind fun v => some v) (fun x s => ⟨s / 1000000000, by rw [pow9, Option.bind_some, fdivG_s (by omega) (by omega)]; rfl⟩) ((List.range (k / ((ns.length : Int) - 1)).toNat).map fun i : Nat => (i : Int)) d
        rw [e2, Option.bind_some, pow9, Option.bind_some, modG_s (by omega)]
        exact ⟨_, rfl, Int.emod_nonneg _ (by omega)⟩
      · rw [if_neg (by simp [c3])]
        exact fin
    · rw [if_neg (by simpa using c2), Option.bind_some, if_neg (by simp)]
      exact fin
def mixV (ns : List Int) (k : Int) : Int := (F_law_mix ns k).getD 0
theorem mix_s {ns : List Int} (hns : ns.length ≤ 63) {k : Int} (h0 : 0 ≤ k) (h1 : k < 1000000) : F_law_mix ns k = some (mixV ns k) := by
  obtain ⟨m, e, _⟩ := mix_ex ns (by omega) k h0 h1
  unfold mixV
  rw [e]
  rfl
theorem mixV_nn {ns : List Int} (hns : ns.length ≤ 63) {k : Int} (h0 : 0 ≤ k) (h1 : k < 1000000) : 0 ≤ mixV ns k := by
  obtain ⟨m, e, h⟩ := mix_ex ns (by omega) k h0 h1
  unfold mixV
  rw [e]
  exact h
/-- one of the four primes -/
theorem prime_at {m : Int} (h : 0 ≤ m) : ∃ p : Int, Pr p ∧ atI [(2 : Int), 3, 5, 7] (m % 4) = some p := by
  have : m % 4 = 0 ∨ m % 4 = 1 ∨ m % 4 = 2 ∨ m % 4 = 3 := by omega
  rcases this with e | e | e | e <;> rw [e]
  · exact ⟨2, ⟨.inl rfl⟩, rfl⟩
  · exact ⟨3, ⟨.inr (.inl rfl)⟩, rfl⟩
  · exact ⟨5, ⟨.inr (.inr (.inl rfl))⟩, rfl⟩
  · exact ⟨7, ⟨.inr (.inr (.inr rfl))⟩, rfl⟩
theorem nat_mod {x m : Int} (hm : 0 < m) : ∃ n : Nat, x % m = (n : Nat) ∧ (n : Int) < m := by
  have a := Int.emod_nonneg x (show m ≠ 0 by omega)
  have b := Int.emod_lt_of_pos x hm
  exact ⟨(x % m).toNat, by omega, by omega⟩
variable {p : Int} [Pr p]
def drawn (ns : List Int) (at_ : Int) (w : Nat) (i j : Nat) : Fp p := if 0 < mixV ns (at_ + (i : Int) * (w : Int) + (j : Int)) / 7 % 3 then Fp.of (mixV ns (at_ + (i : Int) * (w : Int) + (j : Int))) else 0
theorem f_law_table {ns : List Int} (hns : ns.length ≤ 63) {at_ : Int} (h0 : 0 ≤ at_) (h1 : at_ < 1000) {h w : Nat} (hh : h < 100) (hw : w < 100) : F_law_table ns at_ p (h : Int) (w : Int) = some (tb h w (drawn (p := p) ns at_ w)) := by
  unfold F_law_table
  rw [Option.bind_some, rng1_s (by omega), Option.bind_some, foldO_r (fun i => lst w (drawn (p := p) ns at_ w i)) (fun i hi s => ?_) (by omega)]
  · rfl
  · rw [Option.bind_some, rng1_s (by omega), Option.bind_some]
    have e := foldO_r (f := fun (x8 : Int) (s6 : List Int) => (mulG (i : Int) (w : Int)).bind fun t9 => (F_law_mix ns (at_ + t9 + x8)).bind fun v_cell => (modG v_cell p).bind fun t13 => (fdivG v_cell 7).bind fun t14 => (modG t14 3).bind fun t15 => (mulG t13 (if decide (0 < t15) = true then (1 : Int) else 0)).bind fun t16 => (appG s6 t16).bind fun v => some v)
      (φ := fun i : Nat => (i : Int)) (n := w) (fun j => (drawn (p := p) ns at_ w i j).v) (fun j hj s => by
      have b0 : 0 ≤ (i : Int) * (w : Int) := Int.mul_nonneg (by omega) (by omega)
      have b1 : (i : Int) * (w : Int) ≤ 100 * 100 := Int.mul_le_mul (by omega) (by omega) (by omega) (by omega)
      have hm := mix_s hns (k := at_ + (i : Int) * (w : Int) + (j : Int)) (by omega) (by omega)
      have ft : ∀ b : Bool, (if b = true then (1 : Int) else 0) = 1 ∨ (if b = true then (1 : Int) else 0) = 0 := fun b => by cases b <;> simp
      rw [mulG_r (by omega) (by omega), Option.bind_some, hm, Option.bind_some, modG_s pP, Option.bind_some, fdivG_s (by omega) (by omega), Option.bind_some, modG_s (by omega), Option.bind_some,
        mulG_r (by split <;> omega) (by split <;> omega), Option.bind_some]
      have : mixV ns (at_ + (i : Int) * (w : Int) + (j : Int)) % p * (if decide (0 < mixV ns (at_ + (i : Int) * (w : Int) + (j : Int)) / 7 % 3) = true then (1 : Int) else 0) = (drawn (p := p) ns at_ w i j).v := by
        unfold drawn
        by_cases c : 0 < mixV ns (at_ + (i : Int) * (w : Int) + (j : Int)) / 7 % 3
        · rw [if_pos c, if_pos (by simp [c]), Int.mul_one]; rfl
        · rw [if_neg c, if_neg (by simp [c]), Int.mul_zero]; exact Fp.zero_v.symm
      rw [this]
      cases appG s _ <;> rfl) (by omega)
    rw [e, Option.bind_some]
    show (appG s _).bind _ = _
    unfold lst
    cases appG s _ <;> rfl
/-- a load drawn -/
theorem f_load {ns : List Int} {n : Nat} (hn : n ≤ 1000000) (k : Nat → Int) {f : Int → Option Int} (h : ∀ i, i < n → f i = some (k i % p)) : mapG ((List.range n).map fun i : Nat => (i : Int)) f = some (lst (p := p) n fun i => Fp.of (k i)) := mapG_r (fun i => (Fp.of (k i) : Fp p).v) h hn
end La

set_option maxHeartbeats 4000000
namespace Mn
open PySem PySem.Spec PyProof.Rows
open L2 (atI ixN cutS)
def F_law_is_base (v_found : List (List Int)) (v_due : List (List Int)) : Option (Bool) :=
  if (((!true) || (!decide ((v_found.length : Int) = (v_due.length : Int))))) = true then
  (some false)
  else
  ((rng1 ((v_due.length : Int))).bind fun (r1 : List Int) =>
  (mapG r1 fun (y2 : Int) => ((atI v_found y2).bind fun (t3 : List Int) => (atI v_due y2).bind fun (t4 : List Int) => F_law_rests t3 t4)).bind fun (t6 : List Bool) =>
  some (t6.all id))
end Mn

set_option maxHeartbeats 1000000
namespace La
open Mn
open PySem
open L2 (atI ixN atI_nat)
theorem mapG_any {α β : Type} {f : α → Option β} {xs : List α} (Q : β → Prop) (h : ∀ x ∈ xs, ∃ y, f x = some y ∧ Q y) (hl : xs.length ≤ 1000000) : ∃ ys, mapG xs f = some ys ∧ ys.length = xs.length ∧ ∀ y ∈ ys, Q y := by
  unfold mapG
  rw [if_pos (by rw [lim]; exact hl)]
  induction xs with
  | nil => exact ⟨[], rfl, rfl, fun y hy => absurd hy (by simp)⟩
  | cons x xs ih =>
    obtain ⟨y, e, q⟩ := h x (by simp)
    obtain ⟨ys, e2, l2, q2⟩ := ih (fun z hz => h z (by simp [hz])) (by simp at hl; omega)
    refine ⟨y :: ys, ?_, by simp [l2], fun z hz => ?_⟩
    · unfold mapO
      rw [e, Option.bind_some, e2]
      rfl
    · rcases List.mem_cons.mp hz with rfl | hz
      · exact q
      · exact q2 z hz
theorem at_mem {α : Type} {xs : List α} {i : Int} (h0 : 0 ≤ i) (h1 : i < xs.length) : ∃ x, atI xs i = some x ∧ x ∈ xs := by
  have : i.toNat < xs.length := by omega
  refine ⟨xs[i.toNat], ?_, List.getElem_mem this⟩
  have e : i = ((i.toNat : Nat) : Int) := by omega
  conv => lhs; rw [e]
  exact atI_nat (by rw [List.getElem?_eq_getElem this])
/-- rests, so many -/
def IsLd (p : Int) (n : Nat) (xs : List Int) : Prop := xs.length = n ∧ ∀ x ∈ xs, 0 ≤ x ∧ x < p
variable {p : Int} [Pr p]
theorem ofLd {n : Nat} {xs : List Int} (h : IsLd p n xs) : ∃ v : Nat → Fp p, xs = lst n v ∧ ∀ i, n ≤ i → v i = 0 := by
  obtain ⟨hl, hx⟩ := h
  refine ⟨fun i => Fp.of (xs.getD i 0), ?_, fun i hi => ?_⟩
  · refine List.ext_getElem (by rw [lst_len]; exact hl) fun i h1 h2 => ?_
    have e : (lst n fun i => (Fp.of (xs.getD i 0) : Fp p))[i] = (xs.getD i 0) % p := by
      simp only [lst, List.getElem_map, List.getElem_range]
      rfl
    rw [e]
    have : xs.getD i 0 = xs[i] := by simp [List.getD, h1]
    rw [this]
    have := hx _ (List.getElem_mem h1)
    exact (Int.emod_eq_of_lt this.1 this.2).symm
  · show Fp.of (xs.getD i 0) = 0
    have : xs.getD i 0 = 0 := by simp [List.getD, hl, hi]
    rw [this]
    exact Fp.ext (by rw [Fp.of_v, Fp.zero_v, Int.zero_emod])
theorem ofLds {n : Nat} : ∀ {L : List (List Int)}, (∀ xs ∈ L, IsLd p n xs) → ∃ rows : List (Nat → Fp p), L = rows.map (lst n) ∧ ∀ r ∈ rows, ∀ i, n ≤ i → r i = 0
  | [], _ => ⟨[], rfl, fun r hr => absurd hr (by simp)⟩
  | x :: L, h => by
    obtain ⟨v, e, s⟩ := ofLd (h x (by simp))
    obtain ⟨rows, e2, s2⟩ := ofLds (L := L) fun y hy => h y (by simp [hy])
    refine ⟨v :: rows, by rw [e, e2]; rfl, fun r hr => ?_⟩
    rcases List.mem_cons.mp hr with rfl | hr
    · exact s
    · exact s2 r hr
theorem ld_lst (n : Nat) (v : Nat → Fp p) : IsLd p n (lst n v) := ⟨lst_len n v, fun x hx => by
  obtain ⟨i, _, rfl⟩ := lst_fst x hx
  exact ⟨(v i).lo, (v i).hi⟩⟩
theorem mod_ld (x : Int) : 0 ≤ x % p ∧ x % p < p := ⟨Int.emod_nonneg _ (by have := Pr.pos (p := p); omega), Int.emod_lt_of_pos _ Pr.pos⟩
theorem at_nth {α : Type} {xs : List α} {i : Nat} (h : i < xs.length) : atI xs (i : Int) = some xs[i] := atI_nat (List.getElem?_eq_getElem h)
theorem f_law_is_base (n : Nat) (hn : n ≤ 1000000) (L : List (List Int)) (hL : L.length ≤ 1000000) (h : ∀ xs ∈ L, xs.length = n) : F_law_is_base L L = some true := by
  unfold F_law_is_base
  rw [if_neg (by simp), rng1_s hL, Option.bind_some, mapG_r (fun _ => true) (fun i hi => ?_) hL]
  · simp
  · rw [at_nth hi]
    simp only [Option.bind_some]
    exact f_law_rests _ (by rw [h _ (List.getElem_mem hi)]; exact hn)
theorem is_base_vs (n : Nat) (hn : n ≤ 1000000) (ps : List (Nat × (Nat → Fp p))) (h : ps.length ≤ 1000000) : F_law_is_base ((vs ps).map (lst n)) ((vs ps).map (lst n)) = some true :=
  f_law_is_base n hn _ (by unfold vs; simpa using h) fun xs hx => by
    obtain ⟨v, _, rfl⟩ := List.mem_map.mp hx
    exact lst_len n v
theorem zip_any {α β : Type} {xs : List α} {ys : List β} : (List.zip xs ys).length = min xs.length ys.length := List.length_zip
end La

set_option maxHeartbeats 4000000
namespace Mn
open PySem PySem.Spec PyProof.Rows
open L2 (atI ixN cutS)
def F_image (v_p : Int) (v_table : Int × Int × List (List Int)) : Option (List (List Int)) :=
  (F_columns_of v_table).bind fun (t1 : List (List Int)) =>
  F_base_of v_p v_table.1 t1
end Mn

namespace Mn
open PySem PySem.Spec PyProof.Rows
open L2 (atI ixN cutS)
def F_rank (v_p : Int) (v_table : Int × Int × List (List Int)) : Option (Int) :=
  (F_image v_p v_table).bind fun (t1 : List (List Int)) =>
  some ((t1.length : Int))
end Mn

set_option maxHeartbeats 1000000
namespace La
open Mn
open PySem
open L2 (atI ixN atI_nat)
variable {p : Int} [Pr p]
theorem rws_rows (h w : Nat) (A : Nat → Nat → Fp p) : rws h w A = (rowsOf h w A).map (lst w) := by
  unfold rws rowsOf
  rw [List.map_map]
  refine List.map_congr_left fun i _ => ?_
  show lst w (A i) = lst w fun j => if j < w then A i j else 0
  rw [lst_eq]
  intro j hj
  rw [if_pos hj]
theorem rowsOf_len (h w : Nat) (A : Nat → Nat → Fp p) : (rowsOf h w A).length = h := by unfold rowsOf; rw [List.length_map, List.length_range]
theorem f_base_rws (h w : Nat) (hh : h ≤ 100000) (hw : w ≤ 100000) (A : Nat → Nat → Fp p) : F_base_of p (w : Int) (rws h w A) = some ((vs (bse w (Spn (rowsOf h w A)))).map (lst w)) := by
  rw [rws_rows]
  exact (f_base_of w hw _ (by rw [rowsOf_len]; exact hh) (rowsOf_sup h w A)).1
theorem f_law_base_rws (h w : Nat) (hh : h ≤ 100000) (hw : w ≤ 100000) (A : Nat → Nat → Fp p) : F_law_base p (w : Int) (rws h w A) = some ((vs (bse w (Spn (rowsOf h w A)))).map (lst w)) := by
  rw [rws_rows]
  exact f_law_base w hw _ (by rw [rowsOf_len]; exact hh) (rowsOf_sup h w A)
theorem f_image (h w : Nat) (hh : h ≤ 100000) (hw : w ≤ 100000) (A : Nat → Nat → Fp p) : F_image p (tb h w A) = some ((vs (bse h (Spn (rowsOf w h (tr A))))).map (lst h)) := by
  unfold F_image
  rw [f_columns h w (by omega) (by omega), Option.bind_some]
  exact f_base_rws w h hw hh (tr A)
theorem bse_len (h w : Nat) (A : Nat → Nat → Fp p) : (bse w (Spn (rowsOf h w A))).length ≤ w := (bse_spn (rowsOf_sup h w A)).1.len_le
theorem f_rank (h w : Nat) (hh : h ≤ 100000) (hw : w ≤ 100000) (A : Nat → Nat → Fp p) : F_rank p (tb h w A) = some ((rk h w A : Nat) : Int) := by
  unfold F_rank
  rw [f_image h w hh hw, Option.bind_some]
  have : ((vs (bse h (Spn (rowsOf w h (tr A))))).map (lst h)).length = rk h w A := by
    rw [List.length_map, ← rk_tr]
    unfold vs rk
    rw [List.length_map]
  rw [this]
theorem columns_in (h w : Nat) (hh : h ≤ 1000000) (hw : w ≤ 1000000) (A : Nat → Nat → Fp p) : mapG ((List.range w).map fun i : Nat => (i : Int)) (fun (y : Int) => ((mapG (rws h w A) fun (z : List Int) => atI z y).bind fun (t : List Int) => some t)) = some (rws w h (tr A)) := by
  have := f_columns h w hh hw A
  unfold F_columns_of at this
  obtain ⟨r, e1, e2⟩ := bind_of this
  have e1 : rng1 (w : Int) = some r := e1
  rw [rng1_s hw] at e1
  cases e1
  exact e2
theorem drawn_ex {ns : List Int} (hns : ns.length ≤ 63) : ∃ (h w : Nat) (A : Nat → Nat → Fp p), F_law_drawn ns p = some (tb h w A) ∧ h < 7 ∧ w < 7 := by
  unfold F_law_drawn
  obtain ⟨h, eh, lh⟩ := nat_mod (x := mixV ns 1) (m := 7) (by omega)
  obtain ⟨w, ew, lw⟩ := nat_mod (x := mixV ns 2) (m := 7) (by omega)
  rw [mix_s hns (by omega) (by omega), Option.bind_some, modG_s (by omega), Option.bind_some, mix_s hns (by omega) (by omega), Option.bind_some, modG_s (by omega), Option.bind_some, mix_s hns (by omega) (by omega), Option.bind_some, modG_s (by omega), Option.bind_some, eh, ew]
  by_cases c : mixV ns 3 % 2 = 0
  · rw [if_pos (by simp [c]), f_law_table hns (by omega) (by omega) (by omega) (by omega)]
    exact ⟨h, w, _, rfl, by omega, by omega⟩
  · obtain ⟨b, eb, lb⟩ := nat_mod (x := mixV ns 3 / 2) (m := 4) (by omega)
    rw [if_neg (by simp [c]), Option.bind_some, fdivG_s (by omega) (by omega), Option.bind_some, modG_s (by omega), Option.bind_some, eb, f_law_table hns (by omega) (by omega) (by omega) (by omega), Option.bind_some, f_law_table hns (by omega) (by omega) (by omega) (by omega), Option.bind_some, f_law_product h b w (by omega) (by omega) (by omega)]
    exact ⟨h, w, _, rfl, by omega, by omega⟩
end La

namespace La
section
variable {K : Type} [Lean.Grind.Field K] [DecidableEq K]
theorem sm_two {n a b : Nat} {f : Nat → K} (ha : a < n) (hb : b < n) (ne : a ≠ b) (h : ∀ i, i < n → i ≠ a → i ≠ b → f i = 0) : sm n f = f a + f b := by
  have e : sm n f = sm n (fun i => (if i = a then f a else 0) + (if i = b then f b else 0)) := sm_congr fun i hi => by
    by_cases h1 : i = a
    · subst h1; rw [if_pos rfl, if_neg ne]; grind
    · by_cases h2 : i = b
      · subst h2; rw [if_neg h1, if_pos rfl]; grind
      · rw [if_neg h1, if_neg h2, h i hi h1 h2]; grind
  rw [e, sm_add, sm_one ha fun i _ hi => if_neg hi, sm_one hb fun i _ hi => if_neg hi, if_pos rfl, if_pos rfl]
/-- product number by number -/
def dt (n : Nat) (u v : Nat → K) : K := sm n fun k => u k * v k
theorem dt_add (n : Nat) (u v w : Nat → K) (c : K) : dt n (fun i => u i + c * v i) w = dt n u w + c * dt n v w := by
  unfold dt
  rw [← sm_mul, ← sm_add]
  exact sm_congr fun i _ => by grind
theorem dt_addr (n : Nat) (u v w : Nat → K) (c : K) : dt n w (fun i => u i + c * v i) = dt n w u + c * dt n w v := by
  unfold dt
  rw [← sm_mul, ← sm_add]
  exact sm_congr fun i _ => by grind
theorem dt_zero (n : Nat) (w : Nat → K) : dt n w (fun _ => 0) = 0 := sm_z fun i _ => by grind
theorem dt_zerol (n : Nat) (w : Nat → K) : dt n (fun _ => 0) w = 0 := sm_z fun i _ => by grind
/-- the loads that are led to noughts by all rows -/
def Kr (w : Nat) (L : List (Nat → K)) (v : Nat → K) : Prop := (∀ i, w ≤ i → v i = 0) ∧ ∀ r ∈ L, dt w r v = 0
theorem Kr.spn {w : Nat} {L : List (Nat → K)} {v : Nat → K} (h : Kr w L v) {r : Nat → K} (hr : Spn L r) : dt w r v = 0 := by
  induction hr with
  | zero => exact dt_zerol w v
  | add c hb _ ih => rw [dt_add, ih, h.2 _ hb]; grind
theorem Kr.iff {w : Nat} {L M : List (Nat → K)} (h : ∀ v, Spn L v ↔ Spn M v) (v : Nat → K) : Kr w L v ↔ Kr w M v :=
  ⟨fun k => ⟨k.1, fun r hr => k.spn ((h r).mpr (Spn.mem hr))⟩, fun k => ⟨k.1, fun r hr => k.spn ((h r).mp (Spn.mem hr))⟩⟩
theorem Kr.of_spn {w : Nat} {L M : List (Nat → K)} (h : ∀ b ∈ M, Kr w L b) {v : Nat → K} (hv : Spn M v) : Kr w L v := by
  induction hv with
  | zero => exact ⟨fun _ _ => rfl, fun r _ => dt_zero w r⟩
  | add c hb _ ih =>
    have := h _ hb
    exact ⟨fun i hi => by show _ + _ * _ = _; rw [ih.1 i hi, this.1 i hi]; grind, fun r hr => by rw [dt_addr, ih.2 r hr, this.2 r hr]; grind⟩
def isLead (ps : List (Nat × (Nat → K))) (i : Nat) : Bool := ps.any fun q => q.1 == i
theorem isLead_iff {ps : List (Nat × (Nat → K))} {i : Nat} : isLead ps i = true ↔ ∃ q ∈ ps, q.1 = i := by
  unfold isLead
  rw [List.any_eq_true]
  exact ⟨fun ⟨q, h, e⟩ => ⟨q, h, by simpa using e⟩, fun ⟨q, h, e⟩ => ⟨q, h, by simpa using e⟩⟩
/-- one of the kernel's loads, told by a place that is no lead -/
structure Kv (ps : List (Nat × (Nat → K))) (j : Nat) (v : Nat → K) : Prop where
  at_ : ∀ q ∈ ps, v q.1 = - q.2 j
  no : ∀ i, isLead ps i = false → v i = if i = j then 1 else 0
theorem Kv.kr {n j : Nat} {ps : List (Nat × (Nat → K))} (R : Rf n ps) {v : Nat → K} (k : Kv ps j v) (hj : j < n) (nl : isLead ps j = false) : Kr n (vs ps) v := by
  refine ⟨fun i hi => ?_, fun r hr => ?_⟩
  · have : isLead ps i = false := by
      cases e : isLead ps i with
      | false => rfl
      | true =>
        obtain ⟨q, hq, e⟩ := isLead_iff.mp e
        have := R.lt q hq
        omega
    rw [k.no i this, if_neg (by omega)]
  · obtain ⟨q, hq, rfl⟩ := mem_vs.mp hr
    have ne : j ≠ q.1 := fun e => by
      have : isLead ps j = true := isLead_iff.mpr ⟨q, hq, e.symm⟩
      rw [nl] at this
      cases this
    unfold dt
    rw [sm_two hj (R.lt q hq) ne fun i hi h1 h2 => ?_]
    · rw [k.at_ q hq, R.one q hq, k.no j nl, if_pos rfl]; grind
    · cases e : isLead ps i with
      | false => rw [k.no i e, if_neg h1]; grind
      | true =>
        obtain ⟨s, hs, rfl⟩ := isLead_iff.mp e
        rw [R.oth s hs q hq h2]; grind
/-- all such loads make the kernel -/
theorem kr_spn {n : Nat} {ps : List (Nat × (Nat → K))} (R : Rf n ps) (g : Nat → Nat → K) (hg : ∀ j, j < n → isLead ps j = false → Kv ps j (g j)) (v : Nat → K) :
    Spn (((List.range n).filter fun j => !isLead ps j).map g) v ↔ Kr n (vs ps) v := by
  have hm : ∀ b ∈ ((List.range n).filter fun j => !isLead ps j).map g, Kr n (vs ps) b := fun b hb => by
    obtain ⟨j, hj, rfl⟩ := List.mem_map.mp hb
    obtain ⟨h1, h2⟩ := List.mem_filter.mp hj
    have h2 : isLead ps j = false := by simpa using h2
    exact (hg j (List.mem_range.mp h1) h2).kr R (List.mem_range.mp h1) h2
  refine ⟨Kr.of_spn hm, fun hv => ?_⟩
  let u : Nat → K := fun i => sm n fun j => (if isLead ps j = true then 0 else v j) * (if isLead ps j = true then 0 else g j i)
  have hu : Spn (((List.range n).filter fun j => !isLead ps j).map g) u := by
    refine spn_sm n (fun j => if isLead ps j = true then 0 else v j) (fun j i => if isLead ps j = true then 0 else g j i) fun j hj => ?_
    cases e : isLead ps j with
    | true => exact Spn.zero.eq fun i => by simp
    | false => exact (Spn.mem (List.mem_map.mpr ⟨j, List.mem_filter.mpr ⟨List.mem_range.mpr hj, by rw [e]; rfl⟩, rfl⟩)).eq fun i => by simp
  have ku := Kr.of_spn hm hu
  -- the difference
  have kd : Kr n (vs ps) (fun i => v i + (-1) * u i) := ⟨fun i hi => by show v i + (-1) * u i = 0; rw [hv.1 i hi, ku.1 i hi]; grind, fun r hr => by rw [dt_addr, hv.2 r hr, ku.2 r hr]; grind⟩
  have z1 : ∀ i, i < n → isLead ps i = false → v i + (-1) * u i = 0 := fun i hi e => by
    have : u i = v i := by
      show sm n _ = _
      rw [sm_one hi fun j hj hne => ?_]
      · rw [e]
        simp only [Bool.false_eq_true, if_false]
        rw [(hg i hi e).no i e, if_pos rfl]
        grind
      · cases ej : isLead ps j with
        | true => simp only [if_true]; grind
        | false =>
          simp only [Bool.false_eq_true, if_false]
          rw [(hg j hj ej).no i e, if_neg (fun z => hne z.symm)]
          grind
    rw [this]; grind
  have z2 : ∀ q ∈ ps, v q.1 + (-1) * u q.1 = 0 := fun q hq => by
    have := kd.2 q.2 (mem_vs.mpr ⟨q, hq, rfl⟩)
    unfold dt at this
    rw [sm_one (R.lt q hq) fun i hi hne => ?_] at this
    · rw [R.one q hq] at this
      grind
    · show q.2 i * (v i + (-1) * u i) = 0
      cases e : isLead ps i with
      | false => rw [z1 i hi e]; grind
      | true =>
        obtain ⟨s, hs, rfl⟩ := isLead_iff.mp e
        rw [R.oth s hs q hq hne]; grind
  refine hu.eq fun i => ?_
  have : v i + (-1) * u i = 0 := by
    by_cases hi : i < n
    · cases e : isLead ps i with
      | false => exact z1 i hi e
      | true =>
        obtain ⟨q, hq, rfl⟩ := isLead_iff.mp e
        exact z2 q hq
    · rw [hv.1 i (by omega), ku.1 i (by omega)]; grind
  grind
/-- a load for each place -/
theorem kv_ex {n : Nat} {ps : List (Nat × (Nat → K))} (R : Rf n ps) (j : Nat) (nl : isLead ps j = false) : Kv ps j (fun i => if isLead ps i = true then - (cmb ps (fun l => if l = i then 1 else 0) j) else if i = j then 1 else 0) := by
  refine ⟨fun q hq => ?_, fun i hi => by rw [if_neg (by rw [hi]; exact Bool.false_ne_true)]⟩
  rw [if_pos (isLead_iff.mpr ⟨q, hq, rfl⟩), cmb_one ps R.inc hq _ (if_pos rfl) fun r hr hne => if_neg hne]
theorem rf_units (m : Nat) : Rf m ((List.range m).map fun i => (i, fun j => if j < m then (dl i j : K) else 0)) := by
  have inv : ∀ q ∈ (List.range m).map (fun i => (i, fun j => if j < m then (dl i j : K) else 0)), q.1 < m ∧ ∀ j, q.2 j = if j < m then dl q.1 j else 0 := fun q hq => by
    obtain ⟨i, hi, rfl⟩ := List.mem_map.mp hq
    exact ⟨List.mem_range.mp hi, fun j => rfl⟩
  refine ⟨List.pairwise_map.mpr List.pairwise_lt_range, fun q hq => ?_, fun q hq i hi => ?_, fun q hq r hr e => ?_, fun q hq => (inv q hq).1, fun q hq i hi => ?_⟩
  · rw [(inv q hq).2, if_pos (inv q hq).1]; unfold dl; rw [if_pos rfl]
  · rw [(inv q hq).2]; have := (inv q hq).1; rw [if_pos (by omega)]; unfold dl; rw [if_neg (by omega)]
  · rw [(inv r hr).2]; have := (inv q hq).1; rw [if_pos (by omega)]; unfold dl; rw [if_neg (fun z => e z.symm)]
  · rw [(inv q hq).2, if_neg (by omega)]
theorem rk_units (m : Nat) : rk m m (fun i j => (dl i j : K)) = m := by
  unfold rk
  have e : rowsOf m m (fun i j => (dl i j : K)) = vs ((List.range m).map fun i => (i, fun j => if j < m then (dl i j : K) else 0)) := by
    unfold rowsOf vs
    rw [List.map_map]
    rfl
  rw [bse_eq (rf_units m) (fun v => by rw [e])]
  simp
theorem rk_le_h (h w : Nat) (A : Nat → Nat → K) : rk h w A ≤ h := by
  have := (bse_spn (rowsOf_sup h w A)).2.2
  unfold rk
  have e : (rowsOf h w A).length = h := by unfold rowsOf; simp
  omega
theorem cmb_sm (ps : List (Nat × (Nat → K))) (v : Nat → K) (i : Nat) : cmb ps v i = sm ps.length (fun k => v ((ps[k]?.getD (0, fun _ => 0)).1) * (ps[k]?.getD (0, fun _ => 0)).2 i) := by
  induction ps with
  | nil => rfl
  | cons q ps ih =>
    rw [cmb_cons, ih, List.length_cons, sm_head]
    simp
theorem piv_le {n m : Nat} {L : List (Nat → K)} (sup : ∀ b ∈ L, ∀ i, n ≤ i → b i = 0) (piv : Nat → Nat) (f : Nat → Nat → K) (hf : ∀ k, k < m → Spn L (f k)) (h : ∀ k l, k < m → l < m → f k (piv l) = dl k l) : m ≤ (bse n (Spn L)).length := by
  obtain ⟨R, e, _⟩ := bse_spn sup
  generalize bse n (Spn L) = ps at R e ⊢
  have : rk m m (fun i j => (dl i j : K)) ≤ ps.length := by
    have eq : rk m m (fun i j => (dl i j : K)) = rk m m (mm ps.length (fun k a => f k ((ps[a]?.getD (0, fun _ => 0)).1)) (fun a l => (ps[a]?.getD (0, fun _ => 0)).2 (piv l))) := by
      unfold rk rowsOf
      congr 3
      refine List.map_congr_left fun k hk => funext fun l => ?_
      by_cases hl : l < m
      · rw [if_pos hl, if_pos hl]
        show dl k l = mm ps.length (fun k a => f k ((ps[a]?.getD (0, fun _ => 0)).1)) (fun a l => (ps[a]?.getD (0, fun _ => 0)).2 (piv l)) k l
        rw [← h k l (List.mem_range.mp hk) hl, R.coord ((e _).mpr (hf k (List.mem_range.mp hk))), cmb_sm]
        rfl
      · rw [if_neg hl, if_neg hl]
    rw [eq]
    exact Nat.le_trans (rk_mm_r _ _ _ _ _) (rk_le_h _ _ _)
  rw [rk_units] at this
  exact this
/-- the kernel's size -/
theorem kr_size {w : Nat} {ps : List (Nat × (Nat → K))} (R : Rf w ps) (g : Nat → Nat → K) (hg : ∀ j, j < w → isLead ps j = false → Kv ps j (g j)) :
    (bse w (Spn (((List.range w).filter fun j => !isLead ps j).map g))).length = w - ps.length := by
  have sup : ∀ b ∈ ((List.range w).filter fun j => !isLead ps j).map g, ∀ i, w ≤ i → b i = 0 := fun b hb => ((kr_spn R g hg b).mp (Spn.mem hb)).1
  have len : ((List.range w).filter fun j => !isLead ps j).length = w - ps.length := by
    have h1 : ((List.range w).filter fun j => isLead ps j).length = ps.length := by
      have a : ((List.range w).filter fun j => isLead ps j).length ≤ (ps.map Prod.fst).length := nodup_len (List.nodup_range.filter _) fun x hx => by
        obtain ⟨q, hq, e⟩ := isLead_iff.mp (List.mem_filter.mp hx).2
        exact List.mem_map.mpr ⟨q, hq, e⟩
      have b : (ps.map Prod.fst).length ≤ ((List.range w).filter fun j => isLead ps j).length := nodup_len R.nodup1 fun x hx => by
        obtain ⟨q, hq, rfl⟩ := List.mem_map.mp hx
        exact List.mem_filter.mpr ⟨List.mem_range.mpr (R.lt q hq), isLead_iff.mpr ⟨q, hq, rfl⟩⟩
      rw [List.length_map] at a b
      omega
    have h2 : ∀ l : List Nat, (l.filter fun j => !isLead ps j).length + (l.filter fun j => isLead ps j).length = l.length := fun l => by
      induction l with
      | nil => rfl
      | cons x l ih => rw [List.filter_cons, List.filter_cons]; cases isLead ps x <;> simp <;> omega
    have := h2 (List.range w)
    rw [List.length_range] at this
    omega
  refine Nat.le_antisymm ?_ ?_
  · have := (bse_spn sup).2.2
    rw [List.length_map, len] at this
    exact this
  · rw [← len]
    let js := (List.range w).filter fun j => !isLead ps j
    have hj : ∀ k, k < js.length → js[k]?.getD 0 < w ∧ isLead ps (js[k]?.getD 0) = false ∧ js[k]?.getD 0 ∈ js := fun k hk => by
      have hm : js[k]?.getD 0 ∈ js := by rw [List.getElem?_eq_getElem hk]; exact List.getElem_mem hk
      obtain ⟨h1, h2⟩ := List.mem_filter.mp hm
      exact ⟨List.mem_range.mp h1, by simpa using h2, hm⟩
    refine piv_le sup (fun l => js[l]?.getD 0) (fun k => g (js[k]?.getD 0)) (fun k hk => Spn.mem (List.mem_map.mpr ⟨_, (hj k hk).2.2, rfl⟩)) fun k l hk hl => ?_
    rw [(hg _ (hj k hk).1 (hj k hk).2.1).no _ (hj l hl).2.1]
    unfold dl
    have inj : js[l]?.getD 0 = js[k]?.getD 0 ↔ k = l := by
      rw [List.getElem?_eq_getElem hk, List.getElem?_eq_getElem hl]
      show js[l] = js[k] ↔ _
      rw [List.getElem_inj (List.nodup_range.filter _)]
      exact eq_comm
    by_cases e : k = l
    · rw [if_pos e, if_pos (inj.mpr e)]
    · rw [if_neg e, if_neg (fun z => e (inj.mp z))]
/-- the kernel's base -/
theorem kr_bse {w : Nat} {L : List (Nat → K)} (sup : ∀ b ∈ L, ∀ i, w ≤ i → b i = 0) : Rf w (bse w (Kr w L)) ∧ (∀ v, Spn (vs (bse w (Kr w L))) v ↔ Kr w L v) ∧ (bse w (Kr w L)).length = w - (bse w (Spn L)).length := by
  obtain ⟨R, e, _⟩ := bse_spn sup
  have k1 : ∀ v, Kr w (vs (bse w (Spn L))) v ↔ Kr w L v := fun v => Kr.iff e v
  generalize bse w (Spn L) = ps at R e k1 ⊢
  have hg := fun j (_ : j < w) (nl : isLead ps j = false) => kv_ex R j nl
  have sp := kr_spn R _ hg
  have sz := kr_size R _ hg
  generalize ((List.range w).filter fun j => !isLead ps j).map _ = M at sp sz
  have sm : ∀ b ∈ M, ∀ i, w ≤ i → b i = 0 := fun b hb => ((sp b).mp (Spn.mem hb)).1
  obtain ⟨R', e', _⟩ := bse_spn sm
  have : bse w (Kr w L) = bse w (Spn M) := bse_eq R' fun v => (e' v).trans ((sp v).trans (k1 v))
  rw [this]
  exact ⟨R', fun v => (e' v).trans ((sp v).trans (k1 v)), sz⟩
end
end La

set_option maxHeartbeats 4000000
namespace Mn
open PySem PySem.Spec PyProof.Rows
open L2 (atI ixN cutS)
def F_kernel (v_p : Int) (v_table : Int × Int × List (List Int)) : Option (List (List Int)) :=
  (some v_table.2.1).bind fun (v_wide_1 : Int) =>
  (F_base_of v_p v_wide_1 v_table.2.2).bind fun (v_base_3 : List (List Int)) =>
  (mapG v_base_3 fun (y4 : List Int) => F_lead_of y4).bind fun (v_leads_7 : List Int) =>
  (some (([] : List (List Int)))).bind fun (v_loads_8 : List (List Int)) =>
  (rng1 v_wide_1).bind fun (r10 : List Int) =>
  (foldO (fun (x11 : Int) (s9 : List (List Int)) =>
  if (!decide (x11 ∈ v_leads_7)) = true then
  ((rng1 v_wide_1).bind fun (r12 : List Int) =>
  (mapG r12 fun (y13 : Int) => some ((if (decide (y13 = x11)) = true then (1 : Int) else 0))).bind fun (v_load_15 : List Int) =>
  (foldO (fun (x17 : List Int × Int) (s16 : List Int) =>
  (atI x17.1 x11).bind fun (t18 : Int) =>
  (modG (((0 : Int)) - t18) v_p).bind fun (t19 : Int) =>
  (setG s16 x17.2 t19).bind fun (v_load_20 : List Int) =>
  some v_load_20) (List.zip v_base_3 v_leads_7) v_load_15).bind fun (s16 : List Int) =>
  (appG s9 s16).bind fun (v_loads_21 : List (List Int)) =>
  some v_loads_21)
  else
  (some s9)) r10 v_loads_8).bind fun (s9 : List (List Int)) =>
  F_base_of v_p v_wide_1 s9
end Mn

set_option maxHeartbeats 1000000
namespace La
open Mn
open PySem
open L2 (atI ixN atI_nat)
theorem enI_map {α β : Type} (f : α → β) : ∀ (xs : List α) (k : Nat), enI k (xs.map f) = (enI k xs).map fun p => (p.1, f p.2)
  | [], _ => rfl
  | x :: xs, k => by
    show _ :: enI (k + 1) (xs.map f) = _
    rw [enI_map f xs (k + 1)]
    rfl
theorem enI_r {β : Type} (f : Nat → β) (n : Nat) : enI 0 ((List.range n).map f) = (List.range n).map fun i : Nat => ((i : Int), f i) := by
  have : ∀ (m k : Nat), enI k ((List.range m).map fun i => f (k + i)) = (List.range m).map fun i : Nat => (((k + i : Nat) : Int), f (k + i)) := fun m => by
    induction m with
    | zero => intro k; rfl
    | succ m ih =>
      intro k
      rw [List.range_succ_eq_map, List.map_cons, List.map_cons, List.map_map, List.map_map]
      show _ :: enI (k + 1) _ = _
      have := ih (k + 1)
      have e : ((fun i => f (k + i)) ∘ Nat.succ) = fun i => f (k + 1 + i) := funext fun i => by show f (k + (i + 1)) = _; rw [show k + (i + 1) = k + 1 + i by omega]
      have e2 : ((fun i : Nat => (((k + i : Nat) : Int), f (k + i))) ∘ Nat.succ) = fun i : Nat => (((k + 1 + i : Nat) : Int), f (k + 1 + i)) := funext fun i => by show (((k + (i + 1) : Nat) : Int), f (k + (i + 1))) = _; rw [show k + (i + 1) = k + 1 + i by omega]
      rw [e, e2, this]
      rfl
  have := this n 0
  simpa using this
theorem loopO_rt {σ ρ α : Type} {f : α → σ → Option (Lp σ ρ)} {φ : Nat → α} {n l : Nat} {s : σ} {r : ρ} (hl : l < n) (h : ∀ i, i < l → f (φ i) s = some (.nx s)) (hr : f (φ l) s = some (.rt r)) : loopO f ((List.range n).map φ) s = some (.rt r) := by
  induction n generalizing φ l with
  | zero => omega
  | succ n ih =>
    rw [List.range_succ_eq_map, List.map_cons, List.map_map]
    unfold loopO
    cases l with
    | zero => rw [hr]; rfl
    | succ l =>
      rw [h 0 (by omega)]
      exact ih (φ := φ ∘ Nat.succ) (l := l) (by omega) (fun i hi => h (i + 1) (by omega)) hr
variable {p : Int} [Pr p]
theorem f_lead_of {n l : Nat} (v : Nat → Fp p) (hl : l < n) (h1 : v l ≠ 0) (h0 : ∀ i, i < l → v i = 0) : F_lead_of (lst n v) = some (l : Int) := by
  unfold F_lead_of
  have := loopO_rt (ρ := Int) (f := fun (x2 : Int × Int) (s1 : Unit) => if (!decide (x2.2 = (0 : Int))) = true then ((some x2.1).bind fun r => some (Lp.rt r)) else (some (Lp.nx (())))) (φ := fun i : Nat => ((i : Int), (v i).v)) (s := ()) (r := (l : Int)) hl (fun i hi => by
    rw [v_ne0, if_neg (by simp [h0 i hi])]) (by rw [v_ne0, if_pos (by simp [h1])]; rfl)
  unfold lst
  rw [enI_r, this]
  rfl
theorem f_lead_none {n : Nat} (v : Nat → Fp p) (h0 : ∀ i, i < n → v i = 0) : F_lead_of (lst n v) = some (n : Int) := by
  unfold F_lead_of
  have := loopO_nx (ρ := Int) (f := fun (x2 : Int × Int) (s1 : Unit) => if (!decide (x2.2 = (0 : Int))) = true then ((some x2.1).bind fun r => some (Lp.rt r)) else (some (Lp.nx (())))) (φ := fun i : Nat => ((i : Int), (v i).v)) (n := n) (fun _ => ()) (fun i hi => by
    rw [v_ne0, if_neg (by simp [h0 i hi])])
  rw [show enI 0 (lst n v) = (List.range n).map fun i : Nat => ((i : Int), (v i).v) from enI_r _ _, this]
  show some ((lst n v).length : Int) = _
  rw [lst_len]
theorem f_lead_rf {n : Nat} {ps : List (Nat × (Nat → Fp p))} (R : Rf n ps) {q : Nat × (Nat → Fp p)} (hq : q ∈ ps) : F_lead_of (lst n q.2) = some (q.1 : Int) :=
  f_lead_of q.2 (R.lt q hq) (by rw [R.one q hq]; intro e; exact Lean.Grind.Field.zero_ne_one e.symm) (R.low q hq)
theorem setG_lst {n l : Nat} (v : Nat → Fp p) (hl : l < n) (x : Fp p) : setG (lst n v) (l : Int) x.v = some (lst n fun i => if i = l then x else v i) := by
  unfold setG
  have : ixN (lst n v).length (l : Int) = some l := by rw [lst_len, ixN_nat (by omega) (by omega)]; simp
  rw [this, Option.bind_some]
  congr 1
  refine List.ext_getElem (by rw [List.length_set, lst_len, lst_len]) fun i h1 h2 => ?_
  have hi : i < n := by rw [lst_len] at h2; exact h2
  rw [List.getElem_set]
  have e : (lst n fun i => if i = l then x else v i)[i] = (if i = l then x else v i).v := by simp only [lst, List.getElem_map, List.getElem_range]
  have e2 : (lst n v)[i]'(by rw [lst_len]; exact hi) = (v i).v := by simp only [lst, List.getElem_map, List.getElem_range]
  rw [e, e2]
  by_cases q : l = i
  · rw [if_pos q, if_pos q.symm]
  · rw [if_neg q, if_neg (Ne.symm q)]
theorem Kv.uniq {ps : List (Nat × (Nat → Fp p))} {j : Nat} {v w : Nat → Fp p} (a : Kv ps j v) (b : Kv ps j w) : v = w := funext fun i => by
  cases e : isLead ps i with
  | false => rw [a.no i e, b.no i e]
  | true =>
    obtain ⟨q, hq, rfl⟩ := isLead_iff.mp e
    rw [a.at_ q hq, b.at_ q hq]
theorem lead_in (ps : List (Nat × (Nat → Fp p))) (i : Nat) : decide ((i : Int) ∈ ps.map fun q => (q.1 : Int)) = isLead ps i := by
  cases e : isLead ps i with
  | true =>
    obtain ⟨q, hq, rfl⟩ := isLead_iff.mp e
    exact decide_eq_true (List.mem_map.mpr ⟨q, hq, rfl⟩)
  | false =>
    refine decide_eq_false fun h => ?_
    obtain ⟨q, hq, e2⟩ := List.mem_map.mp h
    have : isLead ps i = true := isLead_iff.mpr ⟨q, hq, by omega⟩
    rw [e] at this
    cases this
theorem zip_m {α β γ : Type} (f : α → β) (g : α → γ) : ∀ xs : List α, List.zip (xs.map f) (xs.map g) = xs.map fun x => (f x, g x)
  | [] => rfl
  | x :: xs => by simp [zip_m f g xs]
/-- the kernel of a list of rows -/
theorem f_kernel_l (x : Int) (w : Nat) (hw : w ≤ 10000) (L : List (Nat → Fp p)) (hL : L.length ≤ 10000) (sup : ∀ b ∈ L, ∀ i, w ≤ i → b i = 0) :
    F_kernel p (x, (w : Int), L.map (lst w)) = some ((vs (bse w (Kr w L))).map (lst w)) := by
  unfold F_kernel
  obtain ⟨eb, R, sp⟩ := f_base_of w (by omega) L (by omega) sup
  have kb := kr_bse sup
  have k1 : ∀ v, Kr w (vs (bse w (Spn L))) v ↔ Kr w L v := fun v => Kr.iff sp v
  show (some (w : Int)).bind _ = _
  rw [Option.bind_some, eb, Option.bind_some]
  generalize bse w (Spn L) = ps at R sp k1
  have hpl := R.len_le
  have hl : mapG ((vs ps).map (lst w)) (fun (y4 : List Int) => F_lead_of y4) = some (ps.map fun q => (q.1 : Int)) := by
    unfold vs
    rw [List.map_map, mapG_m (φ := (lst w) ∘ Prod.snd) (fun q : Nat × (Nat → Fp p) => (q.1 : Int)) (fun q hq => f_lead_rf R hq) (by omega)]
  rw [hl, Option.bind_some, Option.bind_some, rng1_s (by omega), Option.bind_some]
  let g : Nat → Nat → Fp p := fun j i => if isLead ps i = true then - (cmb ps (fun l => if l = i then 1 else 0) j) else if i = j then 1 else 0
  obtain ⟨s, es, rfl⟩ := foldO_inv (f := fun (x11 : Int) (s9 : List (List Int)) =>
      if (!decide (x11 ∈ ps.map fun q => (q.1 : Int))) = true then
      ((some ((List.range w).map fun i : Nat => (i : Int))).bind fun (r12 : List Int) =>
      (mapG r12 fun (y13 : Int) => some ((if (decide (y13 = x11)) = true then (1 : Int) else 0))).bind fun (v_load_15 : List Int) =>
      (foldO (fun (x17 : List Int × Int) (s16 : List Int) =>
      (atI x17.1 x11).bind fun (t18 : Int) =>
      (modG (((0 : Int)) - t18) p).bind fun (t19 : Int) =>
      (setG s16 x17.2 t19).bind fun (v_load_20 : List Int) =>
      some v_load_20) (List.zip ((vs ps).map (lst w)) (ps.map fun q => (q.1 : Int))) v_load_15).bind fun (s16 : List Int) =>
      (appG s9 s16).bind fun (v_loads_21 : List (List Int)) =>
      some v_loads_21)
      else
      (some s9)) (φ := fun i : Nat => (i : Int)) (n := w) (s0 := []) (fun k s => s = (((List.range k).filter fun j => !isLead ps j).map g).map (lst w)) rfl (fun j s hj es => by
      subst es
      rw [lead_in]
      cases e : isLead ps j with
      | true =>
        refine ⟨_, rfl, ?_⟩
        rw [List.range_succ, List.filter_append]
        simp [e]
      | false =>
        rw [if_pos (show (!false) = true from rfl), Option.bind_some, mapG_r (fun i => ((if i = j then (1 : Fp p) else 0) : Fp p).v) (fun i hi => by
          by_cases q : i = j
          · subst q; simp [Fp.one_v]
          · rw [if_neg q, if_neg (by simp; omega), Fp.zero_v]) (by omega), Option.bind_some]
        have zz : List.zip ((vs ps).map (lst w)) (ps.map fun q => (q.1 : Int)) = ps.map fun q => (lst w q.2, (q.1 : Int)) := by
          unfold vs
          rw [List.map_map]
          exact zip_m _ _ ps
        rw [zz]
        obtain ⟨s2, e2, v, rfl, v1, v2⟩ := foldO_l (f := fun (x17 : List Int × Int) (s16 : List Int) =>
          (atI x17.1 (j : Int)).bind fun (t18 : Int) =>
          (modG (((0 : Int)) - t18) p).bind fun (t19 : Int) =>
          (setG s16 x17.2 t19).bind fun (v_load_20 : List Int) =>
          some v_load_20) (φ := fun q : Nat × (Nat → Fp p) => (lst w q.2, (q.1 : Int))) (xs := ps) (s0 := (List.range w).map fun i => ((if i = j then (1 : Fp p) else 0) : Fp p).v)
          (fun ys s => ∃ v : Nat → Fp p, s = lst w v ∧ (∀ q ∈ ys, v q.1 = - q.2 j) ∧ ∀ i, (∀ q ∈ ys, q.1 ≠ i) → v i = if i = j then 1 else 0)
          ⟨fun i => if i = j then 1 else 0, rfl, fun q h => absurd h (by simp), fun i _ => rfl⟩ (fun ys q s hq ⟨zs, ez⟩ => by
            rintro ⟨v, rfl, v1, v2⟩
            refine ⟨_, ?_, fun i => if i = q.1 then - q.2 j else v i, rfl, fun r hr => ?_, fun i hi => ?_⟩
            · rw [lst_at _ hj, Option.bind_some, modG_s pP, Option.bind_some]
              have : (0 - (q.2 j).v) % p = (- q.2 j).v := by rw [Fp.neg_v, Int.zero_sub]
              rw [this, setG_lst v (R.lt q hq)]
              rfl
            · rcases List.mem_append.mp hr with hr | hr
              · have hlt : r.1 < q.1 := by
                  have hp := R.inc
                  rw [← ez] at hp
                  exact (List.pairwise_append.mp hp).2.2 r hr q (by simp)
                show (if r.1 = q.1 then _ else v r.1) = _
                rw [if_neg (by omega), v1 r hr]
              · rw [List.mem_singleton.mp hr]
                exact if_pos rfl
            · show (if i = q.1 then _ else v i) = _
              rw [if_neg (fun z => hi q (by simp) z.symm), v2 i fun r hr => hi r (by simp [hr])])
        have kv : Kv ps j v := ⟨v1, fun i hi => v2 i fun q hq z => by
          have : isLead ps i = true := isLead_iff.mpr ⟨q, hq, z⟩
          rw [hi] at this
          cases this⟩
        have gv : v = g j := kv.uniq (kv_ex R j e)
        rw [e2, Option.bind_some, appG_s (by
          have := List.length_filter_le (fun j => !isLead ps j) (List.range j)
          simp at this ⊢
          omega), Option.bind_some]
        refine ⟨_, rfl, ?_⟩
        rw [List.range_succ, List.filter_append, gv]
        simp [e])
  rw [es, Option.bind_some]
  have hg := fun j (_ : j < w) (nl : isLead ps j = false) => kv_ex R j nl
  have sk := kr_spn R g hg
  have lenM : (((List.range w).filter fun j => !isLead ps j).map g).length ≤ w := by
    have := List.length_filter_le (fun j => !isLead ps j) (List.range w)
    simp at this ⊢
    omega
  have fin := (f_base_of w (by omega) (((List.range w).filter fun j => !isLead ps j).map g) (by omega) fun b hb => ((sk b).mp (Spn.mem hb)).1).1
  have e : Spn (((List.range w).filter fun j => !isLead ps j).map g) = Kr w L := funext fun v => propext ((sk v).trans (k1 v))
  rw [e] at fin
  exact fin
theorem f_kernel (h w : Nat) (hh : h ≤ 10000) (hw : w ≤ 10000) (A : Nat → Nat → Fp p) : F_kernel p (tb h w A) = some ((vs (bse w (Kr w (rowsOf h w A)))).map (lst w)) := by
  unfold tb
  rw [rws_rows]
  exact f_kernel_l _ w hw _ (by rw [rowsOf_len]; exact hh) (rowsOf_sup h w A)
end La

namespace La
open Mn
open PySem
open L2 (atI ixN atI_nat)
section
variable {K : Type} [Lean.Grind.Field K] [DecidableEq K]
/-- loads cut off behind w numbers -/
def cutW (w : Nat) (v : Nat → K) : Nat → K := fun j => if j < w then v j else 0
theorem spn_cut {w : Nat} {L : List (Nat → K)} {v : Nat → K} (h : Spn L v) : Spn (L.map (cutW w)) (cutW w v) := by
  induction h with
  | zero => exact Spn.zero.eq fun i => by unfold cutW; split <;> rfl
  | add c hb _ ih => exact (ih.add c (List.mem_map.mpr ⟨_, hb, rfl⟩)).eq fun i => by unfold cutW; split <;> grind
theorem spn_uncut {w : Nat} {L : List (Nat → K)} {v : Nat → K} (h : Spn (L.map (cutW w)) v) : ∃ u, Spn L u ∧ v = cutW w u := by
  induction h with
  | zero => exact ⟨_, .zero, funext fun i => by unfold cutW; split <;> rfl⟩
  | add c hb _ ih =>
    obtain ⟨b', hb', rfl⟩ := List.mem_map.mp hb
    obtain ⟨u, hu, rfl⟩ := ih
    exact ⟨_, hu.add c hb', funext fun i => by unfold cutW; split <;> grind⟩
/-- the rows of a table, each with a number of a load behind -/
def augR (h w : Nat) (A : Nat → Nat → K) (b : Nat → K) : List (Nat → K) := (List.range h).map fun i j => if j < w then A i j else if j = w then b i else 0
theorem augR_sup (h w : Nat) (A : Nat → Nat → K) (b : Nat → K) : ∀ r ∈ augR h w A b, ∀ i, w + 1 ≤ i → r i = 0 := fun r hr i hi => by
  obtain ⟨k, _, rfl⟩ := List.mem_map.mp hr
  show (if i < w then _ else if i = w then _ else 0) = (0 : K)
  rw [if_neg (by omega), if_neg (by omega)]
theorem augR_cut (h w : Nat) (A : Nat → Nat → K) (b : Nat → K) : (augR h w A b).map (cutW w) = rowsOf h w A := by
  unfold augR rowsOf
  rw [List.map_map]
  refine List.map_congr_left fun i _ => funext fun j => ?_
  show (if j < w then (if j < w then A i j else if j = w then b i else 0) else 0) = if j < w then A i j else 0
  by_cases c : j < w
  · rw [if_pos c, if_pos c, if_pos c]
  · rw [if_neg c, if_neg c]
/-- some load is led to b -/
def Slv (h w : Nat) (A : Nat → Nat → K) (b : Nat → K) : Prop := ∃ v : Nat → K, ∀ i, i < h → ml w A v i = b i
theorem aug_dt {h w : Nat} {A : Nat → Nat → K} {b v : Nat → K} (hv : ∀ i, i < h → ml w A v i = b i) {u : Nat → K} (hu : Spn (augR h w A b) u) : sm w (fun j => u j * v j) = u w := by
  induction hu with
  | zero => exact sm_z fun i _ => by grind
  | @add c g u' hb _ ih =>
    obtain ⟨k, hk, rfl⟩ := List.mem_map.mp hb
    have hk := List.mem_range.mp hk
    have e : ∀ j, j < w → (u' j + c * (if j < w then A k j else if j = w then b k else 0)) * v j = u' j * v j + c * (A k j * v j) := fun j hj => by
      rw [if_pos hj]
      grind
    show sm w (fun j => (u' j + c * (if j < w then A k j else if j = w then b k else 0)) * v j) = u' w + c * (if w < w then A k w else if w = w then b k else 0)
    rw [sm_congr e, sm_add, ih, sm_mul]
    have := hv k hk
    unfold ml at this
    rw [this, if_neg (by omega), if_pos rfl]
/-- what the base of the longer rows says -/
theorem solve_no {h w : Nat} {A : Nat → Nat → K} {b : Nat → K} {ps : List (Nat × (Nat → K))} (R : Rf (w + 1) ps) (sp : ∀ v, Spn (vs ps) v ↔ Spn (augR h w A b) v) {q : Nat × (Nat → K)} (hq : q ∈ ps) (e : q.1 = w) : ¬ Slv h w A b := fun ⟨v, hv⟩ => by
  have := aug_dt hv ((sp q.2).mp (Spn.mem (mem_vs.mpr ⟨q, hq, rfl⟩)))
  have h1 := R.one q hq
  rw [e] at h1
  rw [h1] at this
  rw [sm_z fun j hj => by rw [R.low q hq j (by omega)]; grind] at this
  exact Lean.Grind.Field.zero_ne_one this
/-- the load that is told -/
def slt (w : Nat) (ps : List (Nat × (Nat → K))) : Nat → K := fun j => cmb ps (fun i => if i = j then 1 else 0) w
theorem slt_lead {n : Nat} {ps : List (Nat × (Nat → K))} (R : Rf n ps) {q : Nat × (Nat → K)} (hq : q ∈ ps) (w : Nat) : slt w ps q.1 = q.2 w := by
  unfold slt
  exact cmb_one ps R.inc hq _ (if_pos rfl) (fun r _ hr => if_neg hr) w
theorem slt_no {ps : List (Nat × (Nat → K))} {j : Nat} (h : ∀ q ∈ ps, q.1 ≠ j) (w : Nat) : slt w ps j = 0 := cmb_zero ps _ (fun q hq => if_neg (h q hq)) w
theorem slt_snoc (q : Nat × (Nat → K)) (done : List (Nat × (Nat → K))) (w j : Nat) : slt w (done ++ [q]) j = slt w done j + (if q.1 = j then 1 else 0) * q.2 w := by
  unfold slt
  induction done with
  | nil => show (if q.1 = j then (1 : K) else 0) * q.2 w + 0 = 0 + _; grind
  | cons t done ih => rw [List.cons_append, cmb_cons, cmb_cons, ih]; grind
theorem cmb_slt {ps : List (Nat × (Nat → K))} {w : Nat} (inc : ps.Pairwise (fun a b => a.1 < b.1)) (lt : ∀ q ∈ ps, q.1 < w) (r : Nat → K) : cmb ps r w = sm w fun j => r j * slt w ps j := by
  induction ps with
  | nil => exact (sm_z fun j _ => by show r j * 0 = 0; grind).symm
  | cons q ps ih =>
    rw [cmb_cons, ih (List.pairwise_cons.mp inc).2 fun t ht => lt t (by simp [ht])]
    have e : ∀ j, j < w → r j * slt w (q :: ps) j = (r j * q.2 w) * dl j q.1 + r j * slt w ps j := fun j hj => by
      show r j * ((if q.1 = j then 1 else 0) * q.2 w + slt w ps j) = _
      unfold dl
      by_cases c : q.1 = j
      · rw [if_pos c, if_pos c.symm]; grind
      · rw [if_neg c, if_neg (Ne.symm c)]; grind
    rw [sm_congr e, sm_add, sm_dlr (fun j => r j * q.2 w) (lt q (by simp))]
theorem solve_yes {h w : Nat} {A : Nat → Nat → K} {b : Nat → K} {ps : List (Nat × (Nat → K))} (R : Rf (w + 1) ps) (sp : ∀ v, Spn (vs ps) v ↔ Spn (augR h w A b) v) (lt : ∀ q ∈ ps, q.1 < w) : ∀ i, i < h → ml w A (slt w ps) i = b i := fun i hi => by
  have hm : (fun j => if j < w then A i j else if j = w then b i else 0) ∈ augR h w A b := List.mem_map.mpr ⟨i, List.mem_range.mpr hi, rfl⟩
  have e := R.coord ((sp _).mpr (Spn.mem hm)) w
  rw [if_neg (by omega), if_pos rfl, cmb_slt R.inc lt] at e
  rw [e]
  unfold ml
  exact sm_congr fun j hj => by rw [if_pos hj]
/-- its leads are those of the rows -/
theorem solve_leads {h w : Nat} {A : Nat → Nat → K} {b : Nat → K} {ps : List (Nat × (Nat → K))} (R : Rf (w + 1) ps) (sp : ∀ v, Spn (vs ps) v ↔ Spn (augR h w A b) v) (lt : ∀ q ∈ ps, q.1 < w) : bse w (Spn (rowsOf h w A)) = ps.map fun q => (q.1, cutW w q.2) := by
  refine bse_eq ⟨?_, fun q hq => ?_, fun q hq i hi => ?_, fun q hq r hr ne => ?_, fun q hq => ?_, fun q hq i hi => ?_⟩ fun v => ?_
  · exact List.pairwise_map.mpr R.inc
  · obtain ⟨t, ht, rfl⟩ := List.mem_map.mp hq
    show (if t.1 < w then t.2 t.1 else 0) = 1
    rw [if_pos (lt t ht), R.one t ht]
  · obtain ⟨t, ht, rfl⟩ := List.mem_map.mp hq
    show (if i < w then t.2 i else 0) = 0
    rw [R.low t ht i hi]
    split <;> rfl
  · obtain ⟨t, ht, rfl⟩ := List.mem_map.mp hq
    obtain ⟨u, hu, rfl⟩ := List.mem_map.mp hr
    show (if t.1 < w then u.2 t.1 else 0) = 0
    rw [R.oth t ht u hu ne]
    split <;> rfl
  · obtain ⟨t, ht, rfl⟩ := List.mem_map.mp hq
    exact lt t ht
  · obtain ⟨t, ht, rfl⟩ := List.mem_map.mp hq
    exact if_neg (by omega)
  · have e : vs (ps.map fun q => (q.1, cutW w q.2)) = (vs ps).map (cutW w) := by unfold vs; rw [List.map_map, List.map_map]; rfl
    rw [e, ← augR_cut h w A b]
    constructor
    · intro hv
      obtain ⟨u, hu, rfl⟩ := spn_uncut hv
      exact spn_cut ((sp u).mp hu)
    · intro hv
      obtain ⟨u, hu, rfl⟩ := spn_uncut hv
      exact spn_cut ((sp u).mpr hu)
end
variable {p : Int} [Pr p]
open Classical in
/-- what solved answers -/
theorem f_solved (h w : Nat) (hh : h ≤ 10000) (hw : w ≤ 10000) (A : Nat → Nat → Fp p) (b : Nat → Fp p) :
    (¬ Slv h w A b ∧ F_solved p (tb h w A) (lst h b) = some none) ∨
    ∃ v : Nat → Fp p, F_solved p (tb h w A) (lst h b) = some (some (lst w v)) ∧ (∀ i, i < h → ml w A v i = b i) ∧ ∀ j, j < w → isLead (bse w (Spn (rowsOf h w A))) j = false → v j = 0 := by
  have zs := mapG_r (f := fun (y7 : Int) => some ((0 : Int))) (φ := fun i : Nat => (i : Int)) (n := w) (fun i => ((fun _ => 0 : Nat → Fp p) i).v) (fun i _ => congrArg some Fp.zero_v.symm) (by omega)
  have lg : mapG (List.zip (rws h w A) (lst h b)) (fun (y2 : List Int × Int) => catG y2.1 ([y2.2])) = some ((augR h w A b).map (lst (w + 1))) := by
    unfold rws augR
    rw [List.map_map]
    show mapG (List.zip ((List.range h).map fun i => lst w (A i)) ((List.range h).map fun i => (b i).v)) _ = _
    rw [zip_r]
    refine mapG_r (fun i => lst (w + 1) fun j => if j < w then A i j else if j = w then b i else 0) (fun i _ => ?_) (by omega)
    dsimp only
    rw [catG_s (by rw [lst_len]; simp; omega)]
    congr 1
    unfold lst
    rw [List.range_succ, List.map_append]
    congr 1
    · refine List.map_congr_left fun j hj => ?_
      dsimp only
      rw [if_pos (List.mem_range.mp hj)]
    · have z : (if w < w then A i w else if w = w then b i else 0) = b i := by rw [if_neg (by omega), if_pos rfl]
      show [_] = [(if w < w then A i w else if w = w then b i else 0).v]
      rw [z]
  obtain ⟨e, R, sp⟩ := f_base_of (p := p) (w + 1) (by omega) (augR h w A b) (by unfold augR; rw [List.length_map, List.length_range]; omega) (augR_sup h w A b)
  generalize bse (w + 1) (Spn (augR h w A b)) = ps at e R sp
  have start : F_solved p (tb h w A) (lst h b) = (loopO (ρ := Option (List Int)) (fun (x12 : List Int) (s10 : List Int) =>
      (F_lead_of x12).bind fun (v_lead_14 : Int) =>
      if (decide (v_lead_14 = (w : Int))) = true then
      ((some none).bind fun r => some (Lp.rt r))
      else
      ((atI x12 (w : Int)).bind fun (t15 : Int) =>
      (setG s10 v_lead_14 t15).bind fun (v_found_16 : List Int) =>
      some (Lp.nx v_found_16))) ((vs ps).map (lst (w + 1))) (lst (p := p) w fun _ => 0)).bind (lpK (fun (s10 : List Int) => some ((some s10))) fun v => some v) := by
    unfold F_solved tb
    dsimp only
    rw [Option.bind_some, lg, Option.bind_some, rng1_s (by omega), Option.bind_some, zs, Option.bind_some]
    rw [show (w : Int) + 1 = ((w + 1 : Nat) : Int) by omega, e, Option.bind_some]
    rfl
  rw [start]
  -- the walk over the base
  have walk : ∀ (qs done : List (Nat × (Nat → Fp p))) (v : Nat → Fp p), done ++ qs = ps → (∀ q ∈ done, q.1 < w) → (∀ j, v j = slt w done j) →
      (¬ (∀ q ∈ ps, q.1 < w) ∧ loopO (ρ := Option (List Int)) (fun (x12 : List Int) (s10 : List Int) =>
      (F_lead_of x12).bind fun (v_lead_14 : Int) =>
      if (decide (v_lead_14 = (w : Int))) = true then
      ((some none).bind fun r => some (Lp.rt r))
      else
      ((atI x12 (w : Int)).bind fun (t15 : Int) =>
      (setG s10 v_lead_14 t15).bind fun (v_found_16 : List Int) =>
      some (Lp.nx v_found_16))) ((vs qs).map (lst (w + 1))) (lst w v) = some (.rt none)) ∨
      ((∀ q ∈ ps, q.1 < w) ∧ loopO (ρ := Option (List Int)) (fun (x12 : List Int) (s10 : List Int) =>
      (F_lead_of x12).bind fun (v_lead_14 : Int) =>
      if (decide (v_lead_14 = (w : Int))) = true then
      ((some none).bind fun r => some (Lp.rt r))
      else
      ((atI x12 (w : Int)).bind fun (t15 : Int) =>
      (setG s10 v_lead_14 t15).bind fun (v_found_16 : List Int) =>
      some (Lp.nx v_found_16))) ((vs qs).map (lst (w + 1))) (lst w v) = some (.nx (lst w (slt w ps)))) := fun qs => by
    induction qs with
    | nil =>
      intro done v ed hd hv
      rw [List.append_nil] at ed
      subst ed
      refine .inr ⟨hd, ?_⟩
      rw [show v = slt w done from funext hv]
      rfl
    | cons q qs ih =>
      intro done v ed hd hv
      have hq : q ∈ ps := by rw [← ed]; simp
      show (¬ _ ∧ loopO _ (lst (w + 1) q.2 :: (vs qs).map (lst (w + 1))) _ = _) ∨ (_ ∧ loopO _ (lst (w + 1) q.2 :: (vs qs).map (lst (w + 1))) _ = _)
      have hlt := R.lt q hq
      by_cases c : q.1 = w
      · refine .inl ⟨fun z => by have := z q hq; omega, ?_⟩
        unfold loopO
        rw [f_lead_rf R hq, Option.bind_some, if_pos (by rw [c]; simp)]
        rfl
      · have hlw : q.1 < w := by omega
        have step : loopO (ρ := Option (List Int)) (fun (x12 : List Int) (s10 : List Int) =>
            (F_lead_of x12).bind fun (v_lead_14 : Int) =>
            if (decide (v_lead_14 = (w : Int))) = true then
            ((some none).bind fun r => some (Lp.rt r))
            else
            ((atI x12 (w : Int)).bind fun (t15 : Int) =>
            (setG s10 v_lead_14 t15).bind fun (v_found_16 : List Int) =>
            some (Lp.nx v_found_16))) (lst (w + 1) q.2 :: (vs qs).map (lst (w + 1))) (lst w v) = loopO (ρ := Option (List Int)) (fun (x12 : List Int) (s10 : List Int) =>
            (F_lead_of x12).bind fun (v_lead_14 : Int) =>
            if (decide (v_lead_14 = (w : Int))) = true then
            ((some none).bind fun r => some (Lp.rt r))
            else
            ((atI x12 (w : Int)).bind fun (t15 : Int) =>
            (setG s10 v_lead_14 t15).bind fun (v_found_16 : List Int) =>
            some (Lp.nx v_found_16))) ((vs qs).map (lst (w + 1))) (lst w fun i => if i = q.1 then q.2 w else v i) := by
          conv => lhs; unfold loopO
          rw [f_lead_rf R hq, Option.bind_some, if_neg (by simp; omega), lst_at _ (by omega), Option.bind_some, setG_lst v hlw, Option.bind_some]
          rfl
        rw [step]
        refine ih (done ++ [q]) _ (by rw [← ed]; simp) (fun t ht => ?_) fun j => ?_
        · rcases List.mem_append.mp ht with ht | ht
          · exact hd t ht
          · rw [List.mem_singleton.mp ht]; exact hlw
        · have hs : slt w (done ++ [q]) j = slt w done j + (if q.1 = j then 1 else 0) * q.2 w := by
            exact slt_snoc q done w j
          rw [hs]
          by_cases cj : j = q.1
          · rw [if_pos cj, if_pos cj.symm, slt_no (fun t ht => ?_)]
            · grind
            · have hp := R.inc
              rw [← ed] at hp
              have := (List.pairwise_append.mp hp).2.2 t ht q (by simp)
              omega
          · rw [if_neg cj, if_neg (Ne.symm cj), hv]
            grind
  rcases walk ps [] (fun _ => 0) (by simp) (fun q hq => absurd hq (by simp)) (fun j => rfl) with ⟨hn, e2⟩ | ⟨hy, e2⟩
  · refine .inl ⟨?_, by rw [e2]; rfl⟩
    obtain ⟨q, hq⟩ := Classical.not_forall.mp hn
    obtain ⟨hq, hl⟩ := Classical.not_imp.mp hq
    have := R.lt q hq
    exact solve_no R sp hq (by omega)
  · refine .inr ⟨slt w ps, by rw [e2]; rfl, solve_yes R sp hy, fun j hj hl => ?_⟩
    refine slt_no (fun q hq z => ?_) w
    rw [solve_leads R sp hy] at hl
    have : isLead (ps.map fun q => (q.1, cutW w q.2)) j = true := isLead_iff.mpr ⟨(q.1, cutW w q.2), List.mem_map.mpr ⟨q, hq, rfl⟩, z⟩
    rw [this] at hl
    cases hl
end La

namespace La
open Mn
open PySem
open L2 (atI ixN atI_nat)
section
variable {K : Type} [Lean.Grind.Field K] [DecidableEq K]
theorem spn_sums {n : Nat} {g : Nat → Nat → K} {u : Nat → K} (h : Spn ((List.range n).map g) u) : ∃ v : Nat → K, ∀ i, u i = sm n fun k => v k * g k i := by
  induction h with
  | zero => exact ⟨fun _ => 0, fun i => (sm_z fun k _ => by grind).symm⟩
  | @add c b u' hb _ ih =>
    obtain ⟨k, hk, rfl⟩ := List.mem_map.mp hb
    obtain ⟨v, hv⟩ := ih
    refine ⟨fun j => v j + c * dl j k, fun i => ?_⟩
    have e : ∀ j, j < n → (v j + c * dl j k) * g j i = v j * g j i + (c * g j i) * dl j k := fun j _ => by grind
    show u' i + c * g k i = _
    rw [sm_congr e, sm_add, sm_dlr (fun j => c * g j i) (List.mem_range.mp hk), hv]
theorem slv_iff {h w : Nat} {A : Nat → Nat → K} {b : Nat → K} : Slv h w A b ↔ Spn (rowsOf w h (tr A)) (cutW h b) := by
  constructor
  · rintro ⟨v, hv⟩
    refine (spn_sm (M := rowsOf w h (tr A)) w v (fun k i => if i < h then A i k else 0) fun k hk => Spn.mem (rowsOf_mem (tr A) hk)).eq fun i => ?_
    unfold cutW
    by_cases c : i < h
    · rw [if_pos c, ← hv i c]
      unfold ml
      exact sm_congr fun k _ => by rw [if_pos c]; grind
    · rw [if_neg c]
      exact (sm_z fun k _ => by rw [if_neg c]; grind).symm
  · intro hs
    obtain ⟨v, hv⟩ := spn_sums (g := fun k i => if i < h then tr A k i else 0) hs
    refine ⟨v, fun i hi => ?_⟩
    have e := hv i
    unfold cutW at e
    rw [if_pos hi] at e
    rw [e]
    unfold ml
    exact sm_congr fun k _ => by rw [if_pos hi]; show A i k * v k = v k * A i k; grind
theorem spn_app_mem {L : List (Nat → K)} {b : Nat → K} (h : Spn L b) (v : Nat → K) : Spn (L ++ [b]) v ↔ Spn L v := by
  constructor
  · refine Spn.mono fun x hx => ?_
    rcases List.mem_append.mp hx with hx | hx
    · exact Spn.mem hx
    · rw [List.mem_singleton.mp hx]; exact h
  · exact Spn.mono fun x hx => Spn.mem (by simp [hx])
/-- one load more that is none of the space -/
theorem bse_more {n : Nat} {L : List (Nat → K)} (sup : ∀ b ∈ L, ∀ i, n ≤ i → b i = 0) {b : Nat → K} (sb : ∀ i, n ≤ i → b i = 0) (h : ¬ Spn L b) : (bse n (Spn (L ++ [b]))).length = (bse n (Spn L)).length + 1 := by
  classical
  obtain ⟨R, sp, _⟩ := bse_spn sup
  generalize bse n (Spn L) = ps at R sp
  -- b less what the base has of it
  have hc : Spn (vs ps) (fun i => cmb ps b i) := spn_foldr ps (fun q => b q.1) (fun q => q.2) fun q hq => Spn.mem (mem_vs.mpr ⟨q, hq, rfl⟩)
  have rz : ∀ q ∈ ps, b q.1 - cmb ps b q.1 = 0 := fun q hq => by
    have : cmb ps b q.1 = b q.1 := by
      have key : ∀ qs : List (Nat × (Nat → K)), qs.Pairwise (fun a b => a.1 < b.1) → (∀ t ∈ qs, t ∈ ps) → cmb qs b q.1 = if q ∈ qs ∨ ∃ t ∈ qs, t.1 = q.1 then b q.1 else 0 := fun qs => by
        induction qs with
        | nil => intro _ _; rw [if_neg (by simp)]; rfl
        | cons t qs ih =>
          intro inc sub
          have i2 := ih (List.pairwise_cons.mp inc).2 fun u hu => sub u (by simp [hu])
          rw [cmb_cons, i2]
          by_cases e : t.1 = q.1
          · have no : ¬ (q ∈ qs ∨ ∃ u ∈ qs, u.1 = q.1) := fun z => by
              rcases z with z | ⟨u, hu, z⟩
              · have := (List.pairwise_cons.mp inc).1 q z; omega
              · have := (List.pairwise_cons.mp inc).1 u hu; omega
            rw [if_neg no, if_pos (.inr ⟨t, by simp, e⟩)]
            have o := R.one t (sub t (by simp))
            rw [e] at o
            rw [e, o]; grind
          · have o := R.oth q hq t (sub t (by simp)) (Ne.symm e)
            rw [o]
            by_cases z : q ∈ qs ∨ ∃ u ∈ qs, u.1 = q.1
            · rw [if_pos z, if_pos (z.elim (fun y => .inl (by simp [y])) fun ⟨u, hu, y⟩ => .inr ⟨u, by simp [hu], y⟩)]; grind
            · rw [if_neg z, if_neg (fun y => z (by
                rcases y with y | ⟨u, hu, y⟩
                · rcases List.mem_cons.mp y with y | y
                  · exact absurd (by rw [y]) e
                  · exact .inl y
                · rcases List.mem_cons.mp hu with hu | hu
                  · exact absurd (by rw [← hu]; exact y) e
                  · exact .inr ⟨u, hu, y⟩))]; grind
      rw [key ps R.inc (fun t ht => ht), if_pos (.inl hq)]
    rw [this]; grind
  have hr0 : ∃ l, b l - cmb ps b l ≠ 0 := Classical.byContradiction fun z => h ((sp b).mp (hc.eq fun i => by
    have : b i - cmb ps b i = 0 := Classical.byContradiction fun y => z ⟨i, y⟩
    grind))
  obtain ⟨l, hl, low⟩ : ∃ l, b l - cmb ps b l ≠ 0 ∧ ∀ i, i < l → b i - cmb ps b i = 0 := by
    obtain ⟨l, hl⟩ := hr0
    induction l using Nat.strongRecOn with
    | ind l ih =>
      by_cases z : ∃ i, i < l ∧ b i - cmb ps b i ≠ 0
      · obtain ⟨i, hi, y⟩ := z
        exact ih i hi y
      · exact ⟨l, hl, fun i hi => Classical.byContradiction fun y => z ⟨i, hi, y⟩⟩
  have rs : ∀ i, n ≤ i → b i - cmb ps b i = 0 := fun i hi => by
    have c1 := hc.sup (fun x hx j hj => by obtain ⟨q, hq, rfl⟩ := mem_vs.mp hx; exact R.sup q hq j hj) i hi
    have := sb i hi
    rw [c1, this]; grind
  have ln : l < n := Nat.lt_of_not_le fun z => hl (rs l z)
  have nd : ((ps.map (fun q => (q.1, cut (fun i => (b l - cmb ps b l)⁻¹ * (b i - cmb ps b i)) l q.2)) ++ [(l, fun i => (b l - cmb ps b l)⁻¹ * (b i - cmb ps b i))]).map Prod.fst).Nodup := by
    rw [List.map_append, List.map_map]
    refine List.nodup_append.mpr ⟨R.nodup1, by simp, fun a ha b hb => ?_⟩
    obtain ⟨q, hq, rfl⟩ := List.mem_map.mp ha
    simp at hb
    subst hb
    intro e
    have e : q.1 = _ := e
    exact hl (by rw [← e]; exact rz q hq)
  obtain ⟨R', sp'⟩ := R.put (r := fun i => b i - cmb ps b i) rz hl low ln rs (isort_perm' leN _) (isort_N _ nd)
  have e := bse_eq R' (S := Spn (L ++ [b])) fun v => (sp' v).trans (by
    constructor
    · refine Spn.mono fun x hx => ?_
      rcases List.mem_append.mp hx with hx | hx
      · exact Spn.mono (fun y hy => Spn.mem (by simp [hy])) ((sp x).mp (Spn.mem hx))
      · rw [List.mem_singleton.mp hx]
        exact (Spn.mem (L := L ++ [b]) (b := b) (by simp)).sub (Spn.mono (fun y hy => Spn.mem (by simp [hy])) ((sp _).mp hc))
    · refine Spn.mono fun x hx => ?_
      rcases List.mem_append.mp hx with hx | hx
      · exact Spn.mono (fun y hy => Spn.mem (by simp [hy])) ((sp x).mpr (Spn.mem hx))
      · rw [List.mem_singleton.mp hx]
        exact ((Spn.mem (L := vs ps ++ [fun i => b i - cmb ps b i]) (b := fun i => b i - cmb ps b i) (by simp)).plus (Spn.mono (fun y hy => Spn.mem (by simp [hy])) hc)).eq fun i => by grind)
  rw [e, (isort_perm' leN _).length_eq, List.length_append, List.length_map]
  rfl
end
section
variable {p : Int} [Pr p]
theorem index_one {n : Nat} {q : Nat × (Nat → Fp p)} (hl : q.1 < n) (h1 : q.2 q.1 = 1) (h0 : ∀ i, i < q.1 → q.2 i = 0) : indexG (lst n q.2) 1 = some (q.1 : Int) := by
  unfold indexG
  have : (lst n q.2).findIdx? (fun z => decide (z = 1)) = some q.1 := by
    rw [List.findIdx?_eq_some_iff_getElem]
    refine ⟨by rw [lst_len]; exact hl, ?_, fun j hj => ?_⟩
    · simp only [lst, List.getElem_map, List.getElem_range]
      rw [h1, Fp.one_v]; rfl
    · simp only [lst, List.getElem_map, List.getElem_range]
      rw [h0 j hj, Fp.zero_v]; decide
  rw [this]
  rfl
theorem led_v2 (h w : Nat) (hh : h ≤ 1000000) (hw : w ≤ 1000000) (A : Nat → Nat → Fp p) (v : Nat → Fp p) : F_law_led_v2 p (tb h w A) (some (lst w v)) = some (lst h (ml w A v)) := by
  have := f_law_led h w hh hw A v
  unfold F_law_led at this
  unfold F_law_led_v2
  exact this
theorem rests_v2 (x : List Int) (hx : x.length ≤ 1000000) : F_law_rests_v2 (some x) (some x) = some true := by
  unfold F_law_rests_v2
  simp only [Option.isSome_some, Bool.not_true, Bool.false_eq_true, if_false, Option.bind_some, decide_true]
  have e : mapG x (fun y1 => F_law_whole y1) = some (x.map fun _ => true) := mapG_s (fun _ => true) (fun _ _ => rfl) hx
  rw [e]
  simp
theorem right08 (h w : Nat) (hh : h < 7) (hw : w < 7) (A : Nat → Nat → Fp p) (b : Nat → Fp p) : ∃ t, F_solved p (tb h w A) (lst h b) = some t ∧ F_law_right_v2 p (tb h w A) (lst h b) t = some true := by
  have ci := columns_in h w (by omega) (by omega) A
  have lb : lst h b = lst h (cutW h b) := lst_eq.mpr fun i hi => by unfold cutW; rw [if_pos hi]
  have sc : ∀ i, h ≤ i → cutW h b i = 0 := fun i hi => if_neg (by omega)
  have sup2 : ∀ r ∈ rowsOf w h (tr A) ++ [cutW h b], ∀ i, h ≤ i → r i = 0 := fun r hr => (List.mem_append.mp hr).elim (rowsOf_sup w h (tr A) r) fun z => by rw [List.mem_singleton.mp z]; exact sc
  have b1 := f_law_base (p := p) h (by omega) (rowsOf w h (tr A) ++ [cutW h b]) (by rw [List.length_append, rowsOf_len]; simp; omega) sup2
  have b2 := f_law_base_rws w h (by omega) (by omega) (tr A)
  rw [List.map_append, ← rws_rows] at b1
  have start : ∀ t, F_law_right_v2 p (tb h w A) (lst h b) t = (if (decide ((((vs (bse h (Spn (rowsOf w h (tr A))))).map (lst h)).length : Int) < (((vs (bse h (Spn (rowsOf w h (tr A) ++ [cutW h b])))).map (lst h)).length : Int))) = true then
      (some t.isNone)
      else
      ((if t.isNone = true then some true else ((F_law_rests_v2 t t).bind fun (t11 : Bool) => if (!t11) = true then some true else ((t).bind fun (u12 : List Int) => some (!decide ((u12.length : Int) = (w : Int)))))).bind fun (t14 : Bool) =>
      if t14 = true then
      (some false)
      else
      ((t).bind fun (u15 : List Int) =>
      (mapG u15 fun (y16 : Int) => some ((coI .le ((0 : Int)) y16 && coI .lt y16 p))).bind fun (t17 : List Bool) =>
      (if (!(t17.all id)) = true then some true else ((F_law_led_v2 p (tb h w A) t).bind fun (t18 : List Int) => some (!decide (t18 = lst h b)))).bind fun (t19 : Bool) =>
      if t19 = true then
      (some false)
      else
      ((F_law_base p (w : Int) (rws h w A)).bind fun (t20 : List (List Int)) =>
      (mapG t20 fun (y21 : List Int) => indexG y21 ((1 : Int))).bind fun (v_leads_24 : List Int) =>
      (rng1 (w : Int)).bind fun (r25 : List Int) =>
      (mapG r25 fun (y26 : Int) => ((t).bind fun (u27 : List Int) => (atI u27 y26).bind fun (t28 : Int) => some (((decide (t28 = (0 : Int))) || (decide (y26 ∈ v_leads_24)))))).bind fun (t29 : List Bool) =>
      some (t29.all id))))) := fun t => by
    unfold F_law_right_v2
    refine Eq.trans (congrArg (fun z => Option.bind z _) (rng1_s (n := w) (by omega))) ?_
    rw [Option.bind_some]
    show Option.bind (mapG _ fun (y2 : Int) => ((mapG (rws h w A) fun (y3 : List Int) => atI y3 y2).bind fun (t5 : List Int) => some t5)) _ = _
    rw [ci, Option.bind_some, catG_s (by rw [rws_len]; simp; omega), Option.bind_some]
    show Option.bind (F_law_base p (h : Int) _) _ = _
    have b1' : F_law_base p (h : Int) (rws w h (tr A) ++ [lst h b]) = some ((vs (bse h (Spn (rowsOf w h (tr A) ++ [cutW h b])))).map (lst h)) := by rw [lb]; exact b1
    rw [b1', Option.bind_some]
    show Option.bind (F_law_base p (h : Int) _) _ = _
    rw [b2, Option.bind_some]
    rfl
  rcases f_solved h w (by omega) (by omega) A b with ⟨hn, e⟩ | ⟨v, e, h1, h2⟩
  · refine ⟨none, e, ?_⟩
    rw [start]
    have := bse_more (rowsOf_sup w h (tr A)) sc fun z => hn (slv_iff.mpr z)
    rw [if_pos (by
      unfold vs
      rw [List.length_map, List.length_map, List.length_map, List.length_map, this]
      exact decide_eq_true (by omega))]
    rfl
  · refine ⟨_, e, ?_⟩
    rw [start]
    have hs : Spn (rowsOf w h (tr A)) (cutW h b) := slv_iff.mp ⟨v, h1⟩
    have : bse h (Spn (rowsOf w h (tr A) ++ [cutW h b])) = bse h (Spn (rowsOf w h (tr A))) := by
      congr 1
      exact funext fun u => propext (spn_app_mem hs u)
    rw [if_neg (by rw [this]; simp)]
    simp only [Option.isNone_some, Bool.false_eq_true, if_false]
    rw [rests_v2 _ (by rw [lst_len]; omega), Option.bind_some, if_neg (by simp), Option.bind_some, lst_len, Option.bind_some, if_neg (by simp), Option.bind_some]
    have al : mapG (lst w v) (fun (y16 : Int) => some ((coI .le ((0 : Int)) y16 && coI .lt y16 p))) = some ((lst w v).map fun _ => true) := mapG_s (fun _ => true) (fun x hx => by
      obtain ⟨i, _, rfl⟩ := lst_fst x hx
      have := (v i).lo; have := (v i).hi
      show some (decide (0 ≤ (v i).v) && decide ((v i).v < p)) = some true
      simp [*]) (by rw [lst_len, lim]; omega)
    rw [al, Option.bind_some, if_neg (by simp), led_v2 h w (by omega) (by omega), Option.bind_some]
    have el : lst h (ml w A v) = lst h b := lst_eq.mpr h1
    rw [el, Option.bind_some, if_neg (by simp), f_law_base_rws h w (by omega) (by omega), Option.bind_some]
    obtain ⟨R, _, _⟩ := bse_spn (rowsOf_sup h w A)
    have Rl := R.len_le
    generalize bse w (Spn (rowsOf h w A)) = ps at R h2 Rl
    have ix : mapG ((vs ps).map (lst w)) (fun (y21 : List Int) => indexG y21 ((1 : Int))) = some (ps.map fun q => (q.1 : Int)) := by
      unfold vs
      rw [List.map_map]
      exact mapG_m (φ := (lst w) ∘ Prod.snd) (fun q : Nat × (Nat → Fp p) => (q.1 : Int)) (fun q hq => index_one (R.lt q hq) (R.one q hq) (R.low q hq)) (by omega)
    rw [ix, Option.bind_some, rng1_s (by omega), Option.bind_some]
    rw [mapG_r (fun _ => true) (fun j hj => by
      rw [Option.bind_some, lst_at _ hj, Option.bind_some, lead_in, v_ne0]
      cases hz : isLead ps j with
      | true => simp
      | false => rw [h2 j hj hz]; simp) (by omega), Option.bind_some]
    simp
end
theorem loop_list {α ρ : Type} {f : α → Unit → Option (Lp Unit ρ)} : ∀ {xs : List α}, (∀ x ∈ xs, f x () = some (.nx ())) → loopO f xs () = some (.nx ())
  | [], _ => rfl
  | x :: xs, h => by
    unfold loopO
    rw [h x (by simp)]
    exact loop_list fun y hy => h y (by simp [hy])
theorem k08_true (ns : List Int) (hns : ns.length ≤ 63) : F_law_k08 ns = some true := by
  unfold F_law_k08
  rw [mix_s hns (by omega) (by omega), Option.bind_some, modG_s (by omega), Option.bind_some]
  obtain ⟨p, hp, e⟩ := prime_at (mixV_nn hns (k := 0) (by omega) (by omega))
  rw [e, Option.bind_some]
  obtain ⟨h, w, A, eA, lh, lw⟩ := drawn_ex (p := p) hns
  rw [eA, Option.bind_some]
  show (rng1 (h : Int)).bind _ = _
  rw [rng1_s (by omega), Option.bind_some]
  have l1 := f_load (p := p) (ns := ns) (n := h) (by omega) (fun i => mixV ns (60 + (i : Int))) (f := fun (y8 : Int) => ((F_law_mix ns (((60 : Int)) + y8)).bind fun (t9 : Int) => modG t9 p)) (fun i hi => by
    rw [mix_s hns (by omega) (by omega), Option.bind_some, modG_s pP])
  rw [l1, Option.bind_some, Option.bind_some, mix_s hns (by omega) (by omega), Option.bind_some, modG_s (by omega), Option.bind_some]
  have ld : ∃ b : Nat → Fp p, (if (decide ((0 : Int) < mixV ns 59 % 3)) = true then
      ((rng1 (tb h w A).2.1).bind fun (r16 : List Int) =>
      (mapG r16 fun (y17 : Int) => ((F_law_mix ns (((70 : Int)) + y17)).bind fun (t18 : Int) => modG t18 p)).bind fun (t20 : List Int) =>
      (F_law_led p (tb h w A) t20).bind fun (v_load_22 : List Int) =>
      some v_load_22)
      else
      (some (lst (p := p) h fun i => Fp.of (mixV ns (60 + (i : Int))))) : Option (List Int)) = some (lst h b) := by
    by_cases c : 0 < mixV ns 59 % 3
    · rw [if_pos (by simpa using c)]
      show ∃ b, (rng1 (w : Int)).bind _ = some (lst h b)
      have l2 := f_load (p := p) (ns := ns) (n := w) (by omega) (fun i => mixV ns (70 + (i : Int))) (f := fun (y8 : Int) => ((F_law_mix ns (((70 : Int)) + y8)).bind fun (t9 : Int) => modG t9 p)) (fun i hi => by
        rw [mix_s hns (by omega) (by omega), Option.bind_some, modG_s pP])
      rw [rng1_s (by omega), Option.bind_some, l2, Option.bind_some, f_law_led h w (by omega) (by omega)]
      exact ⟨_, rfl⟩
    · rw [if_neg (by simpa using c)]
      exact ⟨_, rfl⟩
  obtain ⟨b, eb⟩ := ld
  rw [eb, Option.bind_some]
  have zs : mapG (lst h b) (fun (y24 : Int) => some ((0 : Int))) = some (lst (p := p) h fun _ => 0) := mapG_r (fun i => (0 : Fp p).v) (fun i _ => congrArg some Fp.zero_v.symm) (by omega)
  rw [zs, Option.bind_some]
  have step : ∀ b : Nat → Fp p, (F_solved p (tb h w A) (lst h b)).bind (fun (t27 : Option (List Int)) =>
      (F_law_right_v2 p (tb h w A) (lst h b) t27).bind fun (t28 : Bool) =>
      if (!t28) = true then
      ((some false).bind fun r => some (Lp.rt r))
      else
      (some (Lp.nx (σ := Unit) (ρ := Bool) (())))) = some (Lp.nx ()) := fun b => by
    obtain ⟨t, e1, e2⟩ := right08 h w lh lw A b
    rw [e1, Option.bind_some, e2]
    rfl
  have lp := loop_list (ρ := Bool) (f := fun (x26 : List Int) (s23 : Unit) =>
      (F_solved p (tb h w A) x26).bind fun (t27 : Option (List Int)) =>
      (F_law_right_v2 p (tb h w A) x26 t27).bind fun (t28 : Bool) =>
      if (!t28) = true then
      ((some false).bind fun r => some (Lp.rt r))
      else
      (some (Lp.nx (())))) (xs := [lst h b, lst h fun _ => 0, lst h b]) (fun x hx => by
    rcases List.mem_cons.mp hx with rfl | hx
    · exact step _
    · rcases List.mem_cons.mp hx with rfl | hx
      · exact step _
      · rw [List.mem_singleton.mp hx]; exact step _)
  rw [lp]
  rfl
end La

set_option maxHeartbeats 4000000
namespace Lk08
open PySem PySem.Spec PyProof.Rows L2 Mn
theorem all_mk {l : PySem.W.OpenLaw} {w : World} {K : PySem.W.Frag} {h : Heap} {mg : Str → Option Value} {fa f0 f1 f2 f3 f4 f5 f6 f7 f8 f9 f10 f11 f12 f13 f14 f15 : Addr} (X : K.In h) (G : h.Ns mainGlobals mg) (hfa : mg "law" = some (.ref fa))
    {od0 od1 od2 od3 od4 od5 od6 od7 od8 od9 od10 od11 od12 od13 od14 od15 an0 an1 an2 an3 an4 an5 an6 an7 an8 an9 an10 an11 an12 an13 an14 an15 : Option Addr} {sl0 sl1 sl2 sl3 sl4 sl5 sl6 sl7 sl8 sl9 sl10 sl11 sl12 sl13 sl14 sl15 : Array (Option Value)} {oc0 oc1 oc2 oc3 oc4 oc5 oc6 oc7 oc8 oc9 oc10 oc11 oc12 oc13 oc14 oc15 kV0 kV1 kV2 kV3 kV4 kV5 kV6 kV7 kV8 kV9 kV10 kV11 kV12 kV13 kV14 kV15 dc0 dc1 dc2 dc3 dc4 dc5 dc6 dc7 dc8 dc9 dc10 dc11 dc12 dc13 dc14 dc15 pm0 pm1 pm2 pm3 pm4 pm5 pm6 pm7 pm8 pm9 pm10 pm11 pm12 pm13 pm14 pm15 cd0 cd1 cd2 cd3 cd4 cd5 cd6 cd7 cd8 cd9 cd10 cd11 cd12 cd13 cd14 cd15 ct0 ct1 ct2 ct3 ct4 ct5 ct6 ct7 ct8 ct9 ct10 ct11 ct12 ct13 ct14 ct15 : Value}
    (a0 : PySem.W.nsIn K mainGlobals "_law_mix" = some (some (.ref f0))) (l0 : K.lookup f0 = some ⟨oc0, od0, .func (PySem.W.fnOf "_law_mix" "_law_mix" (defArgs t__law_mix) (defBody t__law_mix) (defScope t__law_mix) .none kV0 dc0 pm0 an0 cd0 ct0), sl0⟩) (c0 : PySem.W.codeIn K cd0 "_law_mix" = true) (k0 : PySem.W.keepIn K (.ref f0) = true)
    (a1 : PySem.W.nsIn K mainGlobals "_law_table" = some (some (.ref f1))) (l1 : K.lookup f1 = some ⟨oc1, od1, .func (PySem.W.fnOf "_law_table" "_law_table" (defArgs t__law_table) (defBody t__law_table) (defScope t__law_table) .none kV1 dc1 pm1 an1 cd1 ct1), sl1⟩) (c1 : PySem.W.codeIn K cd1 "_law_table" = true) (k1 : PySem.W.keepIn K (.ref f1) = true)
    (a2 : PySem.W.nsIn K mainGlobals "_law_product" = some (some (.ref f2))) (l2 : K.lookup f2 = some ⟨oc2, od2, .func (PySem.W.fnOf "_law_product" "_law_product" (defArgs t__law_product) (defBody t__law_product) (defScope t__law_product) .none kV2 dc2 pm2 an2 cd2 ct2), sl2⟩) (c2 : PySem.W.codeIn K cd2 "_law_product" = true) (k2 : PySem.W.keepIn K (.ref f2) = true)
    (a3 : PySem.W.nsIn K mainGlobals "_law_drawn" = some (some (.ref f3))) (l3 : K.lookup f3 = some ⟨oc3, od3, .func (PySem.W.fnOf "_law_drawn" "_law_drawn" (defArgs t__law_drawn) (defBody t__law_drawn) (defScope t__law_drawn) .none kV3 dc3 pm3 an3 cd3 ct3), sl3⟩) (c3 : PySem.W.codeIn K cd3 "_law_drawn" = true) (k3 : PySem.W.keepIn K (.ref f3) = true)
    (a4 : PySem.W.nsIn K mainGlobals "_law_led" = some (some (.ref f4))) (l4 : K.lookup f4 = some ⟨oc4, od4, .func (PySem.W.fnOf "_law_led" "_law_led" (defArgs t__law_led) (defBody t__law_led) (defScope t__law_led) .none kV4 dc4 pm4 an4 cd4 ct4), sl4⟩) (c4 : PySem.W.codeIn K cd4 "_law_led" = true) (k4 : PySem.W.keepIn K (.ref f4) = true)
    (a5 : PySem.W.nsIn K mainGlobals "_law_base" = some (some (.ref f5))) (l5 : K.lookup f5 = some ⟨oc5, od5, .func (PySem.W.fnOf "_law_base" "_law_base" (defArgs t__law_base) (defBody t__law_base) (defScope t__law_base) .none kV5 dc5 pm5 an5 cd5 ct5), sl5⟩) (c5 : PySem.W.codeIn K cd5 "_law_base" = true) (k5 : PySem.W.keepIn K (.ref f5) = true)
    (a6 : PySem.W.nsIn K mainGlobals "_law_whole" = some (some (.ref f6))) (l6 : K.lookup f6 = some ⟨oc6, od6, .func (PySem.W.fnOf "_law_whole" "_law_whole" (defArgs t__law_whole) (defBody t__law_whole) (defScope t__law_whole) .none kV6 dc6 pm6 an6 cd6 ct6), sl6⟩) (c6 : PySem.W.codeIn K cd6 "_law_whole" = true) (k6 : PySem.W.keepIn K (.ref f6) = true)
    (a7 : PySem.W.nsIn K mainGlobals "_law_rests" = some (some (.ref f7))) (l7 : K.lookup f7 = some ⟨oc7, od7, .func (PySem.W.fnOf "_law_rests" "_law_rests" (defArgs t__law_rests) (defBody t__law_rests) (defScope t__law_rests) .none kV7 dc7 pm7 an7 cd7 ct7), sl7⟩) (c7 : PySem.W.codeIn K cd7 "_law_rests" = true) (k7 : PySem.W.keepIn K (.ref f7) = true)
    (a8 : PySem.W.nsIn K mainGlobals "_law_right" = some (some (.ref f8))) (l8 : K.lookup f8 = some ⟨oc8, od8, .func (PySem.W.fnOf "_law_right" "_law_right" (defArgs t__law_right) (defBody t__law_right) (defScope t__law_right) .none kV8 dc8 pm8 an8 cd8 ct8), sl8⟩) (c8 : PySem.W.codeIn K cd8 "_law_right" = true) (k8 : PySem.W.keepIn K (.ref f8) = true)
    (a9 : PySem.W.nsIn K mainGlobals "first_with" = some (some (.ref f9))) (l9 : K.lookup f9 = some ⟨oc9, od9, .func (PySem.W.fnOf "first_with" "first_with" (defArgs t_first_with) (defBody t_first_with) (defScope t_first_with) .none kV9 dc9 pm9 an9 cd9 ct9), sl9⟩) (c9 : PySem.W.codeIn K cd9 "first_with" = true) (k9 : PySem.W.keepIn K (.ref f9) = true)
    (a10 : PySem.W.nsIn K mainGlobals "inverse" = some (some (.ref f10))) (l10 : K.lookup f10 = some ⟨oc10, od10, .func (PySem.W.fnOf "inverse" "inverse" (defArgs t_inverse) (defBody t_inverse) (defScope t_inverse) .none kV10 dc10 pm10 an10 cd10 ct10), sl10⟩) (c10 : PySem.W.codeIn K cd10 "inverse" = true) (k10 : PySem.W.keepIn K (.ref f10) = true)
    (a11 : PySem.W.nsIn K mainGlobals "less" = some (some (.ref f11))) (l11 : K.lookup f11 = some ⟨oc11, od11, .func (PySem.W.fnOf "less" "less" (defArgs t_less) (defBody t_less) (defScope t_less) .none kV11 dc11 pm11 an11 cd11 ct11), sl11⟩) (c11 : PySem.W.codeIn K cd11 "less" = true) (k11 : PySem.W.keepIn K (.ref f11) = true)
    (a12 : PySem.W.nsIn K mainGlobals "base_of" = some (some (.ref f12))) (l12 : K.lookup f12 = some ⟨oc12, od12, .func (PySem.W.fnOf "base_of" "base_of" (defArgs t_base_of) (defBody t_base_of) (defScope t_base_of) .none kV12 dc12 pm12 an12 cd12 ct12), sl12⟩) (c12 : PySem.W.codeIn K cd12 "base_of" = true) (k12 : PySem.W.keepIn K (.ref f12) = true)
    (a13 : PySem.W.nsIn K mainGlobals "lead_of" = some (some (.ref f13))) (l13 : K.lookup f13 = some ⟨oc13, od13, .func (PySem.W.fnOf "lead_of" "lead_of" (defArgs t_lead_of) (defBody t_lead_of) (defScope t_lead_of) .none kV13 dc13 pm13 an13 cd13 ct13), sl13⟩) (c13 : PySem.W.codeIn K cd13 "lead_of" = true) (k13 : PySem.W.keepIn K (.ref f13) = true)
    (a14 : PySem.W.nsIn K mainGlobals "solved" = some (some (.ref f14))) (l14 : K.lookup f14 = some ⟨oc14, od14, .func (PySem.W.fnOf "solved" "solved" (defArgs t_solved) (defBody t_solved) (defScope t_solved) .none kV14 dc14 pm14 an14 cd14 ct14), sl14⟩) (c14 : PySem.W.codeIn K cd14 "solved" = true) (k14 : PySem.W.keepIn K (.ref f14) = true)
    (a15 : PySem.W.nsIn K mainGlobals "law" = some (some (.ref f15))) (l15 : K.lookup f15 = some ⟨oc15, od15, .func (PySem.W.fnOf "law" "law" (defArgs t_law) (defBody t_law) (defScope t_law) .none kV15 dc15 pm15 an15 cd15 ct15), sl15⟩) (c15 : PySem.W.codeIn K cd15 "law" = true) (k15 : PySem.W.keepIn K (.ref f15) = true)
    (z0 : PySem.W.nsIn K mainGlobals "len" = some none)
    (z1 : PySem.W.nsIn K mainGlobals "sum" = some none)
    (z2 : PySem.W.nsIn K mainGlobals "min" = some none)
    (z3 : PySem.W.nsIn K mainGlobals "max" = some none)
    (z4 : PySem.W.nsIn K mainGlobals "any" = some none)
    (z5 : PySem.W.nsIn K mainGlobals "all" = some none)
    (z6 : PySem.W.nsIn K mainGlobals "int" = some none)
    (z7 : PySem.W.nsIn K mainGlobals "str" = some none)
    (z8 : PySem.W.nsIn K mainGlobals "tuple" = some none)
    (z9 : PySem.W.nsIn K mainGlobals "list" = some none)
    (z10 : PySem.W.nsIn K mainGlobals "sorted" = some none)
    (z11 : PySem.W.nsIn K mainGlobals "isinstance" = some none)
    (z12 : PySem.W.nsIn K mainGlobals "bool" = some none)
    (z13 : PySem.W.nsIn K mainGlobals "dict" = some none)
    (z14 : PySem.W.nsIn K mainGlobals "range" = some none)
    (z15 : PySem.W.nsIn K mainGlobals "zip" = some none)
    (z16 : PySem.W.nsIn K mainGlobals "enumerate" = some none)
    (z17 : PySem.W.nsIn K mainGlobals "reversed" = some none)
    : ∃ fd : FuncData, (∀ (s : Shared) (v : Value), BindsTo s fd ⟨[v], []⟩ [("_law_script", v)]) ∧ ∀ base : Heap, K.In base → base.Ns mainGlobals mg → FnOk l.prog w K mg base CX0 4 fa fd ["_law_script"] (spD K 1 s_law_k08) := by
  have e := hfa.symm.trans (PySem.W.mg_of X G a15)
  cases e
  have bn : ∀ x ∈ bnames, mg x = none := fun x hx => by
    simp only [bnames, List.mem_cons, List.mem_nil_iff, or_false] at hx
    rcases hx with rfl | rfl | rfl | rfl | rfl | rfl | rfl | rfl | rfl | rfl | rfl | rfl | rfl | rfl | rfl | rfl | rfl | rfl
    · exact PySem.W.mg_none_of X G z0
    · exact PySem.W.mg_none_of X G z1
    · exact PySem.W.mg_none_of X G z2
    · exact PySem.W.mg_none_of X G z3
    · exact PySem.W.mg_none_of X G z4
    · exact PySem.W.mg_none_of X G z5
    · exact PySem.W.mg_none_of X G z6
    · exact PySem.W.mg_none_of X G z7
    · exact PySem.W.mg_none_of X G z8
    · exact PySem.W.mg_none_of X G z9
    · exact PySem.W.mg_none_of X G z10
    · exact PySem.W.mg_none_of X G z11
    · exact PySem.W.mg_none_of X G z12
    · exact PySem.W.mg_none_of X G z13
    · exact PySem.W.mg_none_of X G z14
    · exact PySem.W.mg_none_of X G z15
    · exact PySem.W.mg_none_of X G z16
    · exact PySem.W.mg_none_of X G z17
  have F0 := fun_mk (st := t__law_mix) l0 c0 k0
  have b0 := F0.binds (ps := ["_law_script", "_law_k"]) fun _ _ _ _ _ _ us hl => match us, hl with | [_, _], _ => rfl
  have F1 := fun_mk (st := t__law_table) l1 c1 k1
  have b1 := F1.binds (ps := ["_law_script", "_law_at", "_law_p", "_law_high", "_law_wide"]) fun _ _ _ _ _ _ us hl => match us, hl with | [_, _, _, _, _], _ => rfl
  have F2 := fun_mk (st := t__law_product) l2 c2 k2
  have b2 := F2.binds (ps := ["_law_p", "_law_one", "_law_other"]) fun _ _ _ _ _ _ us hl => match us, hl with | [_, _, _], _ => rfl
  have F3 := fun_mk (st := t__law_drawn) l3 c3 k3
  have b3 := F3.binds (ps := ["_law_script", "_law_p"]) fun _ _ _ _ _ _ us hl => match us, hl with | [_, _], _ => rfl
  have F4 := fun_mk (st := t__law_led) l4 c4 k4
  have b4 := F4.binds (ps := ["_law_p", "_law_table_here", "_law_load"]) fun _ _ _ _ _ _ us hl => match us, hl with | [_, _, _], _ => rfl
  have F5 := fun_mk (st := t__law_base) l5 c5 k5
  have b5 := F5.binds (ps := ["_law_p", "_law_long", "_law_loads"]) fun _ _ _ _ _ _ us hl => match us, hl with | [_, _, _], _ => rfl
  have F6 := fun_mk (st := t__law_whole) l6 c6 k6
  have b6 := F6.binds (ps := ["_law_found"]) fun _ _ _ _ _ _ us hl => match us, hl with | [_], _ => rfl
  have F7 := fun_mk (st := t__law_rests) l7 c7 k7
  have b7 := F7.binds (ps := ["_law_found", "_law_due"]) fun _ _ _ _ _ _ us hl => match us, hl with | [_, _], _ => rfl
  have F8 := fun_mk (st := t__law_right) l8 c8 k8
  have b8 := F8.binds (ps := ["_law_p", "_law_table_here", "_law_load", "_law_found"]) fun _ _ _ _ _ _ us hl => match us, hl with | [_, _, _, _], _ => rfl
  have F9 := fun_mk (st := t_first_with) l9 c9 k9
  have b9 := F9.binds (ps := ["rows", "place"]) fun _ _ _ _ _ _ us hl => match us, hl with | [_, _], _ => rfl
  have F10 := fun_mk (st := t_inverse) l10 c10 k10
  have b10 := F10.binds (ps := ["p", "x"]) fun _ _ _ _ _ _ us hl => match us, hl with | [_, _], _ => rfl
  have F11 := fun_mk (st := t_less) l11 c11 k11
  have b11 := F11.binds (ps := ["p", "row", "other", "times"]) fun _ _ _ _ _ _ us hl => match us, hl with | [_, _, _, _], _ => rfl
  have F12 := fun_mk (st := t_base_of) l12 c12 k12
  have b12 := F12.binds (ps := ["p", "long", "loads"]) fun _ _ _ _ _ _ us hl => match us, hl with | [_, _, _], _ => rfl
  have F13 := fun_mk (st := t_lead_of) l13 c13 k13
  have b13 := F13.binds (ps := ["load"]) fun _ _ _ _ _ _ us hl => match us, hl with | [_], _ => rfl
  have F14 := fun_mk (st := t_solved) l14 c14 k14
  have b14 := F14.binds (ps := ["p", "table", "load"]) fun _ _ _ _ _ _ us hl => match us, hl with | [_, _, _], _ => rfl
  have F15 := fun_mk (st := t_law) l15 c15 k15
  refine ⟨PySem.W.fnOf "law" "law" (defArgs t_law) (defBody t_law) (defScope t_law) .none kV15 dc15 pm15 an15 cd15 ct15, fun s v => .of_eq rfl, fun base KB GB => ?_⟩
  have h__law_mix : Cal l.prog w K mg base 1 "_law_mix" 2 s_law_mix := cal_mk F0 (PySem.W.mg_of X G a0) b0 c__law_mix .nil .nil bn
  have h__law_table : Cal l.prog w K mg base 2 "_law_table" 5 s_law_table := cal_mk F1 (PySem.W.mg_of X G a1) b1 c__law_table (.cons h__law_mix (by decide) .nil) .nil bn
  have h__law_product : Cal l.prog w K mg base 1 "_law_product" 3 s_law_product := cal_mk F2 (PySem.W.mg_of X G a2) b2 c__law_product .nil .nil bn
  have h__law_drawn : Cal l.prog w K mg base 3 "_law_drawn" 2 s_law_drawn := cal_mk F3 (PySem.W.mg_of X G a3) b3 c__law_drawn (.cons h__law_mix (by decide) (.cons h__law_table (by decide) (.cons h__law_product (by decide) .nil))) .nil bn
  have h__law_led : Cal l.prog w K mg base 1 "_law_led" 3 s_law_led := cal_mk F4 (PySem.W.mg_of X G a4) b4 c__law_led .nil .nil bn
  have h__law_base : Cal l.prog w K mg base 1 "_law_base" 3 s_law_base := cal_mk F5 (PySem.W.mg_of X G a5) b5 c__law_base .nil .nil bn
  have h__law_whole : Cal l.prog w K mg base 1 "_law_whole" 1 s_law_whole := cal_mk F6 (PySem.W.mg_of X G a6) b6 c__law_whole .nil .nil bn
  have h__law_rests : Cal l.prog w K mg base 2 "_law_rests" 2 s_law_rests := cal_mk F7 (PySem.W.mg_of X G a7) b7 c__law_rests (.cons h__law_whole (by decide) .nil) .nil bn
  have h__law_right : Cal l.prog w K mg base 3 "_law_right" 4 s_law_right_v2 := cal_mk F8 (PySem.W.mg_of X G a8) b8 c__law_right (.cons h__law_base (by decide) (.cons h__law_rests (by decide) (.cons h__law_led (by decide) .nil))) .nil bn
  have h_first_with : Cal l.prog w K mg base 1 "first_with" 2 s_first_with := cal_mk F9 (PySem.W.mg_of X G a9) b9 c_first_with .nil .nil bn
  have h_inverse : Cal l.prog w K mg base 1 "inverse" 2 s_inverse := cal_mk F10 (PySem.W.mg_of X G a10) b10 c_inverse .nil .nil bn
  have h_less : Cal l.prog w K mg base 1 "less" 4 s_less := cal_mk F11 (PySem.W.mg_of X G a11) b11 c_less .nil .nil bn
  have h_base_of : Cal l.prog w K mg base 2 "base_of" 3 s_base_of := cal_mk F12 (PySem.W.mg_of X G a12) b12 c_base_of (.cons h_first_with (by decide) (.cons h_inverse (by decide) (.cons h_less (by decide) .nil))) .nil bn
  have h_lead_of : Cal l.prog w K mg base 1 "lead_of" 1 s_lead_of := cal_mk F13 (PySem.W.mg_of X G a13) b13 c_lead_of .nil .nil bn
  have h_solved : Cal l.prog w K mg base 3 "solved" 3 s_solved := cal_mk F14 (PySem.W.mg_of X G a14) b14 c_solved (.cons h_base_of (by decide) (.cons h_lead_of (by decide) .nil)) .nil bn
  exact fn_mk F15 c_law (.cons h__law_mix (by decide) (.cons h__law_drawn (by decide) (.cons h__law_led (by decide) (.cons h__law_right (by decide) (.cons h_solved (by decide) .nil))))) .nil bn
theorem law_true (ns : List Int) (h : ns.length ≤ 63) : s_law_k08 [scrD ns] = some (.fz (.bool true)) := w_law_k08 ns true (La.k08_true ns h)
end Lk08
open PySem PySem.W PyProof.Rows
set_option maxHeartbeats 0 in
theorem PySem.Challenge.cw_barsplit_k08_solved_holds : PySem.Challenge.rw_barsplit_k08_solved.Holds := by
  w_on; o_law; k_head; (case hw => w_witness2)
  k_fill
  refine L2.walk_of (l := PySem.Challenge.rw_barsplit_k08_solved) (n := 63) (k := 4) (x := "_law_script") (CX := fun _ => L2.CX0) (sp := fun w => Mn.spD _ 1 Mn.s_law_k08) rfl (by decide) rfl ⟨rfl, by decide, by decide⟩ (fun w h Y => PySem.W.kIn_of Y) ?F (fun w H a ns hl _ hS => Mn.law_sp Lk08.law_true H a ns hl hS) (fun _ _ _ _ _ h => h)
  case F =>
    intro w mg fa h KX G hmg
    refine' Lk08.all_mk KX G hmg ?a0 ?l0 ?c0 ?k0 ?a1 ?l1 ?c1 ?k1 ?a2 ?l2 ?c2 ?k2 ?a3 ?l3 ?c3 ?k3 ?a4 ?l4 ?c4 ?k4 ?a5 ?l5 ?c5 ?k5 ?a6 ?l6 ?c6 ?k6 ?a7 ?l7 ?c7 ?k7 ?a8 ?l8 ?c8 ?k8 ?a9 ?l9 ?c9 ?k9 ?a10 ?l10 ?c10 ?k10 ?a11 ?l11 ?c11 ?k11 ?a12 ?l12 ?c12 ?k12 ?a13 ?l13 ?c13 ?k13 ?a14 ?l14 ?c14 ?k14 ?a15 ?l15 ?c15 ?k15 ?z0 ?z1 ?z2 ?z3 ?z4 ?z5 ?z6 ?z7 ?z8 ?z9 ?z10 ?z11 ?z12 ?z13 ?z14 ?z15 ?z16 ?z17
    (case a0 => k_is); (case l0 => k_is); (case c0 => k_is); (case k0 => k_is); (case a1 => k_is); (case l1 => k_is); (case c1 => k_is); (case k1 => k_is); (case a2 => k_is); (case l2 => k_is); (case c2 => k_is); (case k2 => k_is); (case a3 => k_is); (case l3 => k_is); (case c3 => k_is); (case k3 => k_is); (case a4 => k_is); (case l4 => k_is); (case c4 => k_is); (case k4 => k_is); (case a5 => k_is); (case l5 => k_is); (case c5 => k_is); (case k5 => k_is); (case a6 => k_is); (case l6 => k_is); (case c6 => k_is); (case k6 => k_is); (case a7 => k_is); (case l7 => k_is); (case c7 => k_is); (case k7 => k_is); (case a8 => k_is); (case l8 => k_is); (case c8 => k_is); (case k8 => k_is); (case a9 => k_is); (case l9 => k_is); (case c9 => k_is); (case k9 => k_is); (case a10 => k_is); (case l10 => k_is); (case c10 => k_is); (case k10 => k_is); (case a11 => k_is); (case l11 => k_is); (case c11 => k_is); (case k11 => k_is); (case a12 => k_is); (case l12 => k_is); (case c12 => k_is); (case k12 => k_is); (case a13 => k_is); (case l13 => k_is); (case c13 => k_is); (case k13 => k_is); (case a14 => k_is); (case l14 => k_is); (case c14 => k_is); (case k14 => k_is); (case a15 => k_is); (case l15 => k_is); (case c15 => k_is); (case k15 => k_is); (case z0 => k_is); (case z1 => k_is); (case z2 => k_is); (case z3 => k_is); (case z4 => k_is); (case z5 => k_is); (case z6 => k_is); (case z7 => k_is); (case z8 => k_is); (case z9 => k_is); (case z10 => k_is); (case z11 => k_is); (case z12 => k_is); (case z13 => k_is); (case z14 => k_is); (case z15 => k_is); (case z16 => k_is); (case z17 => k_is)

