import PyProof.Rows.All
import Wide.All
import OpenK.AllK
import Wide.FinOn
import HandS.ForMost
import HandS.Deep
import HandS.TupAny
import HandS.TupMul
import HandS.Strs
import HandS.DictTup
import HandS.Iter
import HandS.Walk
import HandS.IsInst
import KE.KDictWalk
import HandS.TupLen
import PyProof.DictKinds
import HandS.SortOrd
import HandS.Sort
import KE.KDictSum
import HandS.ForExc
import HandS.Zip
import HandS.Rev
import HandS.EndBits
import HandS.Replace
import HandS.SortRule
import HandS.SortInts
import HandS.ExcIs
import HandS.ExcField
import KE.DataFind
import KE.KTupSum
import KE.KEqDict
import HandS.Style
import HandS.Text
import HandS.Conv
import KE.KDictList
import KE.KExcIs
import HandS.ExcInit
import HandS.RaiseMore
import HandS.More
import HandS.HotCalls
import HandS.ExcInitHot
import KE.GoesEnum
import KE.KDictZip
import PyProof.Rows.ZipGen
import HandS.RevTup
import KE.KDictCopyH
import PyProof.SumAny
import HandS.MapSum
import PyProof.ListNew
import HandS.MapObj
import PyProof.StrOps
import KE.KTryMore
import HandS.Codes
import KE.OsRunLaw
import PySem.Challenge.RW_barsplit_k10_rows_made
set_option Elab.async false
set_option linter.all false
set_option maxRecDepth 100000
set_option maxHeartbeats 4000000
namespace Hd
open PySem PySem.W PyProof.Rows
local macro_rules
  | `(tactic| o_headL $H) => `(tactic| (have x := $H; assumption))
theorem T0 (h : (OpenLaw.row PySem.Challenge.rw_barsplit_k10_rows_made).Holds) : (OpenLaw.row PySem.Challenge.rw_barsplit_k10_rows_made).Holds := by
  k_headL
def as0 : List Addr := [2, 3, 15, 22, 23, 24, 25, 28, 35, 36, 37, 40, 47, 48, 49, 52, 59, 60, 61, 64, 71, 72, 73, 76, 83, 85, 86, 88, 89, 90]
def as1 : List Addr := [91, 92, 95, 96, 99, 100, 101, 103, 104, 106, 107, 108, 110, 111, 113, 114, 115, 117, 118, 120, 121, 122, 125, 126, 127, 130, 131, 132, 134, 135]
def as2 : List Addr := [137, 138, 139, 141, 142, 144, 145, 146, 148, 149, 151, 152, 153, 156, 157, 158, 161, 162, 163, 165, 166, 168, 169, 170, 173, 174, 175, 178, 179, 180]
def as3 : List Addr := [182, 183, 185, 186, 187, 190, 191, 192, 194, 195, 197, 198, 199, 202, 203]
def ads : List Addr := as0 ++ as1 ++ as2 ++ as3
def ns0 : List PySem.Str := ["SplitError", "NoPrime", "NoTable", "NoWidths", "NoRow", "NoArrow", "PRIMES", "MOST", "table_of", "MOST_ROOMS", "MOST_WIDTH", "look_at_widths", "size_at", "arrow_of", "row_of", "ways_of", "one_kind", "_law_mix", "_law_whole", "_law_rests", "_law_is_table", "_law_table", "_law_ways", "_law_row", "_law_is_row", "_law_handed", "_law_truth"]
def nms : List PySem.Str := ns0
abbrev Rw := OpenLaw.row PySem.Challenge.rw_barsplit_k10_rows_made
abbrev vw : Program := view Rw.prog [31]
abbrev Xw : Shared → Bool := fun s => xlAt vw [] s && recOk (RowW.records (OpenRow.toRowW Rw)) s
noncomputable abbrev Fw (w : World) (o : OsState) := (HeadRun.endF (HeadRun.stepQ (HeadRun.denQ HeadRun.tabQ) Rw.prog w) 14000 Rw.prog w o).map
  fun s => (HeadRun.looksF Rw.prog (boot_heap w.params) s.abs, HeadRun.seenQ vw nms (importedModules Rw.prog.main.body) Xw s.abs, ads.map (HeadRun.getT s))
noncomputable abbrev Gw (w : World) := some (true, openGood vw nms, (T0.heap_1 w.params).map fun x => some x.2)
set_option maxHeartbeats 0
theorem run0 : ∀ (w : World) (o : OsState), Fw (w.withFollow "special-get-raises" false) o = Gw (w.withFollow "special-get-raises" false) := by
  intro w o; kernel_rfl
theorem run1 : ∀ (w : World) (o : OsState), Fw (w.withFollow "special-get-raises" true) o = Gw (w.withFollow "special-get-raises" true) := by
  intro w o; kernel_rfl
theorem runs (w : World) : ∀ o : OsState, Fw w o = Gw w := byRow2 "special-get-raises" (P := fun w => ∀ o, Fw w o = Gw w) run0 run1 w
theorem lawH (h : (OpenLaw.row PySem.Challenge.rw_barsplit_k10_rows_made).wellSaid = true → (OpenLaw.row PySem.Challenge.rw_barsplit_k10_rows_made).Holds) : (PySem.Challenge.rw_barsplit_k10_rows_made).Holds := by
  w_on; o_law; exact h (by assumption)
theorem eks (P : Params) : ads = (T0.heap_1 P).map (·.1) := by kernel_rfl
theorem left : LeftO Rw.prog vw nms Xw (Hook.obs (kHook T0.heap_1 ads eks)) (Hook.val (kHook T0.heap_1 ads eks)) 14800 true :=
  HeadRun.left_oneK (M := 14000) (by kernel_rfl) (by rfl) (fun s => by kernel_rfl) (by rfl) runs
abbrev dw : DefRec := { HeadRun.topDef Rw.prog 31 with name := "law" }
theorem fin (call : WalkO vw nms (XL vw []) (Hook.says (kHook T0.heap_1 ads eks)) (OpenRow.toRowW Rw) dw [] fun f vs => PySem.call f vs) : (PySem.Challenge.rw_barsplit_k10_rows_made).Holds := by
  refine lawH fun said => ?_
  refine holds_open (r := Rw) (q := vw) (loose := nms) (Xt := Xw) (XP := XL vw [])
    (YP := Hook.says (kHook T0.heap_1 ads eks)) (d := dw) (kwd := [])
    left (Hook.of (kHook T0.heap_1 ads eks)) (Hook.keeps (kHook T0.heap_1 ads eks))
    (fun s e => xl_of s (Bool.and_eq_true_iff.mp e).1) XL.keeps
    (by kernel_rfl) (by kernel_rfl) (by kernel_rfl)
    (fun s e => recFacts_of (Bool.and_eq_true_iff.mp e).2) (by rfl)
    (by first | assumption | decide +kernel) (by decide +kernel)
    ⟨rfl, rfl, rfl, rfl, rfl, by decide +kernel⟩ ?hw call
  case hw => w_witness2
end Hd
set_option maxHeartbeats 4000000
namespace Mn
open PySem PySem.Spec PyProof.Rows L2
def TupO (o : Obj) : Prop := o.cls = .type "tuple" ∧ o.dict = none
def TupN (K : PySem.W.Frag) (F : Hp) (a : Addr) (xs : List V) : Prop :=
  (∃ o : Obj, F a = some (.frz o (.tup xs)) ∧ TupO o) ∨
    ∃ (o : Obj) (its : Array Value) (n : Nat), K.lookup a = some o ∧ o.cls = .type "tuple" ∧ o.dict = none ∧ o.data = .seq its n ∧ its.size ≤ sizeLine ∧ Vals xs its.toList
def NewT (Q : VK) (H : Hp) (xs : List V) : Prop := ∀ (p : Addr) (o : Obj), TupO o → H p = none → Q (.ref p) (upd H p (.frz o (.tup xs)))
section
variable {K : PySem.W.Frag} {H H' : Hp}
theorem TupN.sqT {a : Addr} {xs : List V} (h : TupN K H a xs) : SqT K H a xs := by
  rcases h with ⟨o, h, _⟩ | ⟨o, its, n, h1, h2, _, h3⟩
  · exact .inl (.inr ⟨o, h⟩)
  · exact .inr ⟨o, its, n, h1, h2, h3⟩
theorem Same.tupN (e : Same H H') {a : Addr} {xs : List V} (h : TupN K H a xs) : TupN K H' a xs := by
  rcases h with ⟨o, h, q⟩ | h
  · exact .inl ⟨o, e _ _ h, q⟩
  · exact .inr h
theorem TupN.of {a : Addr} {xs : List V} {o : Obj} (q : TupO o) (h : H a = some (.frz o (.tup xs))) : TupN K H a xs := .inl ⟨o, h, q⟩
end
section
variable {X : Cx} {pins : List (Addr × Obj)} {σ : L2.St} {H : Hp} {s : Shared}
theorem laidT {xs : List V} {its : List Value} {h0 : Heap} {tk : Nat} (I : Inv X pins σ H { s with heap := h0, toks := tk }) (hz : xs.length ≤ sizeLine) (r : Vals xs its) :
    Inv X pins σ (upd H h0.objs.size (.frz { cls := .type "tuple", data := .seq its.toArray } (.tup xs))) { s with heap := h0.push { cls := .type "tuple", data := .seq its.toArray }, toks := tk } :=
  I.laid (t' := tk) (fun b u e => Heap.get?_push_of_some _ e) (Nat.le_refl _) ⟨Heap.get?_push_size _ rfl, hz, its, r, IsTup.new _ _⟩
theorem laidQ {xs : List V} {its : List Value} {h0 : Heap} {tk : Nat} {Q : VK} (I : Inv X pins σ H { s with heap := h0, toks := tk }) (hz : xs.length ≤ sizeLine) (r : Vals xs its) (q : NewT Q H xs) :
    EP X pins σ Q (.ref h0.objs.size) { s with heap := h0.push { cls := .type "tuple", data := .seq its.toArray }, toks := tk } :=
  ⟨.ref h0.objs.size, _, laidT I hz r, rfl, q _ _ ⟨rfl, rfl⟩ (I.hok.fresh (Nat.le_refl _))⟩
def tTupN (t : TA) : TE := fun σ H Q => t σ H fun xs H1 => xs.length ≤ sizeLine ∧ NewT Q H1 xs
theorem pe_tupN {es : List Expr} {t : TA} {x1} {pos : Pos} (h : PA X es t) : PE X (.Tuple es x1 pos) (tTupN t) := by
  refine ⟨fun pins s σ H Q I hq => ?_⟩
  refine wpAny_Tuple_spliced (thn (h.run pos pins s σ H _ I hq) fun us s1 ⟨xs, H1, I1, r, z, q⟩ => ⟨by rw [← r.length]; exact z, ?_⟩)
  exact laidQ (s := s1) (h0 := s1.heap) (tk := s1.toks) I1 z r q
theorem call_tuple_ofN : CallR X (.type "tuple") (fun xs H Q => ∃ p ys, xs = [.ref p] ∧ ((SqL X.K H p ys ∧ NewT Q H ys) ∨ (SqT X.K H p ys ∧ Q (.ref p) H))) := by
  intro pins s σ H xs us Q I r h
  obtain ⟨p, ys, rfl, h⟩ := h
  obtain ⟨u, rfl, rx⟩ := vals1 r
  cases rx
  rcases h with ⟨hq, q⟩ | ⟨hq, q⟩
  · obtain ⟨its, r', pl, hz⟩ := I.list hq
    have hlen := r'.length
    refine call_tuple_list pl.isList (fun h' kp => ?_) (by simp only [List.size_toArray] <;> omega)
    exact laidQ (s := s) (h0 := h') (tk := s.toks) (I.kept (t' := s.toks) kp) hz r' q
  · obtain ⟨its, r', pl, hz⟩ := I.tuple hq
    exact call_tuple_same pl ⟨.ref p, H, I, rfl, q⟩
def rCatN (K : PySem.W.Frag) : R2 := fun x y H Q => ∃ a b xs ys, x = .ref a ∧ y = .ref b ∧ SqT K H a xs ∧ SqT K H b ys ∧ xs.length + ys.length ≤ sizeLine ∧
  (xs = [] → Q (.ref b) H) ∧ (xs ≠ [] → ys = [] → Q (.ref a) H) ∧ (xs ≠ [] → ys ≠ [] → NewT Q H (xs ++ ys))
theorem op_catN : OpR X (binaryOp .Add) (rCatN X.K) := by
  intro pins s σ H x y v u Q I rx ry h
  obtain ⟨a, b, xs, ys, rfl, rfl, ha, hb, hz, q0, q1, q2⟩ := h
  cases rx
  cases ry
  obtain ⟨its, r1, p1, _⟩ := I.tuple ha
  obtain ⟨its2, r2, p2, _⟩ := I.tuple hb
  by_cases hx : xs = []
  · subst hx
    cases r1
    exact cat_tup0 p1 p2 ⟨.ref b, H, I, rfl, q0 rfl⟩
  · refine HT.cat_tup p1 p2 (fun z => hx (r1.nil_iff.mp z)) (fun z => ⟨.ref a, H, I, rfl, q1 hx (r2.nil_iff.mp z)⟩) (fun z => ?_) (by rw [← r1.length, ← r2.length]; exact hz)
    exact laidQ (s := s) (h0 := s.heap) (tk := s.toks) I (by rw [List.length_append]; exact hz) (r1.append r2) (q2 hx fun w => z (r2.nil_iff.mpr w))
def rSlN (K : PySem.W.Frag) : V → Option Int → Option Int → Hp → VK → Prop := fun x lo hi H Q => ∃ a xs, x = .ref a ∧ SqT K H a xs ∧
  (HT.sIx xs.length 0 lo = 0 ∧ HT.sIx xs.length xs.length hi = xs.length → Q (.ref a) H) ∧ (¬ (HT.sIx xs.length 0 lo = 0 ∧ HT.sIx xs.length xs.length hi = xs.length) → NewT Q H (cutV xs lo hi))
theorem sl_tupN : SlR X (rSlN X.K) := by
  intro pins s σ H x v vl vu lo hi sl Q I rx hs pl pu h
  obtain ⟨a, xs, rfl, hx, q1, q2⟩ := h
  by_cases hw : HT.sIx xs.length 0 lo = 0 ∧ HT.sIx xs.length xs.length hi = xs.length
  · cases rx
    obtain ⟨its, r, ht, hz⟩ := I.tuple hx
    have hlen : its.toArray.size = xs.length := by rw [List.size_toArray]; exact r.length.symm
    refine ⟨"tuple", _, PyProof.Rows.slot_tuple_getitem.lookup, ht.typeIs, ?_⟩
    exact getItem_tuple_whole ht hs pl pu (by rw [hlen]; exact hw) ⟨.ref a, H, I, rfl, q1 hw⟩
  · cases rx
    obtain ⟨its, r, ht, hz⟩ := I.tuple hx
    have hlen : its.toArray.size = xs.length := by rw [List.size_toArray]; exact r.length.symm
    refine ⟨"tuple", _, PyProof.Rows.slot_tuple_getitem.lookup, ht.typeIs, ?_⟩
    refine HT.getItem_tuple_cut ht hs pl pu (by rw [hlen]; exact hw) ?_ (by rw [hlen]; exact hz)
    rw [hlen]
    exact laidQ (s := s) (h0 := s.heap) (tk := s.toks) I (Nat.le_trans (cutV_length xs lo hi) hz) ((r.drop (HT.sIx xs.length 0 lo)).take (HT.sIx xs.length xs.length hi - HT.sIx xs.length 0 lo)) (q2 hw)
theorem tyN_is {a : Addr} {xs : List V} (I : Inv X pins σ H s) (h : TupN X.K H a xs) : s.TypeIs (.ref a) "tuple" ∧ ∀ b, Value.ref a = .ref b → ∃ ob, s.heap.get? b = some ob ∧ ob.dict = none := by
  rcases h with ⟨o, h, q1, q2⟩ | ⟨o, its, n, h1, h2, h3, _⟩
  · obtain ⟨e, _⟩ := I.hok a _ h
    exact ⟨⟨o, e, q1⟩, fun b eb => by cases eb; exact ⟨o, e, q2⟩⟩
  · have e := I.kIn a o h1
    exact ⟨⟨o, e, h2⟩, fun b eb => by cases eb; exact ⟨o, e, h3⟩⟩
def tBMN (K : PySem.W.Frag) (r : V → List V → Hp → VK → Prop) (to : TE) (t : TA) : TE := fun σ H Q => to σ H fun x H1 => (∃ a xs, x = .ref a ∧ TupN K H1 a xs) ∧ t σ H1 fun vs H2 => r x vs H2 Q
theorem pe_bmN {o : Expr} {to : TE} {e : Expr} {es : List Expr} {t : TA} {name : Str} {id : String} {r : V → List V → Hp → VK → Prop} {apos cpos : Pos} (slot : Slot "tuple" name id) (hty : typeOf (.builtin id) = pure (.type "method_descriptor")) (hm : MtR X id r) (ho : PE X o to) (ha : PA X (e :: es) t)
    (hbase : attributeBase o name X.env (eval o X.env) = eval o X.env := by rfl)
    (hfew : ((backTo cpos (starEach (e :: es) X.env)).all (fun x => !x.1) && (backToKw cpos (keywordEach [] X.env)).all (fun x => x.1.isSome)
      && decide ((e :: es).length + ([] : List Keyword).length + (if ([] : List Keyword).isEmpty then 0 else 1) < 30)) = true := by rfl)
    (hline : (apos.endLine == cpos.line) = true := by rfl) (hs : starEach (e :: es) X.env = (false, eval e X.env) :: starEach es X.env := by rfl) (hplain : (backTo cpos (starEach es X.env)).any (·.1) = false := by rfl) :
    PE X (.Call (.Attribute o name apos) (e :: es) [] cpos) (tBMN X.K r to t) := by
  refine ⟨fun pins s σ H Q I h => ?_⟩
  refine wpAny_Call_method_late hbase hfew hline rfl (thn (ho.run pins s σ H _ I h) fun v s1 ⟨x, H1, I1, r1, ty, q1⟩ => ?_)
  obtain ⟨a, xs, rfl, ty⟩ := ty
  obtain rfl : v = .ref a := r1
  obtain ⟨h1, h2⟩ := tyN_is I1 ty
  refine ⟨"tuple", id, PySem.F.plainAttrs_tuple, slot, hty, h1, h2, ?_⟩
  have hA := ha.run cpos pins s1 σ H1 _ I1 q1
  rw [hs] at hA ⊢
  refine Calls.callWith_builtin (by show (false || (backTo cpos (starEach es X.env)).any (·.1)) = false; rw [hplain] <;> rfl) (Calls.evalArgs_plain ?_)
  exact thn hA fun us s2 ⟨vs, H2, I2, r2, q2⟩ => hm pins s2 σ H2 (.ref a) vs (.ref a) us Q I2 (show RelV (.ref a) (.ref a) from rfl) r2 q2
def rIndexN (K : PySem.W.Frag) : V → List V → Hp → VK → Prop := fun x xs H Q => ∃ (a : Addr) (y : V) (d : PyData) (ds : List PyData) (j : Nat) (z : PyData), x = V.ref a ∧ xs = [y] ∧ Dp K H (V.ref a) (.tuple ds) ∧ Dp K H y d ∧
  SeqAt.shaped (.tuple ds) = true ∧ SeqAt.shaped d = true ∧ ds[j]? = some z ∧ PyData.eqv z d = true ∧ (∀ (m : Nat) (z' : PyData), m < j → ds[m]? = some z' → PyData.eqv z' d = false) ∧ Q (.int (j : Nat)) H
theorem mt_indexN (hu : X.A.units + 65 < cLine) : MtR X "tuple.index" (rIndexN X.K) := by
  intro pins s σ H x xs v us Q I rx rxs h
  obtain ⟨a, y, d, ds, j, z, rfl, rfl, hl, hy, sl, sd, hz, hzj, hno, q⟩ := h
  cases rx
  cases rxs with
  | cons ry rt =>
    rename_i uy ut
    cases rt
    obtain ⟨bs, r1⟩ := Dp.reads I d y uy hy ry
    have hxs : PyData.canLayAll0 ds = true := SeqAt.canLay_of_shaped sl
    have hroom : X.A.units + 1 + min (PyData.depthAll ds) d.depth < cLine := room_in_shaped sd hu
    cases hl with
    | tup hs ha =>
      obtain ⟨its, rv, ⟨⟨cls, dd, data, sls⟩, ho, hc, n, hdt⟩, hlen⟩ := I.tuple hs
      simp only at hc hdt
      subst hc hdt
      obtain ⟨as, h4⟩ := Dp.readsAll I ds _ its ha rv
      have hn : its.length = ds.length := SeqAt.ReadsAll.length ds its as h4
      have hmap : its.map (SeqAt.readOf s.heap) = ds := SeqAt.readsAll_map ds its as hxs h4
      obtain ⟨hjd, _⟩ := List.getElem?_eq_some_iff.mp hz
      have hjl : j < its.length := by omega
      have hj : j < its.toArray.size := by simpa using hjl
      have at_ : ∀ (m : Nat) (hm : m < its.toArray.size) (z' : PyData), ds[m]? = some z' → SeqAt.readOf s.heap its.toArray[m] = z' := by
        intro m hm z' hz'
        have hml : m < its.length := by simpa using hm
        rw [← hmap, List.getElem?_map, List.getElem?_eq_getElem hml] at hz'
        have e1 : SeqAt.readOf s.heap its[m] = z' := Option.some.inj (show some (SeqAt.readOf s.heap its[m]) = some z' from hz')
        simpa using e1
      refine call_meets PySem.F.slot_tuple_index ⟨_, ho, rfl⟩ PySem.F.entry_tuple_index (PySem.F.args_tuple_index_2 _ _)
        (TI.tuple_indexAt a its.toArray n dd sls uy (fun u => PyData.eqv (SeqAt.readOf s.heap u) d) j hj ?_ ?_) ⟨ho, SeqAt.items_eqAt (vs := its.toArray) (show ReadsAll s.heap its.toArray.toList ds as from h4) r1 hxs (SeqAt.canLay_of_shaped sd) hroom, ?_⟩
      · show PyData.eqv (SeqAt.readOf s.heap its.toArray[j]) d = true
        rw [at_ j hj z hz]
        exact hzj
      · intro m hm hmj
        have hmd : m < ds.length := by omega
        have hz' : ds[m]? = some ds[m] := List.getElem?_eq_getElem hmd
        show PyData.eqv (SeqAt.readOf s.heap its.toArray[m]) d = false
        rw [at_ m hm _ hz']
        exact hno m _ hmj hz'
      · exact ⟨.int (j : Nat), H, I.tok _, ⟨_, rfl⟩, q⟩
end
end Mn
namespace Mn
open PySem PySem.Spec PyProof.Rows L2
abbrev TK := List (List Int × Addr × V)
abbrev TKv := List (List Int × Addr × Value)
def hashT (ks : List Int) : Int := reduceHash (Builtin.Tuple.tupleHashOf (ks.map hashInt))
def entT (x : List Int × Addr × Value) : DictEntry := ⟨hashT x.1, .ref x.2.1, x.2.2⟩
def KVx : TK → TKv → Prop := Paired fun (p : List Int × Addr × V) (q : List Int × Addr × Value) => p.1 = q.1 ∧ p.2.1 = q.2.1 ∧ RelV p.2.2 q.2.2
def dtP (o : Obj) (kvs : TK) : Prop := o.ExactDict ∧ ∃ es ep xs, o.data = .dict es ep ∧ KVx kvs xs ∧ es.toList = xs.map entT ∧ (xs.map (·.1)).Nodup
def dtO (a : Addr) (o : Obj) (kvs : TK) : HO := .ext fun h => (a == sysModules) = false ∧ kvs.length ≤ sizeLine ∧ h.get? a = some o ∧ dtP o kvs
def KeysN (K : PySem.W.Frag) (H : Hp) (kvs : TK) : Prop := ∀ x ∈ kvs, TupN K H x.2.1 (x.1.map V.int)
def valT (kvs : TK) (k : List Int) : Option (Addr × V) := (kvs.find? fun x => decide (x.1 = k)).map (·.2)
def putAtT (k : List Int) (v : V) (x : List Int × Addr × V) : List Int × Addr × V := if x.1 = k then (x.1, x.2.1, v) else x
def putT (kvs : TK) (k : List Int) (b : Addr) (v : V) : TK := if (valT kvs k).isSome then kvs.map (putAtT k v) else kvs ++ [(k, b, v)]
theorem dtO_ok {P : Program} {w : World} {H : Hp} {h : Heap} {a : Addr} {o : Obj} {kvs : TK} (hs : (a == sysModules) = false) (hz : kvs.length ≤ sizeLine) (ho : h.get? a = some o) (d : dtP o kvs) : ObjOk P w H h a (dtO a o kvs) :=
  ⟨⟨hs, hz, ho, d⟩, ⟨o, ho⟩, fun _ _ x k => ⟨x.1, x.2.1, k _ x.2.2.1, x.2.2.2⟩⟩
theorem dtO_inj {P : Program} {w : World} {H : Hp} {h : Heap} {a : Addr} {o : Obj} {kvs : TK} (x : ObjOk P w H h a (dtO a o kvs)) : (a == sysModules) = false ∧ kvs.length ≤ sizeLine ∧ h.get? a = some o ∧ dtP o kvs := x.1
theorem KVx.length {kvs : TK} {xs : TKv} (r : KVx kvs xs) : kvs.length = xs.length := Paired.length r
theorem KVx.mem {kvs : TK} {xs : TKv} (r : KVx kvs xs) : ∀ x ∈ xs, ∃ p ∈ kvs, p.1 = x.1 ∧ p.2.1 = x.2.1 := by
  unfold KVx at r
  induction r with
  | nil => intro x hx; exact nomatch hx
  | @cons p q ps qs h t ih =>
    intro x hx
    rcases List.mem_cons.mp hx with rfl | hx
    · exact ⟨p, by simp, h.1, h.2.1⟩
    · obtain ⟨p', h1, h2⟩ := ih x hx
      exact ⟨p', by simp [h1], h2⟩
theorem KVx.val {kvs : TK} {xs : TKv} (r : KVx kvs xs) (k : List Int) : match valT kvs k, atKey xs k with
    | some (b, v), some (c, u) => b = c ∧ RelV v u
    | none, none => True
    | _, _ => False := by
  unfold KVx at r
  induction r with
  | nil => exact True.intro
  | @cons p q ps qs h t ih =>
    unfold valT atKey at ih ⊢
    rw [List.find?_cons, List.find?_cons, ← h.1]
    by_cases e : p.1 = k
    · rw [decide_eq_true e]
      exact ⟨h.2.1, h.2.2⟩
    · rw [decide_eq_false e]
      exact ih
theorem KVx.some {kvs : TK} {xs : TKv} (r : KVx kvs xs) {k : List Int} {b : Addr} {v : V} (h : valT kvs k = some (b, v)) : ∃ u, atKey xs k = some (b, u) ∧ RelV v u := by
  have := r.val k
  rw [h] at this
  cases e : atKey xs k with
  | none => rw [e] at this; exact this.elim
  | some c =>
    rw [e] at this
    obtain ⟨c, u⟩ := c
    obtain ⟨rfl, h2⟩ := this
    exact ⟨u, rfl, h2⟩
theorem KVx.isSome {kvs : TK} {xs : TKv} (r : KVx kvs xs) (k : List Int) : (atKey xs k).isSome = (valT kvs k).isSome := by
  have := r.val k
  cases e : valT kvs k with
  | none => rw [e] at this; cases e2 : atKey xs k with
    | none => rfl
    | some c => rw [e2] at this; exact this.elim
  | some c => rw [e] at this; cases e2 : atKey xs k with
    | none => rw [e2] at this; exact this.elim
    | some c => rfl
theorem KVx.repl {kvs : TK} {xs : TKv} (r : KVx kvs xs) (k : List Int) {v : V} {u : Value} (rv : RelV v u) : KVx (kvs.map (putAtT k v)) (xs.map (putAt k u)) := by
  unfold KVx at r ⊢
  induction r with
  | nil => exact .nil
  | @cons p q ps qs h t ih =>
    refine .cons ?_ ih
    unfold putAtT putAt
    rw [← h.1]
    by_cases e : p.1 = k
    · rw [if_pos e, if_pos e]; exact ⟨rfl, h.2.1, rv⟩
    · rw [if_neg e, if_neg e]; exact h
theorem KVx.put {kvs : TK} {xs : TKv} (r : KVx kvs xs) (k : List Int) (b : Addr) {v : V} {u : Value} (rv : RelV v u) : KVx (putT kvs k b v) (storedH xs k b u) := by
  unfold putT storedH
  rw [r.isSome k]
  by_cases e : (valT kvs k).isSome = true
  · rw [if_pos e, if_pos e]; exact r.repl k rv
  · rw [if_neg e, if_neg e]; exact Paired.snoc r ⟨rfl, rfl, rv⟩
theorem ints_items {P : Program} {w : World} : ∀ {ks : List Int} {us : List Value}, Vals (ks.map V.int) us → ItemsAre (intKind P w) ks us
  | [], _, r => by rw [List.map_nil] at r; cases r; exact .nil
  | k :: ks, _, r => by
    rw [List.map_cons] at r
    cases r with
    | cons h t =>
      obtain ⟨tk, rfl⟩ := h
      exact .cons (by simp [intKind, Value.isInt]) (ints_items t)
section
variable {X : Cx} {pins : List (Addr × Obj)} {σ : L2.St} {H : Hp} {s : Shared} {a b : Addr} {o : Obj} {kvs : TK} {k : List Int} {A : Around} {E : Value → Shared → Prop}
theorem keyN_is (I : Inv X pins σ H s) (h : TupN X.K H b (k.map V.int)) : (tupleKind (intKind X.prog X.w)).is s.heap k b := by
  obtain ⟨its, r, ⟨o, ho, hc, n, hd⟩, _⟩ := I.tuple h.sqT
  exact ⟨o, its.toArray, n, ho, hc, hd, by simpa using ints_items r⟩
theorem dt_at (I : Inv X pins σ H s) (h : H a = some (dtO a o kvs)) : (a == sysModules) = false ∧ kvs.length ≤ sizeLine ∧ s.heap.get? a = some o ∧ dtP o kvs := dtO_inj (I.hok a _ h)
theorem dt_H (I : Inv X pins σ H s) (h : H a = some (dtO a o kvs)) (kn : KeysN X.K H kvs) : (a == sysModules) = false ∧ kvs.length ≤ sizeLine ∧ ∃ xs, KVx kvs xs ∧ s.heap.DictOfH (tupleKind (intKind X.prog X.w)) a xs := by
  obtain ⟨hs, hz, ho, hx, es, ep, xs, hd, r, he, nd⟩ := dt_at I h
  refine ⟨hs, hz, xs, r, o, es, ep, ho, hx, hd, he, fun x hx => ?_, nd⟩
  obtain ⟨p, hp, e1, e2⟩ := r.mem x hx
  rw [← e1, ← e2]
  exact keyN_is I (kn p hp)
theorem dt_ty (I : Inv X pins σ H s) (h : H a = some (dtO a o kvs)) : s.TypeIs (.ref a) "dict" ∧ (∀ b, Value.ref a = .ref b → ∃ ob, s.heap.get? b = some ob ∧ ob.dict = none) := by
  obtain ⟨_, _, ho, hx, _⟩ := dt_at I h
  exact ⟨⟨o, ho, hx.1⟩, fun b e => by cases e; exact ⟨o, ho, hx.2.1⟩⟩
def rIxTK (K : PySem.W.Frag) : R2 := fun x y H Q => ∃ a o kvs b k p v, x = V.ref a ∧ y = V.ref b ∧ H a = some (dtO a o kvs) ∧ KeysN K H kvs ∧ TupN K H b (k.map V.int) ∧ valT kvs k = some (p, v) ∧ Q v H
theorem ix_tk (hu : X.A.units + 1 < cLine) : IxR X (rIxTK X.K) := by
  intro value slice pins s σ H x y v u Q I rx ry h hs
  obtain ⟨a, o, kvs, b, k, p, z, rfl, rfl, ha, kn, hb, hv, q⟩ := h
  cases rx
  cases ry
  obtain ⟨hm, hz, xs, r, dd⟩ := dt_H I ha kn
  obtain ⟨w, hw, rw'⟩ := r.some hv
  exact tail_any dd.typeIs slot_dict_getitem.lookup (wpAny_getItem_heap (tupleKind_room_in1 hu) (keyN_is I hb) dd hw ⟨z, H, I.tok _, rw', q⟩) hs
def rInTK (K : PySem.W.Frag) (f : Bool → Bool) : R2 := fun y x H Q => ∃ a o kvs b k, x = V.ref a ∧ y = V.ref b ∧ H a = some (dtO a o kvs) ∧ KeysN K H kvs ∧ TupN K H b (k.map V.int) ∧ Q (.bl (f (valT kvs k).isSome)) H
theorem op_in_tk (hu : X.A.units + 1 < cLine) : OpR X (compareOp .In) (rInTK X.K id) := by
  intro pins s σ H y x u v Q I ry rx h
  obtain ⟨a, o, kvs, b, k, rfl, rfl, ha, kn, hb, q⟩ := h
  cases rx
  cases ry
  obtain ⟨hm, hz, xs, r, dd⟩ := dt_H I ha kn
  refine wpAny_in_heap (tupleKind_room_in1 hu) (keyN_is I hb) hm dd ⟨_, H, I.tok _, ?_, q⟩
  rw [r.isSome k]; rfl
theorem op_nin_tk (hu : X.A.units + 1 < cLine) : OpR X (compareOp .NotIn) (rInTK X.K not) := by
  intro pins s σ H y x u v Q I ry rx h
  obtain ⟨a, o, kvs, b, k, rfl, rfl, ha, kn, hb, q⟩ := h
  cases rx
  cases ry
  obtain ⟨hm, hz, xs, r, dd⟩ := dt_H I ha kn
  refine wpAny_notIn_heap (tupleKind_room_in1 hu) (keyN_is I hb) hm dd ⟨_, H, I.tok _, ?_, q⟩
  rw [r.isSome k]; rfl
def rGetTK (K : PySem.W.Frag) : V → List V → Hp → VK → Prop := fun x xs H Q => ∃ a o kvs b k z, x = V.ref a ∧ xs = [V.ref b, z] ∧ H a = some (dtO a o kvs) ∧ KeysN K H kvs ∧ TupN K H b (k.map V.int) ∧ Q (((valT kvs k).map (·.2)).getD z) H
theorem mt_getTK (hu : X.A.units + 1 < cLine) : MtR X "dict.get" (rGetTK X.K) := by
  intro pins s σ H x xs v us Q I rx rxs h
  obtain ⟨a, o, kvs, b, k, z, rfl, rfl, ha, kn, hb, q⟩ := h
  cases rx
  cases rxs with
  | cons r1 rt =>
    cases rt with
    | cons r2 rt =>
      cases rt
      cases r1
      obtain ⟨hm, hz, xs, r, dd⟩ := dt_H I ha kn
      refine call_meetsIn PySem.F.slot_dict_get dd.typeIs PySem.F.entry_dict_get (PySem.F.args_dict_get_3 _ _ _) (meetsH_dict_get_default (tupleKind (intKind X.prog X.w)) a b hm _) ⟨tupleKind_room_in1 hu, k, xs, keyN_is I hb, dd, ⟨_, H, I.tok _, ?_, q⟩⟩
      cases e : valT kvs k with
      | none =>
        have e2 : atKey xs k = none := by
          have := r.isSome k
          rw [e] at this
          cases e3 : atKey xs k with
          | none => rfl
          | some c => rw [e3] at this; cases this
        rw [e2]
        exact r2
      | some c =>
        obtain ⟨p, w⟩ := c
        obtain ⟨u, hu, ru⟩ := r.some e
        rw [hu]
        exact ru
end
end Mn
namespace Mn
open PySem PySem.Spec PyProof.Rows L2
def dkP (o : Obj) (kvs : List (Int × V)) : Prop := o.ExactDict ∧ ∃ es ep vs, o.data = .dict es ep ∧ KV kvs vs ∧ (∀ P w, KeysOf (intKind P w) es ∧ Pairs (intKind P w) es.toList vs) ∧ (vs.map (·.1)).Nodup
def dkO (a : Addr) (o : Obj) (kvs : List (Int × V)) : HO := .ext fun h => (a == sysModules) = false ∧ kvs.length ≤ sizeLine ∧ h.get? a = some o ∧ dkP o kvs
theorem dkO_inj {P : Program} {w : World} {H : Hp} {h : Heap} {a : Addr} {o : Obj} {kvs : List (Int × V)} (x : ObjOk P w H h a (dkO a o kvs)) : (a == sysModules) = false ∧ kvs.length ≤ sizeLine ∧ h.get? a = some o ∧ dkP o kvs := x.1
section
variable {X : Cx} {pins : List (Addr × Obj)} {σ : L2.St} {H : Hp} {s : Shared} {a b : Addr} {o : Obj} {kvs : List (Int × V)} {k : Int} {A : Around} {E : Value → Shared → Prop}
theorem dk_at (I : Inv X pins σ H s) (h : H a = some (dkO a o kvs)) : (a == sysModules) = false ∧ kvs.length ≤ sizeLine ∧ s.heap.get? a = some o ∧ dkP o kvs := dkO_inj (I.hok a _ h)
theorem dk_H (I : Inv X pins σ H s) (h : H a = some (dkO a o kvs)) : (a == sysModules) = false ∧ kvs.length ≤ sizeLine ∧ ∃ vs, KV kvs vs ∧ s.heap.DictOf (intKind X.prog X.w) a vs := by
  obtain ⟨hs, hz, ho, hx, es, ep, vs, hd, r, he, nd⟩ := dk_at I h
  exact ⟨hs, hz, vs, r, o, es, ep, ho, hx, hd, (he X.prog X.w).1, (he X.prog X.w).2, nd⟩
theorem dk_ty (I : Inv X pins σ H s) (h : H a = some (dkO a o kvs)) : s.TypeIs (.ref a) "dict" ∧ (∀ b, Value.ref a = .ref b → ∃ ob, s.heap.get? b = some ob ∧ ob.dict = none) := by
  obtain ⟨_, _, ho, hx, _⟩ := dk_at I h
  exact ⟨⟨o, ho, hx.1⟩, fun b e => by cases e; exact ⟨o, ho, hx.2.1⟩⟩
theorem intK_is {P : Program} {w : World} {u : Value} (r : RelV (.int k) u) : (intKind P w).is k u = true := by
  obtain ⟨t, rfl⟩ := r
  simp [intKind, Value.isInt]
def rIxDK (K : PySem.W.Frag) : R2 := fun x y H Q => ∃ a o kvs k v, x = V.ref a ∧ y = V.int k ∧ H a = some (dkO a o kvs) ∧ valV kvs k = some v ∧ Q v H
theorem ix_dk : IxR X (rIxDK X.K) := by
  intro value slice pins s σ H x y v u Q I rx ry h hs
  obtain ⟨a, o, kvs, k, z, rfl, rfl, ha, hv, q⟩ := h
  cases rx
  obtain ⟨hm, hz, vs, r, dd⟩ := dk_H I ha
  obtain ⟨w', hw, rw'⟩ := RelO.some_of (v := z) (o := valueAt vs k) (by rw [← hv]; exact r.val k)
  exact tail_any dd.typeIs slot_dict_getitem.lookup (wpAny_getItem_of (intK_is ry) dd.mapOf hw ⟨z, H, I.tok _, rw', q⟩) hs
def rInDK (K : PySem.W.Frag) (f : Bool → Bool) : R2 := fun y x H Q => ∃ a o kvs k, x = V.ref a ∧ y = V.int k ∧ H a = some (dkO a o kvs) ∧ Q (.bl (f (valV kvs k).isSome)) H
theorem op_in_dk : OpR X (compareOp .In) (rInDK X.K id) := by
  intro pins s σ H y x u v Q I ry rx h
  obtain ⟨a, o, kvs, k, rfl, rfl, ha, q⟩ := h
  cases rx
  obtain ⟨hm, hz, vs, r, dd⟩ := dk_H I ha
  refine wpAny_in_of (intK_is ry) hm dd.mapOf ⟨_, H, I.tok _, ?_, q⟩
  rw [← (r.val k).isSome_eq]; rfl
theorem op_nin_dk : OpR X (compareOp .NotIn) (rInDK X.K not) := by
  intro pins s σ H y x u v Q I ry rx h
  obtain ⟨a, o, kvs, k, rfl, rfl, ha, q⟩ := h
  cases rx
  obtain ⟨hm, hz, vs, r, dd⟩ := dk_H I ha
  refine wpAny_notIn_of (intK_is ry) hm dd.mapOf ⟨_, H, I.tok _, ?_, q⟩
  rw [← (r.val k).isSome_eq]; rfl
def rGetDK (K : PySem.W.Frag) : V → List V → Hp → VK → Prop := fun x xs H Q => ∃ a o kvs k z, x = V.ref a ∧ xs = [V.int k, z] ∧ H a = some (dkO a o kvs) ∧ Q ((valV kvs k).getD z) H
theorem mt_getDK : MtR X "dict.get" (rGetDK X.K) := by
  intro pins s σ H x xs v us Q I rx rxs h
  obtain ⟨a, o, kvs, k, z, rfl, rfl, ha, q⟩ := h
  cases rx
  cases rxs with
  | cons r1 rt =>
    cases rt with
    | cons r2 rt =>
      cases rt
      obtain ⟨hm, hz, vs, r, dd⟩ := dk_H I ha
      exact call_meetsIn PySem.F.slot_dict_get dd.typeIs PySem.F.entry_dict_get (PySem.F.args_dict_get_3 _ _ _) (meets_dict_get_default (intKind X.prog X.w) a (intK_is r1) hm _) ⟨_, dd.mapOf, ⟨_, H, I.tok _, (r.val k).getD r2, q⟩⟩
end
def rLenX : List V → Hp → VK → Prop := fun xs H Q => (∃ a o kvs, xs = [V.ref a] ∧ H a = some (dkO a o kvs) ∧ Q (.int ((kvs.length : Nat) : Int)) H)
def rLenXT (K : PySem.W.Frag) : List V → Hp → VK → Prop := fun xs H Q => (∃ a o kvs, xs = [V.ref a] ∧ H a = some (dtO a o kvs) ∧ KeysN K H kvs ∧ Q (.int ((kvs.length : Nat) : Int)) H)
theorem call_lenX {X : Cx} : CallR X (.builtin "len") rLenX := by
  intro pins s σ H xs us Q I r h
  obtain ⟨a, o, kvs, rfl, ha, q⟩ := h
  obtain ⟨u, rfl, rx⟩ := vals1 r
  cases rx
  obtain ⟨hm, hz, vs, r, dd⟩ := dk_H I ha
  have l : kvs.length = vs.length := Paired.length r
  refine call_len_dict hm dd (by rw [← l]; rw [sizeLine_eq] at hz; omega) ?_
  rw [← l]
  exact ⟨.int ((kvs.length : Nat) : Int), H, I.tok _, ⟨_, rfl⟩, q⟩
theorem call_lenXT {X : Cx} : CallR X (.builtin "len") (rLenXT X.K) := by
  intro pins s σ H xs us Q I r h
  obtain ⟨a, o, kvs, rfl, ha, kn, q⟩ := h
  obtain ⟨u, rfl, rx⟩ := vals1 r
  cases rx
  obtain ⟨hm, hz, vs, r, dd⟩ := dt_H I ha kn
  have l : kvs.length = vs.length := r.length
  refine call_len_dictH (knd := tupleKind (intKind X.prog X.w)) hm dd (by rw [← l]; rw [sizeLine_eq] at hz; omega) ?_
  rw [← l]
  exact ⟨.int ((kvs.length : Nat) : Int), H, I.tok _, ⟨_, rfl⟩, q⟩
def IsDX (a : Addr) (H : Hp) : Prop := (∃ o kvs, H a = some (dkO a o kvs)) ∨ ∃ o kvs, H a = some (dtO a o kvs)
theorem isDX_ty {X : Cx} {pins : List (Addr × Obj)} {σ : L2.St} {H : Hp} {s : Shared} {a : Addr} (I : Inv X pins σ H s) (h : IsDX a H) : s.TypeIs (.ref a) "dict" ∧ (∀ b, Value.ref a = .ref b → ∃ ob, s.heap.get? b = some ob ∧ ob.dict = none) := by
  rcases h with ⟨o, kvs, h⟩ | ⟨o, kvs, h⟩
  · exact dk_ty I h
  · exact dt_ty I h
def rIsiX (K : PySem.W.Frag) : List V → Hp → VK → Prop := fun xs H Q => ∃ (a : Addr) (c : V) (u : Value) (b : Bool), xs = [V.ref a, c] ∧ ClsV c u ∧ IsDX a H ∧ PySem.W.kitOne K (.type "dict") u = some b ∧ Q (.bl b) H
theorem call_isiX {X : Cx} : CallR X (.builtin "isinstance") (rIsiX X.K) := by
  intro pins s σ H xs us Q I r h
  obtain ⟨a, c, u, b, rfl, k, d, e, q⟩ := h
  obtain ⟨u1, u2, rfl, r1, r2⟩ := vals2 r
  have e2 := k.eq r2
  subst e2
  cases r1
  obtain ⟨⟨o, h1, h2⟩, _⟩ := isDX_ty I d
  exact PySem.W.kia_one PySem.W.kitx_dict I.kIn ⟨o, h1, h2⟩ e (fun z => nomatch z) fun tk => ⟨.bl b, H, I.tok tk, rfl, q⟩
def rowsP (o : Obj) (ks vs : List V) : Prop := o.ExactDict ∧ ∃ es ep, o.data = .dict es ep ∧ ks.length = es.size ∧ vs.length = es.size ∧ ∀ i (h : i < es.size), ∃ k v, ks[i]? = some k ∧ vs[i]? = some v ∧ RelV k es[i].key ∧ RelV v es[i].val
def AtO (d : Addr) (o : Obj) (H : Hp) : Prop := ∃ φ, H d = some (.ext φ) ∧ ∀ h, φ h → (d == sysModules) = false ∧ h.get? d = some o
theorem AtO.get {X : Cx} {pins : List (Addr × Obj)} {σ : L2.St} {H : Hp} {s : Shared} {d : Addr} {o : Obj} (a : AtO d o H) (I : Inv X pins σ H s) : (d == sysModules) = false ∧ s.heap.get? d = some o := by
  obtain ⟨φ, h, q⟩ := a
  exact q _ (I.hok d _ h).1
theorem AtO.same {H H' : Hp} {d : Addr} {o : Obj} (a : AtO d o H) (e : ∀ u, H d = some u → H' d = some u) : AtO d o H' := by
  obtain ⟨φ, h, q⟩ := a
  exact ⟨φ, e _ h, q⟩
theorem atO_t {H : Hp} {a : Addr} {o : Obj} {kvs : TK} (h : H a = some (dtO a o kvs)) : AtO a o H := ⟨_, h, fun _ x => ⟨x.1, x.2.2.1⟩⟩
theorem atO_k {H : Hp} {a : Addr} {o : Obj} {kvs : List (Int × V)} (h : H a = some (dkO a o kvs)) : AtO a o H := ⟨_, h, fun _ x => ⟨x.1, x.2.2.1⟩⟩
theorem dtP.rows {o : Obj} {kvs : TK} (h : dtP o kvs) : rowsP o (kvs.map fun x => V.ref x.2.1) (kvs.map fun x => x.2.2) := by
  obtain ⟨hx, es, ep, xs, hd, r, he, _⟩ := h
  have l1 : es.size = xs.length := by rw [← Array.length_toList, he, List.length_map]
  have l2 := r.length
  refine ⟨hx, es, ep, hd, by rw [List.length_map]; omega, by rw [List.length_map]; omega, fun i hi => ?_⟩
  have hk : i < kvs.length := by omega
  obtain ⟨q, hq, h1, h2, h3⟩ := paired_get r (List.getElem?_eq_getElem hk)
  have e2 : es[i]? = some (entT q) := by rw [← Array.getElem?_toList, he, List.getElem?_map, hq]; rfl
  have e3 : es[i] = entT q := by
    have := Array.getElem?_eq_getElem hi
    rw [this] at e2
    exact Option.some.inj e2
  refine ⟨_, _, by rw [List.getElem?_map, List.getElem?_eq_getElem hk]; rfl, by rw [List.getElem?_map, List.getElem?_eq_getElem hk]; rfl, ?_, ?_⟩
  · rw [e3]
    show Value.ref q.2.1 = Value.ref _
    rw [← h2]
  · rw [e3]; exact h3
theorem pairs_get {P : Program} {w : World} : ∀ {es : List DictEntry} {vs : List (Int × Value)}, Pairs (intKind P w) es vs → ∀ (i : Nat) (e : DictEntry), es[i]? = some e → ∃ p, vs[i]? = some p ∧ (intKind P w).is p.1 e.key = true ∧ e.val = p.2
  | _, _, .nil, i, e, h => by simp at h
  | _, _, .cons h1 h2 t, 0, e, h => by
    simp only [List.getElem?_cons_zero, Option.some.injEq] at h
    subst h
    exact ⟨_, rfl, h1, h2⟩
  | _, _, .cons h1 h2 t, i + 1, e, h => by
    simp only [List.getElem?_cons_succ] at h ⊢
    exact pairs_get t i e h
theorem dkP.rows {o : Obj} {kvs : List (Int × V)} (h : dkP o kvs) (P : Program) (w : World) : rowsP o (kvs.map fun x => V.int x.1) (kvs.map fun x => x.2) := by
  obtain ⟨hx, es, ep, vs, hd, r, he, _⟩ := h
  obtain ⟨_, hp⟩ := he P w
  have l1 := hp.length
  rw [Array.length_toList] at l1
  have l2 : kvs.length = vs.length := Paired.length r
  refine ⟨hx, es, ep, hd, by rw [List.length_map]; omega, by rw [List.length_map]; omega, fun i hi => ?_⟩
  have hk : i < kvs.length := by omega
  obtain ⟨q, hq, h1, h2⟩ := paired_get r (List.getElem?_eq_getElem hk)
  obtain ⟨q', hq', e1, e2⟩ := pairs_get hp i es[i] (by rw [Array.getElem?_toList]; exact Array.getElem?_eq_getElem hi)
  rw [hq] at hq'
  cases hq'
  refine ⟨_, _, by rw [List.getElem?_map, List.getElem?_eq_getElem hk]; rfl, by rw [List.getElem?_map, List.getElem?_eq_getElem hk]; rfl, ?_, ?_⟩
  · obtain ⟨t, ht⟩ := Value.isInt_shape e1
    refine ⟨t, ?_⟩
    rw [ht, h1]
  · rw [e2]; exact h2
def DxAt (d : Addr) (o : Obj) (ks vs : List V) (H : Hp) : Prop :=
  (∃ kvs : List (Int × V), H d = some (dkO d o kvs) ∧ ks = (kvs.map fun x => V.int x.1) ∧ vs = kvs.map fun x => x.2) ∨ ∃ kvs : TK, H d = some (dtO d o kvs) ∧ ks = (kvs.map fun x => V.ref x.2.1) ∧ vs = kvs.map fun x => x.2.2
theorem DxAt.atO {d : Addr} {o : Obj} {ks vs : List V} {H : Hp} (h : DxAt d o ks vs H) : AtO d o H := by
  rcases h with ⟨kvs, h, _⟩ | ⟨kvs, h, _⟩
  · exact atO_k h
  · exact atO_t h
theorem DxAt.same {d : Addr} {o : Obj} {ks vs : List V} {H H' : Hp} (h : DxAt d o ks vs H) (e : ∀ u, H d = some u → H' d = some u) : DxAt d o ks vs H' := by
  rcases h with ⟨kvs, h, r⟩ | ⟨kvs, h, r⟩
  · exact .inl ⟨kvs, e _ h, r⟩
  · exact .inr ⟨kvs, e _ h, r⟩
theorem DxAt.rows {X : Cx} {pins : List (Addr × Obj)} {σ : L2.St} {H : Hp} {s : Shared} {d : Addr} {o : Obj} {ks vs : List V} (h : DxAt d o ks vs H) (I : Inv X pins σ H s) : rowsP o ks vs := by
  rcases h with ⟨kvs, h, rfl, rfl⟩ | ⟨kvs, h, rfl, rfl⟩
  · obtain ⟨_, _, _, q⟩ := dk_at I h
    exact q.rows X.prog X.w
  · obtain ⟨_, _, _, q⟩ := dt_at I h
    exact q.rows
def ItX (d : Addr) (o : Obj) (xs : List V) : It := ⟨fun i H => AtO d o H ∧ i < xs.length, fun i H x H' => H' = H ∧ xs[i]? = some x, fun i H => AtO d o H ∧ xs.length ≤ i⟩
theorem walk_x {d : Addr} {o : Obj} {xs : List V} : Walk (ItX d o xs) xs.length (AtO d o) (YAt xs) := ⟨fun i H hi g => ⟨g, hi⟩, fun H g => ⟨g, Nat.le_refl _⟩, fun i H x H' hi g y => y⟩
section
variable {P : Program} {w : World} {K : PySem.W.Frag} {tg : Expr} {d : Addr} {o : Obj} {es : Array DictEntry} {ep : Nat}
theorem turn_kx {ks vs : List V} (it : Addr) (hx : o.ExactDict) (hod : o.data = .dict es ep) (r : rowsP o ks vs) : Turn P w K tg (ItX d o ks) [it] it (fun i h => h.IsKeyIter it d i es.size ep) where
  mem := by simp
  obj := fun i h st b hb => by
    have e : b = it := by simpa using hb
    subst e
    obtain ⟨oi, e, c, dd⟩ := st
    exact ⟨oi, e, fun v z => by rw [dd] at z; cases z⟩
  keep := fun i h h' st k => st.at fun oi e => k it (by simp) oi e
  item := by
    intro X hP hw hK hc i pins s σ H E I hf st hg
    subst hP hw hK
    obtain ⟨hd, hi⟩ := hg
    obtain ⟨f0, f1, f2, f3, f4, f5⟩ := hf it (by simp)
    obtain ⟨hs, hgd⟩ := hd.get I
    obtain ⟨_, es', ep', hdt, l1, l2, ent⟩ := r
    obtain ⟨rfl, rfl⟩ := dict_ep hod hdt
    obtain ⟨k, v, e1, e2, r1, r2⟩ := ent i (by omega)
    refine wpAny_pyNext_keys_item_raw st ⟨o, hgd, hx, hod⟩ (by omega) fun h' st' sb => ?_
    have I1 : Inv X pins σ H { s with heap := h' } := I.turned (t' := s.toks) (fun b ob hb e => (sb.2 b hb).trans e) f0 f1 f3 f4 f5
    obtain ⟨oi, e, c, dd⟩ := id st'
    exact ⟨_, rfl, go_of (s := { s with heap := h' }) e c dd (by decide) ⟨k, H, I1, r1, ⟨rfl, e1⟩, st', fun b hb => (hf b hb).1⟩⟩
  done := by
    intro X hP hw hK hc i pins s σ H E I hf st hg
    subst hP hw hK
    obtain ⟨hd, hi⟩ := hg
    obtain ⟨f0, f1, f2, f3, f4, f5⟩ := hf it (by simp)
    obtain ⟨hs, hgd⟩ := hd.get I
    obtain ⟨_, es', ep', hdt, l1, l2, ent⟩ := r
    obtain ⟨rfl, rfl⟩ := dict_ep hod hdt
    exact wpAny_pyNext_keys_end_raw (I.ok.hd hc) st ⟨o, hgd, hx, hod⟩ (by omega) fun h' eb => ⟨rfl, I.turned (t' := s.toks) (fun b ob hb e => eb b ob hb e) f0 f1 f3 f4 f5⟩
  self := fun A i s Q E st h => wpAny_pyIter_keyiter st h
end
section
variable {X : Cx} {tg e : Expr} {td : TE} {apos cpos : Pos}
def iKeysX (td : TE) : TI := fun σ H R => td σ H fun x H1 => ∃ d o ks vs, x = V.ref d ∧ DxAt d o ks vs H1 ∧ R (ItX d o ks) H1
theorem pi_keysX (he : PE X e td) : PI X tg e (iKeysX td) := by
  refine ⟨fun pins s σ H R I h => ?_⟩
  refine thn (he.run pins s σ H _ I h) fun u s1 ⟨x, H1, I1, rx, d, o, ks, vs, ex, hdx, q⟩ => ?_
  subst ex
  obtain rfl : u = Value.ref d := rx
  have hd := hdx.atO
  have r := hdx.rows I1
  obtain ⟨hs, hgd⟩ := hd.get I1
  obtain ⟨hx, es, ep, hdt, _⟩ := id r
  exact wpAny_pyIter_dict_raw hs ⟨o, hgd, hx, hdt⟩ (pi_one (tk := s1.toks) I1 _ (turn_kx _ hx hdt r) ⟨_, Heap.get?_push_size _ rfl, rfl, rfl⟩ q)
end
section
variable {X : Cx}
def tBMD (r : V → List V → Hp → VK → Prop) (to : TE) (t : TA) : TE := fun σ H Q => to σ H fun x H1 => (∃ a, x = .ref a ∧ IsDX a H1) ∧ t σ H1 fun vs H2 => r x vs H2 Q
theorem pe_bmD {o : Expr} {to : TE} {e : Expr} {es : List Expr} {t : TA} {name : Str} {id : String} {r : V → List V → Hp → VK → Prop} {apos cpos : Pos} (slot : Slot "dict" name id) (hty : typeOf (.builtin id) = pure (.type "method_descriptor")) (hm : MtR X id r) (ho : PE X o to) (ha : PA X (e :: es) t)
    (hbase : attributeBase o name X.env (eval o X.env) = eval o X.env := by rfl)
    (hfew : ((backTo cpos (starEach (e :: es) X.env)).all (fun x => !x.1) && (backToKw cpos (keywordEach [] X.env)).all (fun x => x.1.isSome)
      && decide ((e :: es).length + ([] : List Keyword).length + (if ([] : List Keyword).isEmpty then 0 else 1) < 30)) = true := by rfl)
    (hline : (apos.endLine == cpos.line) = true := by rfl) (hs : starEach (e :: es) X.env = (false, eval e X.env) :: starEach es X.env := by rfl) (hplain : (backTo cpos (starEach es X.env)).any (·.1) = false := by rfl) :
    PE X (.Call (.Attribute o name apos) (e :: es) [] cpos) (tBMD r to t) := by
  refine ⟨fun pins s σ H Q I h => ?_⟩
  refine wpAny_Call_method_late hbase hfew hline rfl (thn (ho.run pins s σ H _ I h) fun v s1 ⟨x, H1, I1, r1, ty, q1⟩ => ?_)
  obtain ⟨a, rfl, ty⟩ := ty
  obtain rfl : v = .ref a := r1
  obtain ⟨h1, h2⟩ := isDX_ty I1 ty
  refine ⟨"dict", id, PySem.F.plainAttrs_dict, slot, hty, h1, h2, ?_⟩
  have hA := ha.run cpos pins s1 σ H1 _ I1 q1
  rw [hs] at hA ⊢
  refine Calls.callWith_builtin (by show (false || (backTo cpos (starEach es X.env)).any (·.1)) = false; rw [hplain] <;> rfl) (Calls.evalArgs_plain ?_)
  exact thn hA fun us s2 ⟨vs, H2, I2, r2, q2⟩ => hm pins s2 σ H2 (.ref a) vs (.ref a) us Q I2 (show RelV (.ref a) (.ref a) from rfl) r2 q2
end
end Mn
set_option maxHeartbeats 1000000
namespace SrtO
open PySem PySem.Calls PyProof.Rows PyProof.V PySem.Spec
section
variable {prog : Program} {w : World} {A : Around} {E : Value → Shared → Prop} {s : Shared} {T : String} {r d : Addr} {n : Nat} {P : Nat → Value → Prop} {OK : Heap → Prop}
theorem gather {R : List Value → Shared → Prop} (K : PySem.W.KdlSrc prog w T r d n P OK) (hh : A.handled = none) (hok : OK s.heap) (hn : n ≤ sizeLine)
    (h : ∀ (h' : Heap) (tk : Nat) (acc : Array Value), (∀ b o, s.heap.get? b = some o → h'.get? b = some o) → s.heap.objs.size ≤ h'.objs.size → ItemsOf P acc n → R acc.toList { s with heap := h', toks := tk }) :
    wpAny (model prog w) A (collect (.ref r)) R E s := by
  have lt := K.there _ hok
  let Z : Obj := { cls := .type "list", data := .seq ([] : List Value).toArray }
  unfold collect
  refine wpAny_bind (wpAny_runValue (codeAny_builtin entry_proto_collect' ?_)); rw [Around.under_plainId PySem.F.plain_proto_collect _]
  show wpAny _ A.in1 (newList [] >>= fun q => again (.builtin "list.__iadd__" ⟨[q, .ref r], []⟩)) _ _ s
  refine wpAny_bind (wpAny_newObj_type ?_); refine wpAny_pure ⟨plainId_quiet PySem.F.plain_list_iadd _, codeAny_builtin entry_list_iadd' ?_⟩; rw [Around.under_plainId PySem.F.plain_list_iadd _]
  show wpAny _ A.in1 (Builtin.List.listExtendWith (.ref s.heap.objs.size) (.ref r) (.ref s.heap.objs.size)) _ _ _
  have walk := PySem.W.kdl_extend (A := A) (s := { s with heap := s.heap.push Z })
    (R := fun (q : Result) (s' : Shared) => ∃ (h' : Heap) (tk : Nat) (acc : Array Value) (c : Nat), q = .ok (.ret (.ref s.heap.objs.size)) ∧ s' = { s with heap := h', toks := tk } ∧
      (∀ b o, s.heap.get? b = some o → h'.get? b = some o) ∧ h'.get? s.heap.objs.size = some { cls := .type "list", dict := none, data := .seq acc c, slots := #[] } ∧ ItemsOf P acc n)
    K hh (K.keep _ _ hok fun b _ o e => Heap.get?_push_of_some _ e) s.heap.objs.size (Nat.ne_of_gt lt.1) (Nat.ne_of_gt lt.2) (.ref s.heap.objs.size) 0 (Heap.get?_push_size _ rfl)
    (fun h' tk acc c hk e it => ⟨h', tk, acc, c, rfl, rfl, fun b o q => hk b o (Nat.ne_of_lt (Heap.lt_size q)) (Heap.get?_push_of_some _ q), e, it⟩) hn
  refine wpAny_mono walk (fun q s' x => ?_) fun e s' x => ?_
  · cases q with
    | done f =>
      obtain ⟨h', tk, acc, c, e, rfl, hk, hS, it⟩ := x
      cases e
      show wpAny _ A (load s.heap.objs.size >>= _) _ _ _
      exact wpAny_bind (wpAny_load hS (wpAny_pure (h h' tk acc hk (Nat.le_of_lt (Heap.lt_size hS)) it)))
    | again g =>
      refine ⟨x.1, codeAny_mono x.2 fun q s2 y => ?_⟩
      obtain ⟨h', tk, acc, c, rfl, rfl, hk, hS, it⟩ := y
      show wpAny _ A (load s.heap.objs.size >>= _) _ _ _
      exact wpAny_bind (wpAny_load hS (wpAny_pure (h h' tk acc hk (Nat.le_of_lt (Heap.lt_size hS)) it)))
  · obtain ⟨_, _, _, _, e, _⟩ := x
    cases e
theorem sorted_pairsD {k : Value → Int × Int} {Q : Value → Shared → Prop} (K : PySem.W.KdlSrc prog w T r d n P OK) (hh : A.handled = none) (hok : OK s.heap) (hn : n ≤ sizeLine)
    (hp : ∀ j v, P j v → Srt.IsPair s.heap v (k v).1 (k v).2)
    (h : ∀ (h' : Heap) (tk : Nat) (D : Addr) (out vs : List Value), vs.length = n → (∀ (j : Nat) (v : Value), vs[j]? = some v → P j v) → Srtd (fun v u => lexB (k v) (k u)) out → Stb (fun v u => lexB (k v) (k u)) out vs → (∀ b o, s.heap.get? b = some o → h'.get? b = some o) → s.heap.objs.size ≤ D → (∃ n, h'.get? D = some (seqObj "list" out.toArray n)) → Q (.ref D) { s with heap := h', toks := tk }) :
    wpAny (model prog w) A (call (.builtin "sorted") [.ref r]) Q E s := by
  refine Calls.call_function_entry kind_sorted plain_sorted entry_sorted (args_sorted1 _) ?_
  unfold Builtin.«sorted»
  refine wpAny_bind (m := checkCount "sorted" 1 1 _) (wpAny_pure ?_)
  refine wpAny_bind (gather (A := A.in1) K hh hok hn fun h' tk acc hk hsz hacc => ?_)
  have hl : acc.toList.length = n := by rw [Array.length_toList]; exact hacc.1
  refine wpAny_bind (wpAny_newList ?_ (by rw [hl]; exact hn))
  have hoL : (h'.push (seqObj "list" acc.toList.toArray 0)).get? h'.objs.size = some (seqObj "list" acc.toList.toArray 0) := Heap.get?_push_size _ rfl
  have keep : ∀ b o, s.heap.get? b = some o → b ≠ h'.objs.size ∧ (h'.push (seqObj "list" acc.toList.toArray 0)).get? b = some o := fun b o q => by
    have hlt : b < h'.objs.size := Heap.lt_size (hk _ _ q)
    exact ⟨Nat.ne_of_lt hlt, Heap.get?_push_of_some _ (hk _ _ q)⟩
  have hv : ∀ (j : Nat) (v : Value), acc.toList[j]? = some v → P j v := fun j v e => hacc.2 j v (by rw [← Array.getElem?_toList]; exact e)
  have hpv : ∀ v ∈ acc.toList, Srt.IsPair (h'.push (seqObj "list" acc.toList.toArray 0)) v (k v).1 (k v).2 := fun v hm => by
    obtain ⟨j, hj⟩ := List.getElem?_of_mem hm
    exact (hp j v (hv j v hj)).keeps fun b o e _ => (keep b o e).2
  show wpAny _ _ _ _ _ { s with heap := h'.push (seqObj "list" acc.toList.toArray 0), toks := tk }
  refine wpAny_bind (wpAny_holding (wpAny_call_entry slot_list_sort ⟨_, hoL, rfl⟩ entry_list_sort (list_sort_ord (swo_lex k) hoL (by rw [hl]; exact hn) (fun h2 => pairs_sortableO (by omega) hpv fun o e => ?_) fun out hs hb => ⟨_, rfl, ?_⟩) (args_list_sort _)))
  · have e' : some o = some (seqObj "list" acc.toList.toArray 0) := e.symm.trans hoL
    cases e'
    intro c
    exact absurd (Value.type.inj c) (by decide)
  · exact wpAny_pure ⟨_, rfl, h _ tk _ out acc.toList hl hv hs hb (fun b o e => by rw [sortedHeap_old (keep b o e).1 (Heap.lt_size (keep b o e).2)]; exact (keep b o e).2) hsz (sortedHeap_at hoL)⟩
end
end SrtO
set_option maxHeartbeats 4000000
namespace L2
open PySem PySem.Spec PyProof.Rows
theorem tuple_mulS (l : Addr) (items : Array Value) (n : Nat) (sl : Array (Option Value)) (dd : Option Addr) (x : Int) (u : Tok) (c0 : (decide (x < -(2 ^ 63)) || decide (x ≥ 2 ^ 63)) = false) (c1 : (items.isEmpty || x == 1) = true) :
    Meets (Builtin.«tuple.__mul__» ⟨[.ref l, .int x u], []⟩) (fun _ R s => s.heap.get? l = some { cls := .type "tuple", dict := dd, data := .seq items n, slots := sl } ∧ R (.ok (.ret (Value.ref l))) s) :=
  .of_wp fun prog w A R s h => by
    obtain ⟨hp, g, d, tk, os⟩ := s
    obtain ⟨hl, h⟩ := h
    have f1 := AutoSeq1.idx_int
    wp_walk using wpAny_loadPart' hl
    repeat (first
      | (refine wpAny_ite_false (decide_eq_false (by rw [c0]; exact Bool.false_ne_true)) ?_; wp_walk using wpAny_loadPart' hl)
      | (refine wpAny_ite_true (decide_eq_true c1) ?_; wp_walk using wpAny_loadPart' hl))
    exact ⟨_, rfl, h⟩
theorem tuple_mul0 (l : Addr) (items : Array Value) (n : Nat) (dd : Option Addr) (sl : Array (Option Value)) (x : Int) (u : Tok) (c0 : (decide (x < -(2 ^ 63)) || decide (x ≥ 2 ^ 63)) = false) (c1 : (items.isEmpty || x == 1) = false) (c2 : (decide (x ≤ 0) || items.isEmpty) = true) :
    Meets (Builtin.«tuple.__mul__» ⟨[.ref l, .int x u], []⟩) (fun _ R s => s.heap.get? l = some { cls := .type "tuple", dict := dd, data := .seq items n, slots := sl } ∧
      R (.ok (.ret (Value.ref s.heap.objs.size))) { s with heap := s.heap.push { cls := Value.type "tuple", data := Data.seq #[] }, toks := s.toks }) :=
  .of_wp fun prog w A R s h => by
    obtain ⟨hp, g, d, tk, os⟩ := s
    obtain ⟨hl, h⟩ := h
    have f1 := AutoSeq1.idx_int
    wp_walk using wpAny_loadPart' hl
    repeat (first
      | (refine wpAny_ite_false (decide_eq_false (by rw [c0]; exact Bool.false_ne_true)) ?_; wp_walk using wpAny_loadPart' hl)
      | (refine wpAny_ite_false (decide_eq_false (by rw [c1]; exact Bool.false_ne_true)) ?_; wp_walk using wpAny_loadPart' hl)
      | (refine wpAny_ite_true (decide_eq_true c2) ?_; wp_walk using wpAny_loadPart' hl))
    exact ⟨_, rfl, h⟩
end L2
namespace Mn
open PySem PySem.Spec PyProof.Rows L2
def rRepA (K : PySem.W.Frag) : R2 := fun x y H Q => ∃ l k xs, x = .ref l ∧ y = .int k ∧ SqT K H l xs ∧ -1000 ≤ k ∧ k ≤ 1000 ∧ xs.length ≤ 1000 ∧ (xs = [] ∨ k = 1 → Q (.ref l) H) ∧ (¬ (xs = [] ∨ k = 1) → NewT Q H (List.replicate k.toNat xs).flatten)
section
variable {X : Cx}
theorem op_repA : OpR X (binaryOp .Mult) (rRepA X.K) := by
  intro pins s σ H x y v u Q I rx ry h
  obtain ⟨l, k, xs, rfl, rfl, hT, h1, h2, hz, q1, q2⟩ := h
  cases rx
  obtain ⟨t, rfl⟩ := ry
  obtain ⟨its, r, ⟨⟨cls, dd, data, sl⟩, ho, hc, n, hd⟩, hs⟩ := I.tuple hT
  simp only at hc hd
  subst hc hd
  have hle : its.length = xs.length := r.length.symm
  have hsz0 : its.toArray.size = xs.length := by rw [List.size_toArray, hle]
  have c0 : (decide (k < -(2 ^ 63)) || decide (k ≥ 2 ^ 63)) = false := by
    rw [decide_eq_false (by omega), decide_eq_false (by omega)] <;> rfl
  have go : ∀ {Q' : Value → Shared → Prop}, wpAny (model X.prog X.w) X.A (call (.builtin "tuple.__mul__") [.ref l, .int k t]) Q' X.xe s → wpAny (model X.prog X.w) X.A (binaryOp .Mult (.ref l) (.int k t)) Q' X.xe s := fun h =>
    wpAny_binaryOp_repeat_ref (T := "tuple") (U := "int") (by decide) ⟨_, ho, rfl⟩ (fun s' => typeIs_int s' k t) noFill_tuple_mul F.fills_int_mul F.slot_int_rmul repeat_tuple F.slot_int_index.lookup
      (call_meets F.slot_int_rmul (typeIs_int s k t) F.entry_int_rmul (F.args_int_rmul_2 _ _) (int_rmul_tuple k t l its.toArray n dd sl) ⟨ho, rfl, ⟨_, ho, rfl⟩, h⟩)
  by_cases hs1 : xs = [] ∨ k = 1
  · have c1 : (its.toArray.isEmpty || k == 1) = true := by
      rcases hs1 with rfl | rfl
      · cases r; rfl
      · simp
    exact go (call_meets F.slot_tuple_mul ⟨_, ho, rfl⟩ F.entry_tuple_mul (F.args_tuple_mul_2 _ _) (tuple_mulS l its.toArray n sl dd k t c0 c1) ⟨ho, .ref l, H, I, rfl, q1 hs1⟩)
  · have hn : its ≠ [] := fun e => hs1 (.inl (by
      rw [e] at hle
      exact List.eq_nil_of_length_eq_zero hle.symm))
    have hi : its.toArray.isEmpty = false := by
      cases its with
      | nil => exact absurd rfl hn
      | cons a b => rfl
    have k1 : k ≠ 1 := fun e => hs1 (.inr e)
    have c1 : (its.toArray.isEmpty || k == 1) = false := by
      rw [hi, Bool.false_or]
      exact beq_eq_false_iff_ne.mpr k1
    have q := q2 hs1
    by_cases h0 : k ≤ 0
    · have c2 : (decide (k ≤ 0) || its.toArray.isEmpty) = true := by rw [decide_eq_true h0]; rfl
      have e0 : k.toNat = 0 := by omega
      rw [e0] at q
      refine go (call_meets F.slot_tuple_mul ⟨_, ho, rfl⟩ F.entry_tuple_mul (F.args_tuple_mul_2 _ _) (tuple_mul0 l its.toArray n dd sl k t c0 c1 c2) ⟨ho, ?_⟩)
      exact laidQ (s := s) (h0 := s.heap) (tk := s.toks) (its := []) I (by rw [sizeLine_eq]; decide) .nil q
    · have c2 : (decide (k ≤ 0) || its.toArray.isEmpty) = false := by
        rw [hi, Bool.or_false]
        exact decide_eq_false h0
      have hm : ((its.toArray.size : Nat) : Int) * k ≤ 1000000 := by
        rw [hsz0]
        have a1 : ((xs.length : Nat) : Int) * k ≤ 1000 * k := Int.mul_le_mul_of_nonneg_right (by omega) (by omega)
        omega
      have flen : (List.replicate k.toNat its).flatten.length ≤ sizeLine := by
        rw [PyProof.Rows.lm_len_rep_flat, hle, sizeLine_eq]
        have a1 : k.toNat * xs.length ≤ 1000 * 1000 := Nat.mul_le_mul (by omega) hz
        omega
      have c4 : Builtin.Tuple.tupleTooMany (((its.toArray.size : Nat) : Int) * k) = false := by
        unfold Builtin.Tuple.tupleTooMany
        rw [sizeLine_eq]
        exact decide_eq_false (by omega)
      refine go (call_meets F.slot_tuple_mul ⟨_, ho, rfl⟩ F.entry_tuple_mul (F.args_tuple_mul_2 _ _) (tuple_mulW l its.toArray n dd sl k t c0 c1 c2 (by omega) c4 (by rw [size_rep, List.size_toArray]; exact flen)) ⟨ho, ?_⟩)
      rw [size_rep]
      exact laidQ (s := s) (h0 := s.heap) (tk := s.toks) I (by rw [PyProof.Rows.lm_len_rep_flat, sizeLine_eq]; have a1 : k.toNat * xs.length ≤ 1000 * 1000 := Nat.mul_le_mul (by omega) hz; omega) (r.rep k.toNat) q
end
end Mn
namespace Mn
open PySem PySem.Spec PyProof.Rows L2
def sameI : Value → Option (Addr × Value) → Bool
  | .int i _, some (_, .int j _) => i == j
  | _, _ => false
def teqB (xa xb : TKv) : Bool := xa.all fun x => sameI x.2.2 (atKey xb x.1)
section
variable {prog : Program} {w : World} {A : Around} {E : Value → Shared → Prop} {s : Shared}
theorem teq_same {nm : String} {a b : Addr} {xa xb : TKv} {Q : Bool → Shared → Prop} (hu : A.units < cLine) (ha : (a == sysModules) = false) (hb : (b == sysModules) = false)
    (da : s.heap.DictOfH (tupleKind (intKind prog w)) a xa) (db : s.heap.DictOfH (tupleKind (intKind prog w)) b xb) (va : ∀ x ∈ xa, ∃ i t, x.2.2 = .int i t) (vb : ∀ x ∈ xb, ∃ i t, x.2.2 = .int i t)
    (h : Q (xa.length == xb.length && teqB xa xb) s) : wpAny (model prog w) A (Builtin.Dict.samePairs nm a b) Q E s := by
  obtain ⟨oa, es, ep, hoa, _, hda, hea, hia, hna⟩ := da
  obtain ⟨ob, es', ep', hob, _, hdb, heb, hib, hnb⟩ := db
  have hla : xa.length = es.size := (size_of_entries hea).symm
  have hlb : xb.length = es'.size := (size_of_entries heb).symm
  rw [hla, hlb] at h
  unfold Builtin.Dict.samePairs Builtin.Dict.showsAll
  rw [if_neg (show ¬ (a == sysModules) = true by rw [ha]; exact Bool.false_ne_true), if_neg (show ¬ (b == sysModules) = true by rw [hb]; exact Bool.false_ne_true)]
  refine wpAny_bind (wpAny_pure (wpAny_bind (wpAny_pure ?_)))
  refine wpAny_bind (wpAny_dictEntries hoa hda ?_)
  dsimp only
  refine wpAny_bind (wpAny_dictEntries hob hdb ?_)
  by_cases hsz : es.size = es'.size
  case neg =>
    rw [if_pos (by simpa using hsz)]
    have hbf : (es.size == es'.size) = false := by simpa using hsz
    rw [hbf, Bool.false_and] at h
    exact wpAny_bind (wpAny_rule (wpAny_pure h))
  case pos =>
    have h' : Q (teqB xa xb) s := by simpa [hsz] using h
    rw [if_neg (by rw [hsz]; simp)]
    refine wpAny_bind (wpAny_dictEpoch hoa hda ?_)
    refine wpAny_bind ?_
    rw [Std.Legacy.Range.forIn_eq_forIn_range']
    simp only [Std.Legacy.Range.size, Nat.sub_zero, Nat.add_sub_cancel, Nat.div_one]
    refine wpAny_forIn_list _
      (fun rest q s' => s' = s ∧ q = (none, ()) ∧ ∃ i, rest = List.range' i (es.size - i) ∧ i ≤ es.size ∧ teqB (xa.drop i) xb = teqB xa xb)
      _ ?_ ?_ _ _ ⟨rfl, rfl, 0, by simp, Nat.zero_le _, by simp⟩
    · rintro x rest q s' ⟨rfl, rfl, i, hr, hi, hpre⟩
      have hlt : i < es.size := by
        rcases Nat.lt_or_ge i es.size with h | h
        · exact h
        · rw [Nat.sub_eq_zero_of_le h] at hr; simp at hr
      obtain ⟨rfl, hrest⟩ : x = i ∧ rest = List.range' (i + 1) (es.size - (i + 1)) := by
        have e : es.size - i = (es.size - (i + 1)) + 1 := by omega
        rw [e, List.range'_succ] at hr
        injection hr with h1 h2
        exact ⟨h1, h2⟩
      refine wpAny_bind (wpAny_dictEntries hoa hda ?_)
      rw [Array.getElem?_eq_getElem hlt]
      have hlt' : x < xa.length := by rw [hla]; exact hlt
      have hmem : xa[x] ∈ xa := List.getElem_mem hlt'
      obtain ⟨i1, tk1, hv1⟩ := va _ hmem
      have hdrop : xa.drop x = xa[x] :: xa.drop (x + 1) := List.drop_eq_getElem_cons hlt'
      have een : es[x] = entryOfKey (tupleKind (intKind prog w)) xa[x] := by
        have := entry_at hea x
        rw [Array.getElem?_eq_getElem hlt, List.getElem?_eq_getElem hlt'] at this
        exact Option.some.inj this
      rw [hdrop] at hpre
      have hpre' : (sameI xa[x].2.2 (atKey xb xa[x].1) && teqB (xa.drop (x + 1)) xb) = teqB xa xb := by
        rw [← hpre]; rfl
      show wpAny _ _ (holding [es[x].key, es[x].val] _ >>= _) _ _ _
      rw [een]
      refine wpAny_bind (wpAny_holding (wpAny_bind (wpAny_dictFind_heap (knd := tupleKind (intKind prog w)) (k := xa[x].1) hu (hia _ hmem) hob hdb heb hib hnb (fun hno => ?_) (fun j p hj => ?_))))
      · rw [atKey_none_of_get hno] at hpre'
        have e0 : sameI xa[x].2.2 none = false := by rw [hv1]; rfl
        rw [e0, Bool.false_and] at hpre'
        rw [← hpre'] at h'
        refine wpAny_pure ?_
        show wpAny _ _ (if (!false) = true then _ else _) _ _ _
        rw [if_pos (by decide)]
        exact wpAny_pure (wpAny_pure h')
      · rw [atKey_of_get hnb hj] at hpre'
        obtain ⟨hjl, hje⟩ := List.getElem?_eq_some_iff.mp hj
        have hjlt : j < es'.size := by rw [← hlb]; exact hjl
        have een' : es'[j] = entryOfKey (tupleKind (intKind prog w)) (xa[x].1, p) := by
          have := entry_at heb j
          rw [Array.getElem?_eq_getElem hjlt, hj] at this
          exact Option.some.inj this
        obtain ⟨i2, tk2, hv2⟩ := vb (xa[x].1, p) (List.mem_of_getElem? hj)
        refine wpAny_bind (wpAny_dictEntries hob hdb ?_)
        rw [Array.getElem?_eq_getElem hjlt]
        have hv2' : es'[j].val = .int i2 tk2 := by rw [een']; exact hv2
        have hp : p = (p.1, .int i2 tk2) := Prod.ext rfl hv2
        have hs : sameI xa[x].2.2 (some p) = (i1 == i2) := by rw [hv1, hp]; rfl
        rw [hs] at hpre'
        refine wpAny_holding ?_
        show wpAny _ _ (eqBool xa[x].2.2 es'[j].val) _ _ _
        rw [hv1, hv2']
        refine SeqAt.EqAt.int_int (A := A) (s := s') i1 tk1 i2 tk2 prog w _ _ ?_
        cases hii : (i1 == i2) with
        | false =>
          rw [hii, Bool.false_and] at hpre'
          rw [← hpre'] at h'
          show wpAny _ _ (if (!false) = true then _ else _) _ _ _
          rw [if_pos (by decide)]
          exact wpAny_pure (wpAny_pure h')
        | true =>
          rw [hii, Bool.true_and] at hpre'
          show wpAny _ _ (if (!true) = true then _ else _) _ _ _
          rw [if_neg (by decide)]
          refine wpAny_bind (wpAny_dictEpoch hoa hda ?_)
          rw [if_neg (by simp)]
          exact wpAny_pure ⟨rfl, rfl, x + 1, hrest, hlt, hpre'⟩
    · rintro q s' ⟨rfl, rfl, i, hr, hi, hpre⟩
      have hin : i = es.size := by
        rcases Nat.lt_or_ge i es.size with h | h
        · have e : es.size - i = (es.size - (i + 1)) + 1 := by omega
          rw [e, List.range'_succ] at hr; exact nomatch hr
        · exact Nat.le_antisymm hi h
      refine wpAny_pure ?_
      rw [hin, ← hla, List.drop_length] at hpre
      rw [← hpre] at h'
      exact h'
theorem teq_eq {a b : Addr} {xa xb : TKv} {Q : Value → Shared → Prop} (hu : A.units + 1 < cLine) (ha : (a == sysModules) = false) (hb : (b == sysModules) = false)
    (da : s.heap.DictOfH (tupleKind (intKind prog w)) a xa) (db : s.heap.DictOfH (tupleKind (intKind prog w)) b xb) (va : ∀ x ∈ xa, ∃ i t, x.2.2 = .int i t) (vb : ∀ x ∈ xb, ∃ i t, x.2.2 = .int i t)
    (h : Q (.bool (xa.length == xb.length && teqB xa xb)) s) : wpAny (model prog w) A (compareOp .Eq (.ref a) (.ref b)) Q E s := by
  refine wpAny_richCompare_same_room (op := .Eq) da.typeIs db.typeIs PySem.F.slot_dict_eq (wpAny_call_entry PySem.F.slot_dict_eq da.typeIs PySem.F.entry_dict_eq ?_ (PySem.F.args_dict_eq_2 _ _)) (by omega)
  show wpAny _ _ (Builtin.Dict.dictSlotArgs "__eq__" ⟨[.ref a, .ref b], []⟩ >>= _) _ _ s
  refine wpAny_bind ?_
  unfold Builtin.Dict.dictSlotArgs
  refine wpAny_bind (wpAny_notOrdered_dict da.typeIs ?_)
  show wpAny _ _ (pure (Value.ref a, Value.ref b)) _ _ s
  refine wpAny_pure ?_
  refine wpAny_bind (wpAny_isInstance (T := "dict") db.typeIs PySem.F.sub_dict_dict ?_)
  simp only [Bool.not_true, Bool.false_eq_true, if_false]
  refine wpAny_bind (wpAny_pure (wpAny_bind (wpAny_pure ?_)))
  refine wpAny_bind (teq_same (show A.in1.units < cLine from tupleKind_room_in1 (knd := intKind prog w) hu) ha hb da db va vb ?_)
  refine wpAny_pure ⟨_, rfl, ?_, ?_⟩
  · exact fun x => nomatch x
  · simpa using h
theorem teq_ne {a b : Addr} {xa xb : TKv} {Q : Value → Shared → Prop} (hu : A.units + 1 < cLine) (ha : (a == sysModules) = false) (hb : (b == sysModules) = false)
    (da : s.heap.DictOfH (tupleKind (intKind prog w)) a xa) (db : s.heap.DictOfH (tupleKind (intKind prog w)) b xb) (va : ∀ x ∈ xa, ∃ i t, x.2.2 = .int i t) (vb : ∀ x ∈ xb, ∃ i t, x.2.2 = .int i t)
    (h : Q (.bool (!(xa.length == xb.length && teqB xa xb))) s) : wpAny (model prog w) A (compareOp .NotEq (.ref a) (.ref b)) Q E s := by
  refine wpAny_richCompare_same_room (op := .NotEq) da.typeIs db.typeIs PySem.F.slot_dict_ne (wpAny_call_entry PySem.F.slot_dict_ne da.typeIs PySem.F.entry_dict_ne ?_ (PySem.F.args_dict_ne_2 _ _)) (by omega)
  show wpAny _ _ (Builtin.Dict.dictSlotArgs "__ne__" ⟨[.ref a, .ref b], []⟩ >>= _) _ _ s
  refine wpAny_bind ?_
  unfold Builtin.Dict.dictSlotArgs
  refine wpAny_bind (wpAny_notOrdered_dict da.typeIs ?_)
  show wpAny _ _ (pure (Value.ref a, Value.ref b)) _ _ s
  refine wpAny_pure ?_
  refine wpAny_bind (wpAny_isInstance (T := "dict") db.typeIs PySem.F.sub_dict_dict ?_)
  simp only [Bool.not_true, Bool.false_eq_true, if_false]
  refine wpAny_bind (wpAny_pure (wpAny_bind (wpAny_pure ?_)))
  refine wpAny_bind (teq_same (show A.in1.units < cLine from tupleKind_room_in1 (knd := intKind prog w) hu) ha hb da db va vb ?_)
  refine wpAny_pure ⟨_, rfl, ?_, ?_⟩
  · exact fun x => nomatch x
  · simpa using h
end
def sameV : V → Option V → Bool
  | .int i, some (.int j) => i == j
  | _, _ => false
def teqV (ka kb : TK) : Bool := ka.all fun x => sameV x.2.2 ((valT kb x.1).map fun z => z.2)
def IntsT (ka : TK) : Prop := ∀ x ∈ ka, ∃ i, x.2.2 = V.int i
theorem ints_vx : ∀ {ka : TK} {xa : TKv}, KVx ka xa → IntsT ka → ∀ x ∈ xa, ∃ i t, x.2.2 = .int i t := fun {ka xa} r h => by
  unfold KVx at r
  induction r with
  | nil => intro x hx; exact nomatch hx
  | @cons p q ps qs hq t ih =>
    intro x hx
    rcases List.mem_cons.mp hx with rfl | hx
    · obtain ⟨i, e⟩ := h p (by simp)
      have := hq.2.2
      rw [e] at this
      obtain ⟨tk, z⟩ := this
      exact ⟨i, tk, z⟩
    · exact ih (fun y hy => h y (by simp [hy])) x hx
theorem teq_v {kb : TK} {xb : TKv} (rb : KVx kb xb) (hb : IntsT kb) : ∀ {ka : TK} {xa : TKv}, KVx ka xa → IntsT ka → teqB xa xb = teqV ka kb := fun {ka xa} r h => by
  unfold KVx at r
  induction r with
  | nil => rfl
  | @cons p q ps qs hq t ih =>
    have ih := ih fun y hy => h y (by simp [hy])
    unfold teqB teqV at ih ⊢
    rw [List.all_cons, List.all_cons, ih]
    congr 1
    obtain ⟨i, e⟩ := h p (by simp)
    have hv := hq.2.2
    rw [e] at hv
    obtain ⟨tk, z⟩ := hv
    rw [z, e, ← hq.1]
    have hl := rb.val p.1
    cases e1 : valT kb p.1 with
    | none =>
      rw [e1] at hl
      cases e2 : atKey xb p.1 with
      | none => rfl
      | some c => rw [e2] at hl; exact hl.elim
    | some c =>
      obtain ⟨cb, cv⟩ := c
      obtain ⟨u, hu2, ru⟩ := rb.some e1
      rw [hu2]
      have hm : ∃ y ∈ kb, y.2.2 = cv := by
        unfold valT at e1
        obtain ⟨y, hy, hy2⟩ := Option.map_eq_some_iff.mp e1
        exact ⟨y, List.mem_of_find?_eq_some hy, by rw [hy2]⟩
      obtain ⟨y, hy, hy2⟩ := hm
      obtain ⟨j, ej⟩ := hb y hy
      rw [hy2] at ej
      rw [ej] at ru
      obtain ⟨tj, rfl⟩ := ru
      rw [ej]
      rfl
def rEqTK (K : PySem.W.Frag) (f : Bool → Bool) : R2 := fun x y H Q => ∃ a b o o' ka kb, x = V.ref a ∧ y = V.ref b ∧ H a = some (dtO a o ka) ∧ H b = some (dtO b o' kb) ∧ KeysN K H ka ∧ KeysN K H kb ∧ IntsT ka ∧ IntsT kb ∧ Q (.bl (f (ka.length == kb.length && teqV ka kb))) H
section
variable {X : Cx}
theorem op_eq_tk (hu : X.A.units + 1 < cLine) : OpR X (compareOp .Eq) (rEqTK X.K id) := by
  intro pins s σ H x y v u Q I rx ry h
  obtain ⟨a, b, o, o', ka, kb, rfl, rfl, ha, hb, na, nb, ia, ib, q⟩ := h
  cases rx
  cases ry
  obtain ⟨h1, _, xa, ra, da⟩ := dt_H I ha na
  obtain ⟨h2, _, xb, rb, db⟩ := dt_H I hb nb
  refine teq_eq hu h1 h2 da db (ints_vx ra ia) (ints_vx rb ib) ⟨_, H, I, ?_, q⟩
  rw [teq_v rb ib ra ia, ← ra.length, ← rb.length]
  rfl
theorem op_ne_tk (hu : X.A.units + 1 < cLine) : OpR X (compareOp .NotEq) (rEqTK X.K not) := by
  intro pins s σ H x y v u Q I rx ry h
  obtain ⟨a, b, o, o', ka, kb, rfl, rfl, ha, hb, na, nb, ia, ib, q⟩ := h
  cases rx
  cases ry
  obtain ⟨h1, _, xa, ra, da⟩ := dt_H I ha na
  obtain ⟨h2, _, xb, rb, db⟩ := dt_H I hb nb
  refine teq_ne hu h1 h2 da db (ints_vx ra ia) (ints_vx rb ib) ⟨_, H, I, ?_, q⟩
  rw [teq_v rb ib ra ia, ← ra.length, ← rb.length]
  rfl
end
end Mn
namespace Mn
open PySem PySem.Spec PyProof.Rows L2
def keyT (k : List Int) : PyData := .tuple (k.map PyData.int)
abbrev dkD (ks : List Int) (ds : List PyData) : List (PyData × PyData) := (.none, .bool false) :: (ks.map PyData.int).zip ds
abbrev dtD (ks : List (List Int)) (ds : List PyData) : List (PyData × PyData) := (.none, .bool true) :: (ks.map keyT).zip ds
def ExC (cls : Value) (d : Option Addr) (a : Addr) : HO := .ext fun h => ∃ (ox : Obj) (vs : Array Value), h.get? a = some ox ∧ Zc cls d ox ∧ ox.data = .fields vs
abbrev xd0 (nm : Str) : PyData := .dict [(.bool true, .str nm)]
abbrev xd1 (nm f : Str) (e : PyData) : PyData := .dict [(.bool true, .tuple [.str nm, .str f, e])]
def ClsAt (K : PySem.W.Frag) (nm : Str) (C : Addr) : Prop := PySem.W.nsIn K mainGlobals nm = some (some (.ref C))
def insD (nm : Str) (fs : List Str) (ds : List PyData) : PyData := .dict [(.bool true, .list [.str nm, .list (fs.map PyData.str), .list ds])]
mutual
inductive Rp (K : PySem.W.Frag) (F : Hp) : V → PyData → Prop
  | non : Rp K F .non .none
  | bl (b : Bool) : Rp K F (.bl b) (.bool b)
  | int (i : Int) : Rp K F (.int i) (.int i)
  | str (x : Str) : Rp K F (.str x) (.str x)
  | lst {a : Addr} {xs : List V} {ds : List PyData} : F a = some (.lst xs) → RpAll K F xs ds → Rp K F (.ref a) (.list ds)
  | scr {a : Addr} {ns : List Int} : SqL K F a (ns.map V.int) → Rp K F (.ref a) (.dict [(.none, .list (ns.map PyData.int))])
  | tup {a : Addr} {xs : List V} {ds : List PyData} : TupN K F a xs → RpAll K F xs ds → Rp K F (.ref a) (.tuple ds)
  | dK {a : Addr} {o : Obj} {kvs : List (Int × V)} {ds : List PyData} : F a = some (dkO a o kvs) → RpAll K F (kvs.map fun x => x.2) ds → Rp K F (.ref a) (.dict (dkD (kvs.map fun x => x.1) ds))
  | dT {a : Addr} {o : Obj} {kvs : TK} {ds : List PyData} : F a = some (dtO a o kvs) → KeysN K F kvs → RpAll K F (kvs.map fun x => x.2.2) ds → Rp K F (.ref a) (.dict (dtD (kvs.map fun x => x.1) ds))
  | xc0 {a C : Addr} {nm : Str} : F a = some (ExC (.ref C) none a) → ClsAt K nm C → Rp K F (.ref a) (.dict [(.bool true, .str nm)])
  | xc1 {a C dx : Addr} {nm f : Str} {v : V} {e : PyData} : F a = some (ExC (.ref C) (some dx) a) → ClsAt K nm C → F dx = some (.xd [(f, v)]) → Rp K F v e → Rp K F (.ref a) (.dict [(.bool true, .tuple [.str nm, .str f, e])])
  | ins {a C dx : Addr} {nm : Str} {fvs : List (Str × V)} {ds : List PyData} : F a = some (.ins C dx fvs) → F dx = some (.own a) → ClsAt K nm C → RpAll K F (fvs.map fun x => x.2) ds → Rp K F (.ref a) (.dict [(.bool true, .list [.str nm, .list ((fvs.map fun x => x.1).map PyData.str), .list ds])])
inductive RpAll (K : PySem.W.Frag) (F : Hp) : List V → List PyData → Prop
  | nil : RpAll K F [] []
  | cons {v : V} {vs : List V} {d : PyData} {ds : List PyData} : Rp K F v d → RpAll K F vs ds → RpAll K F (v :: vs) (d :: ds)
end
section
variable {K : PySem.W.Frag} {F F' H H' : Hp}
theorem Same.sqT (e : Same H H') {a : Addr} {xs : List V} (h : SqT K H a xs) : SqT K H' a xs := by
  rcases h with (h | ⟨o, h⟩) | h
  · exact .inl (.inl (e _ _ h))
  · exact .inl (.inr ⟨o, e _ _ h⟩)
  · exact .inr h
theorem KeysN.mono (e : Same F F') {kvs : TK} (h : KeysN K F kvs) : KeysN K F' kvs := fun x hx => Same.tupN e (h x hx)
mutual
theorem Rp.mono (e : Same F F') : ∀ {v : V} {d : PyData}, Rp K F v d → Rp K F' v d
  | _, _, .non => .non
  | _, _, .bl b => .bl b
  | _, _, .int i => .int i
  | _, _, .str x => .str x
  | _, _, .lst h r => .lst (e _ _ h) (RpAll.mono e r)
  | _, _, .scr h => .scr (e.seq h)
  | _, _, .tup h r => .tup (Same.tupN e h) (RpAll.mono e r)
  | _, _, .dK h r => .dK (e _ _ h) (RpAll.mono e r)
  | _, _, .dT h kn r => .dT (e _ _ h) (kn.mono e) (RpAll.mono e r)
  | _, _, .xc0 h q => .xc0 (e _ _ h) q
  | _, _, .xc1 h q g r => .xc1 (e _ _ h) q (e _ _ g) (Rp.mono e r)
  | _, _, .ins h g q r => .ins (e _ _ h) (e _ _ g) q (RpAll.mono e r)
theorem RpAll.mono (e : Same F F') : ∀ {vs : List V} {ds : List PyData}, RpAll K F vs ds → RpAll K F' vs ds
  | _, _, .nil => .nil
  | _, _, .cons r t => .cons (Rp.mono e r) (RpAll.mono e t)
end
theorem RpAll.length : ∀ {vs : List V} {ds : List PyData}, RpAll K F vs ds → vs.length = ds.length
  | _, _, .nil => rfl
  | _, _, .cons _ t => congrArg (· + 1) (RpAll.length t)
theorem RpAll.append : ∀ {vs ws : List V} {ds es : List PyData}, RpAll K F vs ds → RpAll K F ws es → RpAll K F (vs ++ ws) (ds ++ es)
  | _, _, _, _, .nil, h => h
  | _, _, _, _, .cons r t, h => .cons r (RpAll.append t h)
theorem RpAll.get : ∀ {vs : List V} {ds : List PyData} {i : Nat} {v : V}, RpAll K F vs ds → vs[i]? = some v → ∃ d, ds[i]? = some d ∧ Rp K F v d
  | _, _, i, v, .nil, h => by simp at h
  | _, _, 0, v, .cons r _, h => by simp at h; subst h; exact ⟨_, rfl, r⟩
  | _, _, i + 1, v, .cons _ t, h => by
    obtain ⟨d, h1, h2⟩ := RpAll.get (i := i) t (by simpa using h)
    exact ⟨d, by simpa using h1, h2⟩
theorem RpAll.getD : ∀ {vs : List V} {ds : List PyData} {i : Nat} {d : PyData}, RpAll K F vs ds → ds[i]? = some d → ∃ v, vs[i]? = some v ∧ Rp K F v d
  | _, _, i, v, .nil, h => by simp at h
  | _, _, 0, v, .cons r _, h => by simp at h; subst h; exact ⟨_, rfl, r⟩
  | _, _, i + 1, v, .cons _ t, h => by
    obtain ⟨d, h1, h2⟩ := RpAll.getD (i := i) t (by simpa using h)
    exact ⟨d, by simpa using h1, h2⟩
theorem RpAll.take : ∀ {vs : List V} {ds : List PyData} (n : Nat), RpAll K F vs ds → RpAll K F (vs.take n) (ds.take n)
  | _, _, 0, _ => by simpa using .nil
  | _, _, n + 1, .nil => by simpa using .nil
  | _, _, n + 1, .cons r t => by simpa using .cons r (RpAll.take n t)
theorem RpAll.drop : ∀ {vs : List V} {ds : List PyData} (n : Nat), RpAll K F vs ds → RpAll K F (vs.drop n) (ds.drop n)
  | _, _, 0, h => by simpa using h
  | _, _, n + 1, .nil => by simpa using .nil
  | _, _, n + 1, .cons r t => by simpa using RpAll.drop n t
theorem RpAll.set : ∀ {vs : List V} {ds : List PyData} {v : V} {d : PyData} (i : Nat), RpAll K F vs ds → Rp K F v d → RpAll K F (vs.set i v) (ds.set i d)
  | _, _, _, _, i, .nil, _ => by simpa using .nil
  | _, _, _, _, 0, .cons r t, h => .cons h t
  | _, _, _, _, i + 1, .cons r t, h => .cons r (RpAll.set i t h)
theorem RpAll.eraseIdx : ∀ {vs : List V} {ds : List PyData} (i : Nat), RpAll K F vs ds → RpAll K F (vs.eraseIdx i) (ds.eraseIdx i)
  | _, _, i, .nil => by simpa using .nil
  | _, _, 0, .cons r t => t
  | _, _, i + 1, .cons r t => .cons r (RpAll.eraseIdx i t)
theorem RpAll.reverse {vs : List V} {ds : List PyData} (h : RpAll K F vs ds) : RpAll K F vs.reverse ds.reverse := by
  match h with
  | .nil => exact .nil
  | .cons r t =>
    rw [List.reverse_cons, List.reverse_cons]
    exact (RpAll.reverse t).append (.cons r .nil)
termination_by vs.length
theorem RpAll.rep {vs : List V} {ds : List PyData} (h : RpAll K F vs ds) : ∀ k : Nat, RpAll K F (List.replicate k vs).flatten (List.replicate k ds).flatten
  | 0 => .nil
  | k + 1 => by
    rw [List.replicate_succ, List.replicate_succ, List.flatten_cons, List.flatten_cons]
    exact h.append (RpAll.rep h k)
theorem RpAll.ints : ∀ {vs : List V} {ns : List Int}, RpAll K F vs (ns.map PyData.int) → vs = ns.map V.int
  | _, [], .nil => rfl
  | _, _ :: _, .cons (.int _) t => congrArg _ (RpAll.ints t)
theorem RpAll.bools : ∀ {vs : List V} {ns : List Bool}, RpAll K F vs (ns.map PyData.bool) → vs = ns.map V.bl
  | _, [], .nil => rfl
  | _, _ :: _, .cons (.bl _) t => congrArg _ (RpAll.bools t)
theorem RpAll.strs : ∀ {vs : List V} {ns : List Str}, RpAll K F vs (ns.map PyData.str) → vs = ns.map V.str
  | _, [], .nil => rfl
  | _, _ :: _, .cons (.str _) t => congrArg _ (RpAll.strs t)
theorem RpAll.ofInts : ∀ ns : List Int, RpAll K F (ns.map V.int) (ns.map PyData.int)
  | [] => .nil
  | n :: r => .cons (.int n) (RpAll.ofInts r)
theorem RpAll.ofStrs : ∀ ns : List Str, RpAll K F (ns.map V.str) (ns.map PyData.str)
  | [] => .nil
  | n :: r => .cons (.str n) (RpAll.ofStrs r)
mutual
theorem Rp.dp : ∀ {v : V} {d : PyData}, Rp K F v d → d.canLay0 = true → Dp K F v d
  | _, _, .non, _ => .non
  | _, _, .bl b, _ => .bl b
  | _, _, .int i, _ => .int i
  | _, _, .str x, _ => .str x
  | _, _, .lst h r, e => .lst (SqL.of h) (RpAll.dp r (by simpa [PyData.canLay0] using e))
  | _, _, .scr h, e => by simp [PyData.canLay0] at e
  | _, _, .tup h r, e => .tup h.sqT (RpAll.dp r (by simpa [PyData.canLay0] using e))
  | _, _, .dK h r, e => by simp [PyData.canLay0] at e
  | _, _, .dT h kn r, e => by simp [PyData.canLay0] at e
  | _, _, .xc0 h q, e => by simp [PyData.canLay0] at e
  | _, _, .xc1 h q g r, e => by simp [PyData.canLay0] at e
  | _, _, .ins h g q r, e => by simp [PyData.canLay0] at e
theorem RpAll.dp : ∀ {vs : List V} {ds : List PyData}, RpAll K F vs ds → PyData.canLayAll0 ds = true → DpAll K F vs ds
  | _, _, .nil, _ => .nil
  | _, _, .cons r t, e => by
    simp only [PyData.canLayAll0, Bool.and_eq_true] at e
    exact .cons (Rp.dp r e.1) (RpAll.dp t e.2)
end
end
structure Ext (F H F' H' : Hp) : Prop where
  fr : Same F F'
  sub : Same F' H'
  same : Same H H'
  new : ∀ b o, F' b = some o → F b = some o ∨ H b = none
section
variable {K : PySem.W.Frag} {F H F' H' F2 H2 : Hp}
theorem Ext.refl (h : Same F H) : Ext F H F H := ⟨Same.refl _, h, Same.refl _, fun _ _ e => .inl e⟩
theorem Ext.trans (a : Ext F H F' H') (b : Ext F' H' F2 H2) : Ext F H F2 H2 :=
  ⟨a.fr.trans b.fr, b.sub, a.same.trans b.same, fun c o e => by
    rcases b.new c o e with q | q
    · exact a.new c o q
    · exact .inr (a.same.free q)⟩
theorem Same.upd {H : Hp} {p : Addr} {o : HO} (h : H p = none) : Same H (L2.upd H p o) := fun b x e => by
  rw [upd_ne (ne_of_none e h)]
  exact e
theorem Ext.lay (h : Same F H) {p : Addr} {o : HO} (n : H p = none) : Ext F H (upd F p o) (upd H p o) :=
  ⟨Same.upd (h.free n), fun b x e => by
    by_cases q : b = p
    · subst q; rw [upd_same] at e ⊢; exact e
    · rw [upd_ne q] at e ⊢; exact h _ _ e, Same.upd n, fun b x e => by
    by_cases q : b = p
    · subst q; exact .inr n
    · rw [upd_ne q] at e; exact .inl e⟩
theorem Ext.lay0 (h : Same F H) {p : Addr} {o : HO} (n : H p = none) : Ext F H F (upd H p o) :=
  ⟨Same.refl _, h.trans (Same.upd n), Same.upd n, fun _ _ e => .inl e⟩
theorem Ext.freeze {p : Addr} {o : HO} (x : Ext F H F' H') (n : H p = none) (f : F' p = none) (e : H' p = some o) : Ext F H (upd F' p o) H' :=
  ⟨x.fr.trans (Same.upd f), fun b u q => by
    by_cases z : b = p
    · subst z; rw [upd_same] at q; rw [e]; exact q
    · rw [upd_ne z] at q; exact x.sub _ _ q, x.same, fun b u q => by
    by_cases z : b = p
    · subst z; exact .inr n
    · rw [upd_ne z] at q; exact x.new _ _ q⟩
end
inductive Kd where
  | ls
  | tp
  /-- an instance of the class of this name, its attributes -/
  | ob (nm : Str) (fs : List Str)
inductive OT where
  /-- data that nobody changes -/
  | lf (d : PyData)
  /-- a dict whose keys are ints, of such data -/
  | dk (ks : List Int) (ds : List PyData)
  | nd (k : Kd) (ts : List OT)
inductive Stp where
  | ix (k : Nat)
  | fl (f : Str)
deriving DecidableEq
def Kd.d : Kd → List PyData → PyData
  | .ls, ds => .list ds
  | .tp, ds => .tuple ds
  | .ob _ _, _ => .dict [(.none, .none)]
mutual
def OT.d : OT → PyData
  | .lf d => d
  | .dk ks ds => .dict (dkD ks ds)
  | .nd k ts => k.d (OT.ds ts)
def OT.ds : List OT → List PyData
  | [] => []
  | t :: r => OT.d t :: OT.ds r
end
def Kd.isOb : Kd → Bool
  | .ob _ _ => true
  | _ => false
mutual
def OT.noOb : OT → Bool
  | .lf _ => true
  | .dk _ _ => true
  | .nd k ts => !k.isOb && OT.noObs ts
def OT.noObs : List OT → Bool
  | [] => true
  | t :: r => OT.noOb t && OT.noObs r
end
mutual
def OT.noTp : OT → Bool
  | .lf _ => true
  | .dk _ _ => true
  | .nd k ts => (match k with | .tp => false | _ => true) && OT.noTps ts
def OT.noTps : List OT → Bool
  | [] => true
  | t :: r => OT.noTp t && OT.noTps r
end
mutual
inductive Tr (K : PySem.W.Frag) (F H : Hp) : V → OT → List Addr → Prop
  | lf {v : V} {d : PyData} : Rp K F v d → Tr K F H v (.lf d) []
  | dk {p : Addr} {o : Obj} {kvs : List (Int × V)} {ds : List PyData} : F p = none → H p = some (dkO p o kvs) → RpAll K F (kvs.map fun x => x.2) ds → Tr K F H (.ref p) (.dk (kvs.map fun x => x.1) ds) [p]
  | ls {p : Addr} {vs : List V} {ts : List OT} {ps : List Addr} : F p = none → H p = some (.lst vs) → TrAll K F H vs ts ps → Tr K F H (.ref p) (.nd .ls ts) (p :: ps)
  | tp {p : Addr} {o : Obj} {vs : List V} {ts : List OT} {ps : List Addr} : F p = none → H p = some (.frz o (.tup vs)) → TupO o → TrAll K F H vs ts ps → Tr K F H (.ref p) (.nd .tp ts) (p :: ps)
  | ob {p C dx : Addr} {nm : Str} {fvs : List (Str × V)} {ts : List OT} {ps : List Addr} : F p = none → F dx = none → H p = some (.ins C dx fvs) → H dx = some (.own p) → ClsAt K nm C → TrAll K F H (fvs.map fun x => x.2) ts ps → Tr K F H (.ref p) (.nd (.ob nm (fvs.map fun x => x.1)) ts) (p :: dx :: ps)
inductive TrAll (K : PySem.W.Frag) (F H : Hp) : List V → List OT → List Addr → Prop
  | nil : TrAll K F H [] [] []
  | cons {v : V} {vs : List V} {t : OT} {ts : List OT} {ps qs : List Addr} : Tr K F H v t ps → TrAll K F H vs ts qs → TrAll K F H (v :: vs) (t :: ts) (ps ++ qs)
end
section
variable {K K2 : PySem.W.Frag} {F H F' H' F2 : Hp}
theorem TrAll.length : ∀ {vs : List V} {ts : List OT} {ps : List Addr}, TrAll K F H vs ts ps → vs.length = ts.length
  | _, _, _, .nil => rfl
  | _, _, _, .cons _ t => congrArg (· + 1) (TrAll.length t)
mutual
theorem Tr.move {L : List Addr} (fr : Same F F') (aw : ∀ b, F b = none → (∃ o, H b = some o) → b ∈ L → F' b = none) (ke : ∀ b, b ∈ L → H' b = H b) : ∀ {v : V} {t : OT} {ps : List Addr}, Tr K F H v t ps → (∀ b ∈ ps, b ∈ L) → Tr K F' H' v t ps
  | _, _, _, .lf r, _ => .lf (r.mono fr)
  | _, _, _, .dk f h r, s => .dk (aw _ f ⟨_, h⟩ (s _ (by simp))) (by rw [ke _ (s _ (by simp))]; exact h) (r.mono fr)
  | _, _, _, .ls f h a, s => .ls (aw _ f ⟨_, h⟩ (s _ (by simp))) (by rw [ke _ (s _ (by simp))]; exact h) (TrAll.move fr aw ke a fun b hb => s b (by simp [hb]))
  | _, _, _, .tp f h g a, s => .tp (aw _ f ⟨_, h⟩ (s _ (by simp))) (by rw [ke _ (s _ (by simp))]; exact h) g (TrAll.move fr aw ke a fun b hb => s b (by simp [hb]))
  | _, _, _, .ob f f2 h h2 c a, s => .ob (aw _ f ⟨_, h⟩ (s _ (by simp))) (aw _ f2 ⟨_, h2⟩ (s _ (by simp))) (by rw [ke _ (s _ (by simp))]; exact h) (by rw [ke _ (s _ (by simp))]; exact h2) c (TrAll.move fr aw ke a fun b hb => s b (by simp [hb]))
theorem TrAll.move {L : List Addr} (fr : Same F F') (aw : ∀ b, F b = none → (∃ o, H b = some o) → b ∈ L → F' b = none) (ke : ∀ b, b ∈ L → H' b = H b) : ∀ {vs : List V} {ts : List OT} {ps : List Addr}, TrAll K F H vs ts ps → (∀ b ∈ ps, b ∈ L) → TrAll K F' H' vs ts ps
  | _, _, _, .nil, _ => .nil
  | _, _, _, .cons r s, q => .cons (Tr.move fr aw ke r fun b hb => q b (by simp [hb])) (TrAll.move fr aw ke s fun b hb => q b (by simp [hb]))
end
mutual
theorem Tr.there : ∀ {v : V} {t : OT} {ps : List Addr}, Tr K F H v t ps → ∀ b ∈ ps, F b = none ∧ ∃ o, H b = some o
  | _, _, _, .lf _, b, hb => absurd hb (by simp)
  | _, _, _, .dk f h _, b, hb => by
    rw [List.mem_singleton] at hb
    subst hb
    exact ⟨f, _, h⟩
  | _, _, _, .ls f h a, b, hb => by
    rcases List.mem_cons.mp hb with rfl | hb
    · exact ⟨f, _, h⟩
    · exact TrAll.there a b hb
  | _, _, _, .tp f h _ a, b, hb => by
    rcases List.mem_cons.mp hb with rfl | hb
    · exact ⟨f, _, h⟩
    · exact TrAll.there a b hb
  | _, _, _, .ob f f2 h h2 _ a, b, hb => by
    rcases List.mem_cons.mp hb with rfl | hb
    · exact ⟨f, _, h⟩
    · rcases List.mem_cons.mp hb with rfl | hb
      · exact ⟨f2, _, h2⟩
      · exact TrAll.there a b hb
theorem TrAll.there : ∀ {vs : List V} {ts : List OT} {ps : List Addr}, TrAll K F H vs ts ps → ∀ b ∈ ps, F b = none ∧ ∃ o, H b = some o
  | _, _, _, .nil, b, hb => absurd hb (by simp)
  | _, _, _, .cons r s, b, hb => by
    rcases List.mem_append.mp hb with hb | hb
    · exact Tr.there r b hb
    · exact TrAll.there s b hb
end
mutual
theorem Tr.lend (fr : Same F F') : ∀ {v : V} {t : OT} {ps : List Addr}, Tr K F H v t ps → t.noOb = true → (∀ b ∈ ps, F' b = H b) → Rp K F' v t.d
  | _, _, _, .lf r, _, _ => r.mono fr
  | _, _, _, .dk f h r, _, s => .dK (by rw [s _ (by simp)]; exact h) (r.mono fr)
  | _, _, _, .ls f h a, n, s => by
    rw [OT.d]
    simp only [OT.noOb, Bool.and_eq_true] at n
    exact .lst (by rw [s _ (by simp)]; exact h) (TrAll.lend fr a n.2 fun b hb => s b (by simp [hb]))
  | _, _, _, .tp f h g a, n, s => by
    rw [OT.d]
    simp only [OT.noOb, Bool.and_eq_true] at n
    exact .tup (.of g (by rw [s _ (by simp)]; exact h)) (TrAll.lend fr a n.2 fun b hb => s b (by simp [hb]))
  | _, _, _, .ob _ _ _ _ _ _, n, _ => by simp [OT.noOb, Kd.isOb] at n
theorem TrAll.lend (fr : Same F F') : ∀ {vs : List V} {ts : List OT} {ps : List Addr}, TrAll K F H vs ts ps → OT.noObs ts = true → (∀ b ∈ ps, F' b = H b) → RpAll K F' vs (OT.ds ts)
  | _, _, _, .nil, _, _ => .nil
  | _, _, _, .cons r s, n, q => by
    simp only [OT.noObs, Bool.and_eq_true] at n
    exact .cons (Tr.lend fr r n.1 fun b hb => q b (by simp [hb])) (TrAll.lend fr s n.2 fun b hb => q b (by simp [hb]))
end
mutual
theorem Tr.det : ∀ {v : V} {t : OT} {ps qs : List Addr}, Tr K F H v t ps → Tr K2 F2 H v t qs → ps = qs
  | _, _, _, _, .lf _, .lf _ => rfl
  | _, _, _, _, .dk _ _ _, b => by
    generalize e : OT.dk _ _ = t at b
    cases b with
    | dk _ _ _ => rfl
    | _ => cases e
  | _, _, _, _, .ls _ h a, .ls _ h' a' => by
    rw [h] at h'
    cases h'
    rw [TrAll.det a a']
  | _, _, _, _, .tp _ h _ a, .tp _ h' _ a' => by
    rw [h] at h'
    cases h'
    rw [TrAll.det a a']
  | _, _, _, _, .ob _ _ h _ _ a, b => by
    generalize e : OT.nd _ _ = t at b
    cases b with
    | ob _ _ h' _ _ a' =>
      rw [h] at h'
      cases h'
      cases e
      rw [TrAll.det a a']
    | _ => cases e
theorem TrAll.det : ∀ {vs : List V} {ts : List OT} {ps qs : List Addr}, TrAll K F H vs ts ps → TrAll K2 F2 H vs ts qs → ps = qs
  | _, _, _, _, .nil, .nil => rfl
  | _, _, _, _, .cons r s, .cons r' s' => by rw [Tr.det r r', TrAll.det s s']
end
theorem Tr.ext (x : Ext F H F' H') {v : V} {t : OT} {ps : List Addr} (a : Tr K F H v t ps) : Tr K F' H' v t ps :=
  a.move (L := ps) x.fr (fun b f ⟨o, h⟩ _ => by
    cases e : F' b with
    | none => rfl
    | some u =>
      rcases x.new _ _ e with z | z
      · rw [f] at z; cases z
      · rw [h] at z; cases z) (fun b hb => by
    obtain ⟨_, o, h⟩ := a.there b hb
    rw [h]; exact x.same _ _ h) fun b hb => hb
theorem Tr.other {ps : List Addr} (ke : ∀ b ∈ ps, H' b = H b) {v : V} {t : OT} {ps' : List Addr} (a : Tr K F H v t ps') (s : ∀ b ∈ ps', b ∈ ps) : Tr K F H' v t ps' := a.move (L := ps) (Same.refl _) (fun b f _ _ => f) (fun b hb => ke b hb) s
theorem Tr.cold (fr : Same F F') {v : V} {t : OT} {ps : List Addr} (a : Tr K F H v t ps) (aw : ∀ b ∈ ps, F' b = none) : Tr K F' H v t ps := a.move (L := ps) fr (fun b _ _ hb => aw b hb) (fun b _ => rfl) fun b hb => hb
end
inductive RV where
  /-- data that nobody changes -/
  | fz (d : PyData)
  /-- a list, a dict, that this def may still change -/
  | ol (ds : List PyData)
  | od (kvs : List (PyData × PyData))
  /-- a list of lists, all of which this def may still change -/
  | on (dss : List (List PyData))
  /-- what a def ends with that raises -/
  | xr (d : PyData)
  /-- a tree, all of it owned; pw: ways to places that are to stay as they are -/
  | tr (pw : List (List Stp)) (t : OT)
  /-- the place on the way p in the tree of slot i -/
  | al (i : Nat) (p : List Stp)
abbrev Ev := List (Option RV)
def RV.d : RV → PyData
  | .fz d => d
  | .ol ds => .list ds
  | .od kvs => .dict kvs
  | .on dss => .list (dss.map PyData.list)
  | .xr _ => .dict [(.none, .none)]
  | .tr _ _ => .dict [(.none, .none)]
  | .al _ _ => .dict [(.none, .none)]
def RV.fzD : RV → PyData
  | .tr _ t => t.d
  | r => r.d
def RV.pl : RV → Bool
  | .tr _ _ => false
  | .al _ _ => false
  | _ => true
def RV.frzOk : RV → Bool
  | .tr _ t => t.noOb
  | .al _ _ => false
  | _ => true
def RV.isX : RV → Bool
  | .xr _ => true
  | _ => false
inductive InAll (K : PySem.W.Frag) (F H : Hp) : List Addr → List (List PyData) → Prop
  | nil : InAll K F H [] []
  | cons {q : Addr} {qs : List Addr} {vs : List V} {ds : List PyData} {dss : List (List PyData)} : F q = none → H q = some (.lst vs) → RpAll K F vs ds → InAll K F H qs dss → InAll K F H (q :: qs) (ds :: dss)
inductive Own (K : PySem.W.Frag) (F H : Hp) (p : Addr) : HO → RV → Prop
  | lst {vs : List V} {ds : List PyData} : RpAll K F vs ds → Own K F H p (.lst vs) (.ol ds)
  | dK {o : Obj} {kvs : List (Int × V)} {ds : List PyData} : RpAll K F (kvs.map fun x => x.2) ds → Own K F H p (dkO p o kvs) (.od (dkD (kvs.map fun x => x.1) ds))
  | dT {o : Obj} {kvs : TK} {ds : List PyData} : KeysN K F kvs → RpAll K F (kvs.map fun x => x.2.2) ds → Own K F H p (dtO p o kvs) (.od (dtD (kvs.map fun x => x.1) ds))
  | on {qs : List Addr} {dss : List (List PyData)} : InAll K F H qs dss → qs.Nodup → (∀ q ∈ qs, q ≠ p) → Own K F H p (.lst (qs.map V.ref)) (.on dss)
inductive View (K : PySem.W.Frag) (F H : Hp) : V → RV → Prop
  | fz {v : V} {d : PyData} : Rp K F v d → View K F H v (.fz d)
  | own {p : Addr} {o : HO} {r : RV} : F p = none → H p = some o → Own K F H p o r → View K F H (.ref p) r
def Foot (H : Hp) (r : RV) (v : V) (p : Addr) : Prop := match r with
  | .fz _ => False
  | .on _ => v = .ref p ∨ ∃ q vs, v = .ref q ∧ H q = some (.lst vs) ∧ V.ref p ∈ vs
  | .tr _ t => ∃ (K : PySem.W.Frag) (F : Hp) (ps : List Addr), Tr K F H v t ps ∧ p ∈ ps
  | .al _ _ => False
  | _ => v = .ref p
theorem foot_tr {K : PySem.W.Frag} {F H : Hp} {v : V} {n : List (List Stp)} {t : OT} {ps : List Addr} (a : Tr K F H v t ps) {b : Addr} : Foot H (.tr n t) v b ↔ b ∈ ps :=
  ⟨fun ⟨_, _, _, a', hb⟩ => by rw [a.det a']; exact hb, fun hb => ⟨_, _, _, a, hb⟩⟩
def New (r : RV) (v : V) (H H' : Hp) : Prop := ∀ p, Foot H' r v p → H p = none
open Classical in
noncomputable def coldF (F H : Hp) (P : Addr → Prop) : Hp := fun b => if P b then H b else F b
def RV.isOwn : RV → Bool
  | .fz _ => false
  | _ => true
theorem View.pl {K : PySem.W.Frag} {F H : Hp} {v : V} {r : RV} (a : View K F H v r) : r.pl = true := by
  cases a with
  | fz _ => rfl
  | own _ _ q => cases q <;> rfl
section
variable {K : PySem.W.Frag} {F H F' H' F2 H2 : Hp} {v : V} {r : RV} {o : HO}
theorem Ext.away (x : Ext F H F' H') {p : Addr} {o : HO} (f : F p = none) (h : H p = some o) : F' p = none := by
  cases e : F' p with
  | none => rfl
  | some u =>
    rcases x.new _ _ e with z | z
    · rw [f] at z; cases z
    · rw [h] at z; cases z
theorem InAll.ext (x : Ext F H F' H') : ∀ {qs : List Addr} {dss : List (List PyData)}, InAll K F H qs dss → InAll K F' H' qs dss
  | _, _, .nil => .nil
  | _, _, .cons f h ra t => .cons (x.away f h) (x.same _ _ h) (ra.mono x.fr) (InAll.ext x t)
theorem InAll.rp (s : Same F H) : ∀ {qs : List Addr} {dss : List (List PyData)}, InAll K F H qs dss → RpAll K H (qs.map V.ref) (dss.map PyData.list)
  | _, _, .nil => .nil
  | _, _, .cons f h ra t => .cons (.lst h (ra.mono s)) (InAll.rp s t)
theorem InAll.mem : ∀ {qs : List Addr} {dss : List (List PyData)}, InAll K F H qs dss → ∀ q ∈ qs, F q = none ∧ ∃ vs, H q = some (.lst vs)
  | _, _, .nil, q, hq => absurd hq (by simp)
  | _, _, .cons f h ra t, q, hq => by
    rcases List.mem_cons.mp hq with rfl | hq
    · exact ⟨f, _, h⟩
    · exact InAll.mem t q hq
theorem InAll.other {p : Addr} {o : HO} : ∀ {qs : List Addr} {dss : List (List PyData)}, InAll K F H qs dss → (∀ q ∈ qs, q ≠ p) → InAll K F (L2.upd H p o) qs dss
  | _, _, .nil, _ => .nil
  | _, _, .cons f h ra t, n => .cons f (by rw [upd_ne (n _ (by simp))]; exact h) ra (InAll.other t fun q hq => n q (by simp [hq]))
theorem Own.ext {p : Addr} (x : Ext F H F' H') (q : Own K F H p o r) : Own K F' H' p o r := by
  cases q with
  | lst a => exact .lst (a.mono x.fr)
  | dK a => exact .dK (a.mono x.fr)
  | dT kn a => exact .dT (kn.mono x.fr) (a.mono x.fr)
  | on a nd np => exact .on (a.ext x) nd np
theorem Own.isOwn {p : Addr} (x : Own K F H p o r) : r.isOwn = true := by cases x <;> rfl
def RV.flat : RV → Bool
  | .on _ => false
  | .tr _ _ => false
  | .al _ _ => false
  | _ => true
theorem Own.rp {p : Addr} (x : Own K F H p o r) (hf : r.flat = true) (e : Same F F') (h : F' p = some o) : Rp K F' (.ref p) r.d := by
  cases x with
  | lst a => exact .lst h (a.mono e)
  | dK a => exact .dK h (a.mono e)
  | dT kn a => exact .dT h (kn.mono e) (a.mono e)
  | on _ _ _ => cases hf
theorem Own.rpH {p : Addr} (x : Own K F H p o r) (s : Same F H) (h : H p = some o) : Rp K H (.ref p) r.d := by
  cases x with
  | lst a => exact .lst h (a.mono s)
  | dK a => exact .dK h (a.mono s)
  | dT kn a => exact .dT h (kn.mono s) (a.mono s)
  | on a nd _ => exact .lst h (a.rp s)
theorem View.ext (x : Ext F H F' H') (a : View K F H v r) : View K F' H' v r := by
  cases a with
  | fz q => exact .fz (q.mono x.fr)
  | own f h q => exact .own (x.away f h) (x.same _ _ h) (q.ext x)
theorem View.rp (s : Same F H) (a : View K F H v r) : Rp K H v r.d := by
  cases a with
  | fz q => exact q.mono s
  | own f h q => exact q.rpH s h
def NoTu (F F1 : Hp) : Prop := ∀ b o, F1 b = some o → F b = some o ∨ ∀ ob xs, o ≠ .frz ob (.tup xs)
theorem NoTu.refl (F : Hp) : NoTu F F := fun _ _ e => .inl e
theorem View.lendZ {Z : Prop} {F1 : Hp} (s1 : Same F F1) (s2 : Same F1 H) (n : Z → NoTu F F1) (a : View K F H v r) : ∃ F2, (Same F1 F2 ∧ ∀ b o, F2 b = some o → F1 b = some o ∨ Foot H r v b) ∧ Same F2 H ∧ (Z → NoTu F F2) ∧ Rp K F2 v r.d := by
  classical
  let P : Addr → Prop := Foot H r v
  have at_ : ∀ b, P b → coldF F1 H P b = H b := fun b hb => if_pos hb
  have fr : Same F1 (coldF F1 H P) := fun b o e => by
    unfold coldF
    split
    · exact s2 _ _ e
    · exact e
  have sub : Same (coldF F1 H P) H := fun b o e => by
    unfold coldF at e
    split at e
    · exact e
    · exact s2 _ _ e
  have fr0 := s1.trans fr
  have nt : (∀ b o, P b → H b = some o → ∀ ob xs, o ≠ .frz ob (.tup xs)) → Z → NoTu F (coldF F1 H P) := fun q hz b o e => by
    unfold coldF at e
    split at e
    · rename_i hb
      exact .inr (q b o hb e)
    · exact n hz b o e
  refine ⟨coldF F1 H P, ⟨fr, fun b o e => by
    unfold coldF at e
    split at e
    · exact .inr ‹_›
    · exact .inl e⟩, sub, ?_, ?_⟩
  · cases a with
    | fz q => exact nt fun b o hb => hb.elim
    | own f e q =>
      rename_i p o
      cases q with
      | lst a => exact nt fun b o hb h => by cases (show V.ref p = V.ref b from hb); rw [e] at h; cases h; intro _ _ z; cases z
      | dK a => exact nt fun b o hb h => by cases (show V.ref p = V.ref b from hb); rw [e] at h; cases h; intro _ _ z; cases z
      | dT _ a => exact nt fun b o hb h => by cases (show V.ref p = V.ref b from hb); rw [e] at h; cases h; intro _ _ z; cases z
      | on a nd np =>
        exact nt fun b o hb h => by
          rcases (show V.ref p = V.ref b ∨ _ from hb) with hb | ⟨q, vs, hq, h1, h2⟩
          · cases hb; rw [e] at h; cases h; intro _ _ z; cases z
          · cases hq
            rw [e] at h1
            cases h1
            obtain ⟨q2, hq2, y4⟩ := List.mem_map.mp h2
            cases y4
            obtain ⟨_, ws, h3⟩ := a.mem _ hq2
            rw [h3] at h
            cases h
            intro _ _ z
            cases z
  · cases a with
    | fz q => exact q.mono fr0
    | own f e q =>
      rename_i p o
      cases q with
      | lst a => exact .lst (by rw [at_ p rfl]; exact e) (a.mono fr0)
      | dK a => exact .dK (by rw [at_ p rfl]; exact e) (a.mono fr0)
      | dT kn a => exact .dT (by rw [at_ p rfl]; exact e) (kn.mono fr0) (a.mono fr0)
      | on a nd np =>
        have : ∀ {qs : List Addr} {dss : List (List PyData)}, InAll K F H qs dss → (∀ q ∈ qs, P q) → RpAll K (coldF F1 H P) (qs.map V.ref) (dss.map PyData.list) := fun {qs} => by
          induction qs with
          | nil => intro dss z _; cases z; exact .nil
          | cons q qs ih =>
            intro dss z n
            cases z with
            | cons f2 h2 ra t2 => exact .cons (.lst (by rw [at_ q (n q (by simp))]; exact h2) (ra.mono fr0)) (ih t2 fun q' h' => n q' (by simp [h']))
        exact .lst (by rw [at_ p (.inl rfl)]; exact e) (this a fun q hq => .inr ⟨p, _, rfl, e, List.mem_map.mpr ⟨q, hq, rfl⟩⟩)
theorem View.lendX {F1 : Hp} (s1 : Same F F1) (s2 : Same F1 H) (n : NoTu F F1) (a : View K F H v r) : ∃ F2, (Same F1 F2 ∧ ∀ b o, F2 b = some o → F1 b = some o ∨ Foot H r v b) ∧ Same F2 H ∧ NoTu F F2 ∧ Rp K F2 v r.d := by
  obtain ⟨F2, h1, h2, h3, h4⟩ := a.lendZ (Z := True) s1 s2 fun _ => n
  exact ⟨F2, h1, h2, h3 trivial, h4⟩
theorem View.lend {F1 : Hp} (s1 : Same F F1) (s2 : Same F1 H) (n : NoTu F F1) (a : View K F H v r) : ∃ F2, Same F1 F2 ∧ Same F2 H ∧ NoTu F F2 ∧ Rp K F2 v r.d := by
  obtain ⟨F2, ⟨h1, _⟩, h2, h3, h4⟩ := a.lendX s1 s2 n
  exact ⟨F2, h1, h2, h3, h4⟩
mutual
def flatD : PyData → Bool
  | .tuple ds => flatAll ds
  | .list _ => false
  | .dict _ => false
  | _ => true
def flatAll : List PyData → Bool
  | [] => true
  | d :: ds => flatD d && flatAll ds
end
mutual
theorem Rp.flat (t : ∀ a xs, TupN K F a xs → TupN K F' a xs) : ∀ {v : V} {d : PyData}, Rp K F v d → flatD d = true → Rp K F' v d
  | _, _, .non, _ => .non
  | _, _, .bl b, _ => .bl b
  | _, _, .int i, _ => .int i
  | _, _, .str x, _ => .str x
  | _, _, .lst h r, e => by simp [flatD] at e
  | _, _, .scr h, e => by simp [flatD] at e
  | _, _, .tup h r, e => .tup (t _ _ h) (RpAll.flat t r (by simpa [flatD] using e))
  | _, _, .dK h r, e => by simp [flatD] at e
  | _, _, .dT h kn r, e => by simp [flatD] at e
  | _, _, .xc0 h q, e => by simp [flatD] at e
  | _, _, .xc1 h q g r, e => by simp [flatD] at e
  | _, _, .ins h g q r, e => by simp [flatD] at e
theorem RpAll.flat (t : ∀ a xs, TupN K F a xs → TupN K F' a xs) : ∀ {vs : List V} {ds : List PyData}, RpAll K F vs ds → flatAll ds = true → RpAll K F' vs ds
  | _, _, .nil, _ => .nil
  | _, _, .cons r s, e => by
    simp only [flatAll, Bool.and_eq_true] at e
    exact .cons (Rp.flat t r e.1) (RpAll.flat t s e.2)
end
theorem flat_back {F1 : Hp} {d : PyData} (x : Ext F H F' H') (s1 : Same F' F1) (n : NoTu F' F1) (y : Ext F1 H' F2 H2) (r : Rp K F2 v d) (e : flatD d = true) : ∃ F3, Ext F H F3 H2 ∧ Rp K F3 v d := by
  classical
  let F3 : Hp := fun b => if F' b ≠ none ∨ H' b = none then F2 b else none
  have g : ∀ b, (F' b ≠ none ∨ H' b = none) → F3 b = F2 b := fun b h => if_pos h
  have k : ∀ b o, F3 b = some o → (F' b ≠ none ∨ H' b = none) ∧ F2 b = some o := fun b o h => by
    by_cases q : F' b ≠ none ∨ H' b = none
    · exact ⟨q, by rw [← g b q]; exact h⟩
    · have : F3 b = none := if_neg q
      rw [this] at h; cases h
  refine ⟨F3, ⟨fun b o h => ?_, fun b o h => y.sub _ _ (k b o h).2, x.same.trans y.same, fun b o h => ?_⟩, Rp.flat (fun a xs t => ?_) r e⟩
  · have h1 := x.fr _ _ h
    rw [g b (.inl (by rw [h1]; exact fun z => nomatch z))]
    exact y.fr _ _ (s1 _ _ h1)
  · obtain ⟨q, h2⟩ := k b o h
    rcases q with q | q
    · cases e1 : F' b with
      | none => exact absurd e1 q
      | some u =>
        have := y.fr _ _ (s1 _ _ e1)
        rw [h2] at this
        cases this
        exact x.new _ _ e1
    · exact .inr (x.same.free q)
  · rcases t with ⟨o, h, q⟩ | t
    · refine .inl ⟨o, ?_, q⟩
      rw [g a ?_]
      · exact h
      · rcases y.new _ _ h with z | z
        · rcases n _ _ z with z | z
          · exact .inl (by rw [z]; exact fun z => nomatch z)
          · exact absurd rfl (z o xs)
        · exact .inr z
    · exact .inr t
theorem View.freeze (x : Ext F H F' H') (a : View K F' H' v r) (n : New r v H H') : ∃ F2, Ext F H F2 H' ∧ Rp K F2 v r.d := by
  classical
  let P : Addr → Prop := Foot H' r v
  have at_ : ∀ b, P b → coldF F' H' P b = H' b := fun b hb => if_pos hb
  have fr : Same F' (coldF F' H' P) := fun b o e => by
    unfold coldF
    split
    · exact x.sub _ _ e
    · exact e
  refine ⟨coldF F' H' P, ⟨x.fr.trans fr, fun b o e => ?_, x.same, fun b o e => ?_⟩, ?_⟩
  · unfold coldF at e
    split at e
    · exact e
    · exact x.sub _ _ e
  · unfold coldF at e
    split at e
    · rename_i hb
      exact .inr (n b hb)
    · exact x.new b o e
  · cases a with
    | fz q => exact q.mono fr
    | own f e q =>
      rename_i p o
      cases q with
      | lst a => exact .lst (by rw [at_ p rfl]; exact e) (a.mono fr)
      | dK a => exact .dK (by rw [at_ p rfl]; exact e) (a.mono fr)
      | dT kn a => exact .dT (by rw [at_ p rfl]; exact e) (kn.mono fr) (a.mono fr)
      | on a nd np =>
        have : ∀ {qs : List Addr} {dss : List (List PyData)}, InAll K F' H' qs dss → (∀ q ∈ qs, P q) → RpAll K (coldF F' H' P) (qs.map V.ref) (dss.map PyData.list) := fun {qs} => by
          induction qs with
          | nil => intro dss z _; cases z; exact .nil
          | cons q qs ih =>
            intro dss z n
            cases z with
            | cons f2 h2 ra t2 => exact .cons (.lst (by rw [at_ q (n q (by simp))]; exact h2) (ra.mono fr)) (ih t2 fun q' h' => n q' (by simp [h']))
        exact .lst (by rw [at_ p (.inl rfl)]; exact e) (this a fun q hq => .inr ⟨p, _, rfl, e, List.mem_map.mpr ⟨q, hq, rfl⟩⟩)
end
end Mn
namespace Mn
open PySem PySem.Spec PyProof.Rows L2
def pickX {α : Type} (xs : List α) (lo st : Int) : List α := (sliceRange (sliceBounds (some lo) none (some st) xs.length).1 (sliceBounds (some lo) none (some st) xs.length).2.1 (sliceBounds (some lo) none (some st) xs.length).2.2).filterMap (fun k => xs[k]?)
end Mn
namespace Mn
open PySem PySem.Spec PyProof.Rows L2
def stepK : Kd → Stp → Option Nat
  | .ls, .ix k => some k
  | .tp, .ix k => some k
  | .ob _ fs, .fl f => fs.findIdx? fun g => g == f
  | _, _ => none
def OT.sub (t : OT) : List Stp → Option OT
  | [] => some t
  | s :: r => match t with
    | .nd k ts => (stepK k s).bind fun j => (ts[j]?).bind fun u => u.sub r
    | _ => none
def OT.put (t : OT) : List Stp → OT → OT
  | [], u => u
  | s :: r, u => match t with
    | .nd k ts => match stepK k s with
      | some j => match ts[j]? with
        | some x => .nd k (ts.set j (x.put r u))
        | none => t
      | none => t
    | _ => t
def OT.isNd : OT → Bool
  | .lf _ => false
  | _ => true
def stepH (H : Hp) : V → Stp → Option V
  | .ref p, .ix k => match H p with
    | some (.lst vs) => vs[k]?
    | some (.frz _ (.tup vs)) => vs[k]?
    | _ => none
  | .ref p, .fl f => match H p with
    | some (.ins _ _ fs) => fs.lookup f
    | _ => none
  | _, _ => none
def walkH (H : Hp) (v : V) : List Stp → Option V
  | [] => some v
  | s :: r => (stepH H v s).bind fun u => walkH H u r
theorem walkH_append {H : Hp} : ∀ {p q : List Stp} {v : V}, walkH H v (p ++ q) = (walkH H v p).bind fun u => walkH H u q
  | [], q, v => rfl
  | s :: r, q, v => by
    show (stepH H v s).bind _ = ((stepH H v s).bind _).bind _
    rw [Option.bind_assoc]
    congr 1
    funext u
    exact walkH_append
theorem OT.sub_append : ∀ {p q : List Stp} {t : OT}, t.sub (p ++ q) = (t.sub p).bind fun u => u.sub q
  | [], q, t => rfl
  | s :: r, q, t => by
    cases t with
    | nd k ts =>
      show (stepK k s).bind (fun j => (ts[j]?).bind fun u => u.sub (r ++ q)) = ((stepK k s).bind fun j => (ts[j]?).bind fun u => u.sub r).bind fun u => u.sub q
      rw [Option.bind_assoc]
      congr 1
      funext j
      rw [Option.bind_assoc]
      congr 1
      funext u
      exact OT.sub_append
    | _ => rfl
theorem lookup_at {f : Str} : ∀ {fvs : List (Str × V)} {j : Nat}, (fvs.map fun x => x.1).findIdx? (fun g => g == f) = some j → ∃ v, fvs.lookup f = some v ∧ (fvs.map fun x => x.2)[j]? = some v
  | [], j, h => by simp at h
  | (g, v) :: r, j, h => by
    rw [List.map_cons, List.findIdx?_cons] at h
    by_cases e : (g == f) = true
    · have e2 : (f == g) = true := by rw [eq_of_beq e]; exact beq_self_eq_true _
      rw [if_pos e] at h
      cases h
      exact ⟨v, by rw [List.lookup_cons, e2], rfl⟩
    · have e2 : (f == g) = false := by
        cases q : f == g with
        | false => rfl
        | true => exact absurd (by rw [eq_of_beq q]; exact beq_self_eq_true _) e
      rw [if_neg e] at h
      obtain ⟨j', h1, rfl⟩ := Option.map_eq_some_iff.mp h
      obtain ⟨w, h2, h3⟩ := lookup_at h1
      exact ⟨w, by rw [List.lookup_cons, e2]; exact h2, by rw [List.map_cons, List.getElem?_cons_succ]; exact h3⟩
section
variable {K : PySem.W.Frag} {F H H' : Hp}
theorem TrAll.nth : ∀ {vs : List V} {ts : List OT} {ps : List Addr} {j : Nat} {t : OT}, TrAll K F H vs ts ps → ts[j]? = some t → ∃ v ps1 ps' ps2, vs[j]? = some v ∧ Tr K F H v t ps' ∧ ps = ps1 ++ ps' ++ ps2 ∧
    (∀ (H' : Hp) (u : OT) (qs : List Addr), (∀ b, b ∈ ps1 ++ ps2 → H' b = H b) → Tr K F H' v u qs → TrAll K F H' vs (ts.set j u) (ps1 ++ qs ++ ps2)) ∧
    (∀ (H' : Hp) (w : V) (u : OT) (qs : List Addr), (∀ b, b ∈ ps1 ++ ps2 → H' b = H b) → Tr K F H' w u qs → TrAll K F H' (vs.set j w) (ts.set j u) (ps1 ++ qs ++ ps2))
  | _, _, _, j, t, .nil, h => by simp at h
  | _, _, _, 0, t, .cons (v := v) (vs := vs) (ts := ts) (ps := ps) (qs := qs) r s, h => by
    simp at h
    subst h
    refine ⟨v, [], ps, qs, rfl, r, by simp, fun H' u qs' ke a => ?_, fun H' w u qs' ke a => ?_⟩
    · exact .cons a (s.move (L := qs) (Same.refl _) (fun b f _ _ => f) (fun b hb => ke b (by simpa using hb)) fun b hb => hb)
    · exact .cons a (s.move (L := qs) (Same.refl _) (fun b f _ _ => f) (fun b hb => ke b (by simpa using hb)) fun b hb => hb)
  | _, _, _, j + 1, t, .cons (v := v) (vs := vs) (ts := ts) (ps := ps) (qs := qs) r s, h => by
    obtain ⟨w, ps1, ps', ps2, h1, h2, h3, h4, h5⟩ := TrAll.nth (j := j) s (by simpa using h)
    refine ⟨w, ps ++ ps1, ps', ps2, by simpa using h1, h2, by rw [h3]; simp, fun H' u qs' ke a => ?_, fun H' x u qs' ke a => ?_⟩
    · rw [List.set_cons_succ]
      have := h4 H' u qs' (fun b hb => ke b (by simp at hb ⊢; rcases hb with z | z <;> simp [z])) a
      rw [show ps ++ ps1 ++ qs' ++ ps2 = ps ++ (ps1 ++ qs' ++ ps2) by simp]
      exact .cons (r.move (L := ps) (Same.refl _) (fun b f _ _ => f) (fun b hb => ke b (by simp [hb])) fun b hb => hb) this
    · rw [List.set_cons_succ, List.set_cons_succ]
      have := h5 H' x u qs' (fun b hb => ke b (by simp at hb ⊢; rcases hb with z | z <;> simp [z])) a
      rw [show ps ++ ps1 ++ qs' ++ ps2 = ps ++ (ps1 ++ qs' ++ ps2) by simp]
      exact .cons (r.move (L := ps) (Same.refl _) (fun b f _ _ => f) (fun b hb => ke b (by simp [hb])) fun b hb => hb) this
theorem Tr.step {v : V} {k : Kd} {ts : List OT} {ps : List Addr} {s : Stp} {j : Nat} {t : OT} (a : Tr K F H v (.nd k ts) ps) (hs : stepK k s = some j) (ht : ts[j]? = some t) :
    ∃ w ps1 ps' ps2, stepH H v s = some w ∧ Tr K F H w t ps' ∧ ps = ps1 ++ ps' ++ ps2 ∧ (∀ p, v = .ref p → p ∈ ps1) ∧
      (∀ (H' : Hp) (u : OT) (qs : List Addr), (∀ b, b ∈ ps1 ++ ps2 → H' b = H b) → Tr K F H' w u qs → Tr K F H' v (.nd k (ts.set j u)) (ps1 ++ qs ++ ps2) ∧ stepH H' v s = some w) := by
  generalize e : OT.nd k ts = t0 at a
  cases a with
  | lf _ => cases e
  | dk _ _ _ => cases e
  | @ls p vs ts' ps f h a =>
    cases e
    cases s with
    | fl f => cases hs
    | ix i =>
      cases hs
      obtain ⟨w, ps1, ps', ps2, h1, h2, h3, h4, _⟩ := a.nth ht
      refine ⟨w, p :: ps1, ps', ps2, ?_, h2, by rw [h3]; simp, fun p' e => by cases e; simp, fun H' u qs ke b => ?_⟩
      · show (match H p with | some (.lst vs) => vs[j]? | some (.frz _ (.tup vs)) => vs[j]? | _ => none) = _
        rw [h]; exact h1
      · have e1 : H' p = some (.lst vs) := by rw [ke p (by simp)]; exact h
        refine ⟨.ls f e1 (h4 H' u qs (fun b hb => ke b (by simp at hb ⊢; exact .inr hb)) b), ?_⟩
        show (match H' p with | some (.lst vs) => vs[j]? | some (.frz _ (.tup vs)) => vs[j]? | _ => none) = _
        rw [e1]; exact h1
  | @tp p o vs ts' ps f h g a =>
    cases e
    cases s with
    | fl f => cases hs
    | ix i =>
      cases hs
      obtain ⟨w, ps1, ps', ps2, h1, h2, h3, h4, _⟩ := a.nth ht
      refine ⟨w, p :: ps1, ps', ps2, ?_, h2, by rw [h3]; simp, fun p' e => by cases e; simp, fun H' u qs ke b => ?_⟩
      · show (match H p with | some (.lst vs) => vs[j]? | some (.frz _ (.tup vs)) => vs[j]? | _ => none) = _
        rw [h]; exact h1
      · have e1 : H' p = some (.frz o (.tup vs)) := by rw [ke p (by simp)]; exact h
        refine ⟨.tp f e1 g (h4 H' u qs (fun b hb => ke b (by simp at hb ⊢; exact .inr hb)) b), ?_⟩
        show (match H' p with | some (.lst vs) => vs[j]? | some (.frz _ (.tup vs)) => vs[j]? | _ => none) = _
        rw [e1]; exact h1
  | @ob p C dx nm fvs ts' ps f f2 h h2 c a =>
    cases e
    cases s with
    | ix i => cases hs
    | fl f0 =>
      obtain ⟨w, l1, l2⟩ := lookup_at hs
      obtain ⟨w', ps1, ps', ps2, h1, h3, h4, h5, _⟩ := a.nth ht
      rw [l2] at h1
      cases h1
      refine ⟨w, p :: dx :: ps1, ps', ps2, ?_, h3, by rw [h4]; simp, fun p' e => by cases e; simp, fun H' u qs ke b => ?_⟩
      · show (match H p with | some (.ins _ _ fs) => fs.lookup f0 | _ => none) = _
        rw [h]; exact l1
      · have e1 : H' p = some (.ins C dx fvs) := by rw [ke p (by simp)]; exact h
        have e2 : H' dx = some (.own p) := by rw [ke dx (by simp)]; exact h2
        refine ⟨.ob f f2 e1 e2 c (h5 H' u qs (fun b hb => ke b (by simp at hb ⊢; exact .inr (.inr hb))) b), ?_⟩
        show (match H' p with | some (.ins _ _ fs) => fs.lookup f0 | _ => none) = _
        rw [e1]; exact l1
theorem Tr.at_ : ∀ {w : List Stp} {v : V} {t u : OT} {ps : List Addr}, Tr K F H v t ps → t.sub w = some u → ∃ x ps1 ps' ps2, walkH H v w = some x ∧ Tr K F H x u ps' ∧ ps = ps1 ++ ps' ++ ps2 ∧
    ∀ (H' : Hp) (u' : OT) (qs : List Addr), (∀ b, b ∈ ps1 ++ ps2 → H' b = H b) → Tr K F H' x u' qs → Tr K F H' v (t.put w u') (ps1 ++ qs ++ ps2) ∧ walkH H' v w = some x
  | [], v, t, u, ps, a, h => by
    cases h
    exact ⟨v, [], ps, [], rfl, a, by simp, fun H' u' qs _ b => ⟨by
      have e : t.put [] u' = u' := rfl
      rw [e, List.nil_append, List.append_nil]
      exact b, rfl⟩⟩
  | s :: r, v, t, u, ps, a, h => by
    cases t with
    | lf d => cases h
    | dk ks ds => cases h
    | nd k ts =>
      have h : (stepK k s).bind (fun j => (ts[j]?).bind fun u => u.sub r) = some u := h
      obtain ⟨j, h1, h⟩ := Option.bind_eq_some_iff.mp h
      obtain ⟨t', h2, h⟩ := Option.bind_eq_some_iff.mp h
      obtain ⟨y, p1, p', p2, e1, e2, e3, e4, e5⟩ := a.step h1 h2
      obtain ⟨x, q1, q', q2, g1, g2, g3, g4⟩ := Tr.at_ e2 h
      refine ⟨x, p1 ++ q1, q', q2 ++ p2, ?_, g2, by rw [e3, g3]; simp, fun H' u' qs ke b => ?_⟩
      · show (stepH H v s).bind _ = _
        rw [e1]; exact g1
      · obtain ⟨f1, f2⟩ := g4 H' u' qs (fun b hb => ke b (by simp at hb ⊢; rcases hb with z | z <;> simp [z])) b
        obtain ⟨f3, f4⟩ := e5 H' _ _ (fun b hb => ke b (by simp at hb ⊢; rcases hb with z | z <;> simp [z])) f1
        refine ⟨?_, ?_⟩
        · have : (OT.nd k ts).put (s :: r) u' = .nd k (ts.set j (t'.put r u')) := by
            show (match stepK k s with | some j => (match ts[j]? with | some x => OT.nd k (ts.set j (x.put r u')) | none => OT.nd k ts) | none => OT.nd k ts) = _
            rw [h1]
            dsimp only
            rw [h2]
          rw [this, show p1 ++ q1 ++ qs ++ (q2 ++ p2) = p1 ++ (q1 ++ qs ++ q2) ++ p2 by simp]
          exact f3
        · show (stepH H' v s).bind _ = _
          rw [f4]; exact f2
end
end Mn
namespace Mn
open PySem PySem.Spec PyProof.Rows L2
inductive Bo where
  | add | sub | mul | fdiv | mod | pow
inductive Co where
  | eq | ne | lt | le | gt | ge | isN | noN | inn | nin
inductive Ty where
  | int | bool | str | list | tuple | dict
inductive Bi where
  | len | sum | min2 | max2 | minL | maxL | any | all | int | str | tup | list | sorted | isI (t : Ty)
inductive Mt where
  | join | split | index | count | get | partition
inductive Tg where
  | nm (i : Nat) | tp (is : List Nat)
inductive Pth where
  | nm (i : Nat)
  | iv (p : Pth) (i : Nat)
  | ic (p : Pth) (n : Int)
  | ia (p : Pth) (i : Nat) (n : Int)
  | fl (p : Pth) (f : Str)
mutual
inductive Ex where
  | var (i : Nat)
  | int (i : Int)
  | str (x : Str)
  | bl (b : Bool)
  | non
  | glb (g : Nat)
  | bin (o : Bo) (a b : Ex)
  | neg (a : Ex)
  | not (a : Ex)
  | one (a : Ex)
  | and (a b : Ex)
  | or (a b : Ex)
  | cmp (o : Co) (a b : Ex)
  | chn (o o' : Co) (a b c : Ex)
  | chn3 (o o' o2 : Co) (a b c d : Ex)
  | dsx (kvs : List (Str × Str)) (k : Ex)
  | dsv (k1 k2 : Str) (a b k : Ex)
  | isx (a : Ex) (D : Str)
  | fld (a : Ex) (f : Str)
  | mkx (C : Str) (e : Ex)
  | gdx (x : Str) (k : Ex)
  | gin (x : Str) (k : Ex) (neg : Bool)
  | lenD (i : Nat)
  | lenI (i : Nat) (k : Ex)
  | rvt (a : Ex)
  | jrv (a b : Ex)
  | rvl (a : Ex)
  | sls (a : Ex) (lo st : Int)
  | ite (c a b : Ex)
  | tup (es : Exs)
  | lst (es : Exs)
  | call (f : Nat) (es : Exs)
  | bi (b : Bi) (es : Exs)
  | mt (m : Mt) (a : Ex) (es : Exs)
  | idx (a i : Ex)
  | slc (a lo hi : Ex)
  | emp
  | comp (e : Ex) (tg : Tg) (it : Itr) (c : Ex) (own : List Nat)
  /-- an empty dict whose keys will be ints; tuples of ints -/
  | dnK
  | dnT
  /-- dict(zip(a, b)) -/
  | dzp (a b : Ex)
  /-- sum(a.values()) -/
  | sumv (a : Ex)
  /-- what stands at a place in a tree; how many -/
  | pth (p : Pth)
  | lenP (p : Pth)
  /-- a whole tree, lent to a call -/
  | lnd (i : Nat)
  /-- instances that nobody changes: isinstance(x, C); x.f; x.m(..); C(..) -/
  | isj (a : Ex) (D : Str)
  | fjd (a : Ex) (f : Str)
  | mtj (a : Ex) (m : Str) (es : Exs)
  | mkj (f : Nat) (es : Exs)
  /-- a dict with one pair, whose key is a tuple of ints -/
  | dT1 (k v : Ex)
inductive Exs where
  | nil
  | cons (e : Ex) (es : Exs)
inductive Itr where
  | ex (e : Ex)
  | r1 (a : Ex)
  | r2 (a b : Ex)
  | r3 (a b c : Ex)
  | zip (a b : Ex)
  | zip3 (a b c : Ex)
  | en (a : Ex)
  | rv (a : Ex)
  | its (e : Ex)
  | vals (e : Ex)
  | exD (i : Nat) (k : Ex)
  | zipD (i : Nat) (k : Ex) (j : Nat) (l : Ex)
end
inductive Rbs where
  | nil
  | st (k e : Ex) (r : Rbs)
  | ifs (t : Ex) (a r : Rbs)
inductive Ars where
  | tree (i : Nat) (es : Exs)
  | cons (e : Ex) (r : Ars)
inductive Prs where
  | nil
  | e (a : Ex) (r : Prs)
  | v (i : Nat) (r : Prs)
inductive Tb where
  | asg (i f : Nat) (es : Exs)
  | drp (f : Nat) (es : Exs)
  | ifs (t : Ex) (a b : Tb)
  | skip
inductive Tt where
  | ex (e : Ex)
  | cq (o : Co) (f : Nat) (a : Ars) (e : Ex)
  | cb (f : Nat) (a : Ars)
  /-- all([f(..) for .. in an own list]) -/
  | alT (i : Nat) (tg : Tg) (f : Nat) (a : Ars) (own : List Nat)
  | not (a : Tt)
  | one (a : Tt)
  | and (a b : Tt)
  | or (a b : Tt)
inductive Hst where
  | wd (j : Nat) (a b g : Str) (n : Nat)
  | fl (j n : Nat) (fd : Str)
  | st (j : Nat) (z : Str)
structure Hnd where
  ip : Nat
  i1 : Nat
  i2 : Nat
  i3 : Nat
  ia : Nat
  ib : Nat
  e1 : Ex
  e2 : Ex
  e3 : Ex
  e4 : Ex
structure Hcl where
  D : Str
  n : Option Nat
  b : List Hst
mutual
inductive Sm where
  | asg (i : Nat) (e : Ex)
  | unp (is : List Nat) (e : Ex)
  /-- a, b = c, d -/
  | par (i j k l : Nat)
  /-- a, b = e1, e2 -/
  | parE (i j : Nat) (a b : Ex)
  | app (i : Nat) (e : Ex)
  | ext (i : Nat) (e : Ex)
  | ins (i : Nat) (k e : Ex)
  | pop (j i : Nat) (e : Ex)
  | sti (i : Nat) (k e : Ex)
  | stk (i : Nat) (k e : Ex)
  | clr (i : Nat)
  /-- x.pop() -/
  | popO (i : Nat)
  /-- x.reverse() -/
  | revO (i : Nat)
  /-- x.remove(e) -/
  | rem (i : Nat) (e : Ex)
  | tryB (b : Tb) (D : Str) (j n : Nat)
  | ifs (c : Ex) (a b : Sms)
  /-- an if, a return with such a test -/
  | ifT (c : Tt) (a b : Sms)
  | rtTt (re : Bool) (c : Tt)
  | for_ (tg : Tg) (it : Itr) (b : Sms)
  | whl (c : Ex) (b : Sms)
  | tryN (b : Sms)
  | tryL (b e : Sms)
  | rse (C m : Str)
  | rs1 (C : Str) (e : Ex)
  | asgC (i f : Nat) (es : Exs)
  /-- x = [f(..) for ..]: f may raise -/
  | asgCc (i f : Nat) (es : Exs) (tg : Tg) (it : Itr) (own : List Nat)
  | retC (f : Nat) (es : Exs)
  | retCf (f : Nat) (es : Exs)
  /-- return f(..) o g(..) -/
  | retC2 (o : Bo) (f : Nat) (es : Exs) (g : Nat) (fs : Exs)
  | drpC (f : Nat) (es : Exs)
  /-- the same in defs that change a tree: what is raised or given back leaves the tree told -/
  | trse (C m : Str)
  | trs1 (C : Str) (e : Ex)
  | tasC (i f : Nat) (es : Exs)
  | trtC (f : Nat) (es : Exs)
  | tdrC (f : Nat) (es : Exs)
  /-- return x.g(es.., f(fs)): f may raise, x.g changes the tree x -/
  | rtcX (g i : Nat) (es : Exs) (f : Nat) (fs : Exs)
  /-- try: i = f(a), which changes a tree; except D as n: j = n -/
  | tryT (i f : Nat) (a : Ars) (D : Str) (j n : Nat)
  | tryTd (f : Nat) (a : Ars) (D : Str) (j n : Nat)
  /-- the same, but j = n.fd -/
  | tryTf (f : Nat) (a : Ars) (D : Str) (j n : Nat) (fd : Str)
  | retF (e : Ex)
  /-- return of what is new, which nobody changes from here on -/
  | retZ (e : Ex)
  /-- try: x = g(..) except D: raise C(y) -/
  | tryR (i : Nat) (g : Str) (es : Exs) (D C : Str) (k : Nat)
  /-- return x.g(h(a)): both change the tree x -/
  | rtcT (g i h : Nat) (a : Ars)
  /-- return str(f(fs)) in a def that changes a tree -/
  | rtsC (f : Nat) (fs : Exs)
  | tryC (i f : Nat) (es : Exs) (D : Str) (j n : Nat)
  | tryE (f : Nat) (es : Exs) (D : Str) (j n : Nat)
  /-- several clauses that ask what they caught -/
  | tryM (f : Nat) (es : Exs) (hs : List Hcl)
  | asgD (i : Nat) (e : Ex) (tg : Tg) (it : Itr) (own : List Nat)
  | asgL (i : Nat) (e : Ex)
  /-- a, b, .. = [own lists] -/
  | unpD (is : List Nat) (e : Ex) (tg : Tg) (it : Itr) (own : List Nat)
  /-- try: x = f(..) except (C, D): return k else: .. -/
  | tryEl (i f : Nat) (es : Exs) (D1 D2 : Str) (k : Bool) (el : Sms)
  | appD (i : Nat) (e : Ex)
  | appI (i : Nat) (k e : Ex)
  | popI (i : Nat) (k : Ex)
  | popD (i : Nat)
  | stJ (i : Nat) (k q e : Ex)
  | retX (e k : Ex)
  | stiD (i : Nat) (k e : Ex)
  | forR (j i : Nat) (b : Rbs)
  | ret (e : Ex)
  | retN
  | drp (e : Ex)
  /-- trees: x = []; x = path; path.append(e); of a list of lists; of x itself, that then is the place -/
  | tnw (i : Nat)
  | tal (j : Nat) (p : Pth)
  | tap (p : Pth) (e : Ex)
  | tapD (p : Pth) (e : Ex) (tg : Tg) (it : Itr) (own : List Nat)
  | tapV (p : Pth) (j : Nat)
  /-- path.append((d, a list of lists)) -/
  | tapP (p : Pth) (d e : Ex) (tg : Tg) (it : Itr) (own : List Nat)
  /-- path[k] = e; path.f = e; path.clear() -/
  | tst (p : Pth) (k e : Ex)
  | tfl (p : Pth) (f : Str) (e : Ex)
  | tcl (p : Pth)
  | tfr (j : Nat) (p : Pth) (b : Sms)
  /-- a def that changes a tree is called: its answer dropped, kept -/
  | tcd (f : Nat) (a : Ars)
  | tca (j f : Nat) (a : Ars)
  /-- return of what such a def answers; x = C(..) -/
  | rtc (f : Nat) (a : Ars)
  | asC (j f : Nat) (es : Exs)
  /-- x, .. = f(..); x = f(..): what comes back is a tree -/
  | unC (is : List Nat) (f : Nat) (es : Exs)
  | asT (i f : Nat) (es : Exs)
  /-- return in a def that changes a tree; return of trees -/
  | retT (e : Ex)
  | rtNT
  | rtV (i : Nat)
  | rtP (ps : Prs)
  | rtE (e : Ex)
  | rtD (e : Ex) (tg : Tg) (it : Itr) (own : List Nat)
  /-- x = what is new, as a tree -/
  | tas (i : Nat) (e : Ex)
  | tasD (i : Nat) (e : Ex) (tg : Tg) (it : Itr) (own : List Nat)
  | nop
  | nev
  | cont
  | brk
inductive Sms where
  | nil
  | cons (s : Sm) (r : Sms)
  | frz (i : Nat) (r : Sms)
  | del (i : Nat) (r : Sms)
  | hnd (h : Hnd) (r : Sms)
end
def LIM : Nat := 1000000
def RV.seq : RV → Option (List PyData)
  | .fz (.list ds) => some ds
  | .fz (.tuple ds) => some ds
  | .fz (.dict [(.none, .list ds)]) => some ds
  | .ol ds => some ds
  | _ => none
def RV.seqT : RV → Option (List PyData)
  | .fz (.list ds) => some ds
  | .fz (.tuple ds) => some ds
  | .ol ds => some ds
  | _ => none
def RV.lst : RV → Option (List PyData)
  | .fz (.list ds) => some ds
  | .ol ds => some ds
  | _ => none
def scalD : PyData → Bool
  | .none => true
  | .bool _ => true
  | .int _ => true
  | .str _ => true
  | _ => false
def addD : RV → RV → Option RV
  | .fz (.int i), .fz (.int j) => some (.fz (.int (i + j)))
  | .fz (.str x), .fz (.str y) => if x.length + y.length ≤ LIM then some (.fz (.str (x ++ y))) else none
  | .fz (.tuple xs), .fz (.tuple ys) => if xs.length + ys.length ≤ LIM then some (.fz (.tuple (xs ++ ys))) else none
  | .fz (.list xs), .fz (.list ys) => if xs.length + ys.length ≤ LIM then some (.ol (xs ++ ys)) else none
  | .fz (.list xs), .ol ys => if xs.length + ys.length ≤ LIM then some (.ol (xs ++ ys)) else none
  | .ol xs, .fz (.list ys) => if xs.length + ys.length ≤ LIM then some (.ol (xs ++ ys)) else none
  | .ol xs, .ol ys => if xs.length + ys.length ≤ LIM then some (.ol (xs ++ ys)) else none
  | _, _ => none
def smallI (i : Int) : Bool := decide (-18446744073709551616 < i) && decide (i < 18446744073709551616)
def mulD : RV → RV → Option RV
  | .fz (.int i), .fz (.int j) => if smallI i || smallI j then some (.fz (.int (i * j))) else none
  | .fz (.tuple xs), .fz (.int k) => if -1000 ≤ k ∧ k ≤ 1000 ∧ xs.length ≤ 1000 then some (.fz (.tuple (List.replicate k.toNat xs).flatten)) else none
  | .fz (.list xs), .fz (.int k) => if 0 ≤ k ∧ k ≤ 1000 ∧ xs.length * k.toNat ≤ LIM then some (.ol (List.replicate k.toNat xs).flatten) else none
  | .ol xs, .fz (.int k) => if 0 ≤ k ∧ k ≤ 1000 ∧ xs.length * k.toNat ≤ LIM then some (.ol (List.replicate k.toNat xs).flatten) else none
  | _, _ => none
def subD : RV → RV → Option RV
  | .fz (.int i), .fz (.int j) => some (.fz (.int (i - j)))
  | _, _ => none
def fdivD : RV → RV → Option RV
  | .fz (.int i), .fz (.int j) => if 0 < j ∧ j < 1073741824 then some (.fz (.int (i / j))) else none
  | _, _ => none
def modD : RV → RV → Option RV
  | .fz (.int i), .fz (.int j) => if 0 < j then some (.fz (.int (i % j))) else none
  | _, _ => none
def powD : RV → RV → Option RV
  | .fz (.int i), .fz (.int j) => if 0 ≤ j ∧ j ≤ 1000000 ∧ i.natAbs < 18446744073709551616 then some (.fz (.int (i ^ j.toNat))) else none
  | _, _ => none
def binD : Bo → RV → RV → Option RV
  | .add, a, b => addD a b
  | .mul, a, b => mulD a b
  | .sub, a, b => subD a b
  | .fdiv, a, b => fdivD a b
  | .mod, a, b => modD a b
  | .pow, a, b => powD a b
def intsOf : List PyData → Option (List Int)
  | [] => some []
  | .int i :: r => (intsOf r).map (i :: ·)
  | _ :: _ => none
def boolsOf : List PyData → Option (List Bool)
  | [] => some []
  | .bool i :: r => (boolsOf r).map (i :: ·)
  | _ :: _ => none
def strsOf : List PyData → Option (List Str)
  | [] => some []
  | .str i :: r => (strsOf r).map (i :: ·)
  | _ :: _ => none
def eqI : PyData → Int → Bool
  | .int j, i => decide (j = i)
  | _, _ => false
def eqT : PyData → List Int → Bool
  | .tuple ds, k => decide (intsOf ds = some k)
  | _, _ => false
def lookD (q : PyData → Bool) (r : List (PyData × PyData)) : Option PyData := (r.find? fun p => q p.1).map fun p => p.2
def putD (q : PyData → Bool) (r : List (PyData × PyData)) (k v : PyData) : List (PyData × PyData) := if (lookD q r).isSome then r.map (fun p => if q p.1 then (p.1, v) else p) else r ++ [(k, v)]
def dGet : List (PyData × PyData) → PyData → Option (Option PyData)
  | (.none, .bool false) :: r, .int i => some (lookD (fun z => eqI z i) r)
  | (.none, .bool true) :: r, .tuple ds => (intsOf ds).map fun k => lookD (fun z => eqT z k) r
  | _, _ => none
def dPut : List (PyData × PyData) → PyData → PyData → Option (List (PyData × PyData))
  | (.none, .bool false) :: r, .int i, v => some ((.none, .bool false) :: putD (fun z => eqI z i) r (.int i) v)
  | (.none, .bool true) :: r, .tuple ds, v => (intsOf ds).map fun k => (.none, .bool true) :: putD (fun z => eqT z k) r (.tuple ds) v
  | _, _, _ => none
def dRows : PyData → Option (List (PyData × PyData))
  | .dict ((.none, .bool _) :: r) => some r
  | _ => none
def intsK : PyData → Option (List Int)
  | .tuple ds => intsOf ds
  | _ => none
def sameD : PyData → Option PyData → Bool
  | .int i, some (.int j) => i == j
  | _, _ => false
def isIntD : PyData → Bool
  | .int _ => true
  | _ => false
def teqD (r q : List (PyData × PyData)) : Bool := r.all fun p => match intsK p.1 with
  | some k => sameD p.2 (lookD (fun z => eqT z k) q)
  | none => false
def eqDict : PyData → PyData → Option Bool
  | .dict ((.none, .bool true) :: r), .dict ((.none, .bool true) :: q) => if (r.all fun p => isIntD p.2) && (q.all fun p => isIntD p.2) then some (r.length == q.length && teqD r q) else none
  | _, _ => none
def RV.dic : RV → Option (List (PyData × PyData))
  | .fz (.dict kvs) => some kvs
  | .od kvs => some kvs
  | _ => none
def RV.rows (r : RV) : Option (List (PyData × PyData)) := r.dic.bind fun kvs => dRows (.dict kvs)
def ordD (f : Int → Int → Bool) : PyData → PyData → Option Bool
  | .int i, .int j => some (f i j)
  | _, _ => none
def ltD : PyData → PyData → Option Bool
  | .int i, .int j => some (decide (i < j))
  | .tuple xs, .tuple ys => (intsOf xs).bind fun ns => (intsOf ys).bind fun ms => some (HT.lexLt ns ms)
  | _, _ => none
def isNone : PyData → Bool
  | .none => true
  | _ => false
def inD : PyData → PyData → Option Bool
  | d, .dict kvs => (dGet kvs d).map Option.isSome
  | .str x, .str z => if x.cps.size = 1 then some (decide (x.cps.getD 0 0 ∈ z.cps.toList)) else none
  | d, .list ds => if SeqAt.shaped d && SeqAt.shaped (.list ds) then some (ds.any fun z => PyData.eqv z d) else none
  | d, .tuple ds => if scalD d && ds.all scalD then some (ds.any fun z => PyData.eqv z d) else if SeqAt.shaped d && SeqAt.shaped (.tuple ds) then some (ds.any fun z => PyData.eqv z d) else none
  | _, _ => none
def cmpD : Co → PyData → PyData → Option Bool
  | .eq, d, e => match eqDict d e with
    | some b => some b
    | none => if SeqAt.shaped d && SeqAt.shaped e then some (PyData.eqv d e) else none
  | .ne, d, e => match eqDict d e with
    | some b => some (!b)
    | none => if SeqAt.shaped d && SeqAt.shaped e then some (!PyData.eqv d e) else none
  | .lt, d, e => ltD d e
  | .le, d, e => ordD (fun i j => decide (i ≤ j)) d e
  | .gt, d, e => ordD (fun i j => decide (j < i)) d e
  | .ge, d, e => ordD (fun i j => decide (j ≤ i)) d e
  | .isN, d, .none => some (isNone d)
  | .noN, d, .none => some (!isNone d)
  | .isN, .bool a, .bool b => some (a == b)
  | .noN, .bool a, .bool b => some (!(a == b))
  | .inn, d, e => inD d e
  | .nin, d, e => (inD d e).map not
  | _, _, _ => none
def isD : Ty → PyData → Bool
  | .int, .int _ => true
  | .int, .bool _ => true
  | .bool, .bool _ => true
  | .str, .str _ => true
  | .list, .list _ => true
  | .tuple, .tuple _ => true
  | .dict, .dict _ => true
  | _, _ => false
def notScr : PyData → Bool
  | .dict [(.none, .list _)] => false
  | .dict [(.bool true, _)] => false
  | _ => true
def minI : List Int → Option Int
  | [] => none
  | [x] => some x
  | x :: r => (minI r).map fun m => if m < x then m else x
def maxI : List Int → Option Int
  | [] => none
  | [x] => some x
  | x :: r => (maxI r).map fun m => if x < m then m else x
def insL {α : Type} (le : α → α → Bool) (p : α) : List α → List α
  | [] => [p]
  | q :: r => if le p q then p :: q :: r else q :: insL le p r
def isort {α : Type} (le : α → α → Bool) : List α → List α
  | [] => []
  | p :: r => insL le p (isort le r)
def leI (i j : Int) : Bool := decide (i ≤ j)
def leP (p q : Int × Int) : Bool := decide (p.1 < q.1) || (decide (p.1 = q.1) && decide (p.2 ≤ q.2))
def encP (p : Int × Int) : PyData := .tuple [.int p.1, .int p.2]
def pairsOf : List PyData → Option (List (Int × Int))
  | [] => some []
  | .tuple [.int i, .int j] :: r => (pairsOf r).map ((i, j) :: ·)
  | _ :: _ => none
def leK (a b : Int × PyData) : Bool := decide (a.1 ≤ b.1)
def encK (p : Int × PyData) : PyData := .tuple [.int p.1, p.2]
def keysOf : List PyData → Option (List (Int × PyData))
  | [] => some []
  | .tuple [.int i, d] :: r => (keysOf r).map ((i, d) :: ·)
  | _ :: _ => none
def leT (p q : Int × Int × Int) : Bool := decide (p.1 < q.1) || (decide (p.1 = q.1) && leP p.2 q.2)
def encT3 (p : Int × Int × Int) : PyData := .tuple [.int p.1, .int p.2.1, .int p.2.2]
def triplesOf : List PyData → Option (List (Int × Int × Int))
  | [] => some []
  | .tuple [.int i, .int j, .int k] :: r => (triplesOf r).map ((i, j, k) :: ·)
  | _ :: _ => none
def sortedD (ds : List PyData) : Option RV := match pairsOf ds with
  | some ps => some (.ol ((isort leP ps).map encP))
  | none => match intsOf ds with
    | some ns => some (.ol ((isort leI ns).map PyData.int))
    | none => match triplesOf ds with
      | some ts => some (.ol ((isort leT ts).map encT3))
      | none => (keysOf ds).bind fun ks => if (ks.map Prod.fst).Nodup then some (.ol ((isort leK ks).map encK)) else none
def RV.rowsT (r : RV) : Option (List (PyData × PyData)) := r.dic.bind fun kvs => match kvs with
  | (.none, .bool true) :: rest => some rest
  | _ => none
def sortedR (r : RV) : Option RV := match r.lst with
  | some ds => sortedD ds
  | none => r.rowsT.bind fun kvs => (pairsOf (kvs.map fun p => p.1)).map fun ps => .ol ((isort leP ps).map encP)
theorem sortedR_cases {r rv : RV} (h : sortedR r = some rv) : (∃ ds, r.lst = some ds ∧ sortedD ds = some rv) ∨ ∃ rest ps, r.dic = some ((.none, .bool true) :: rest) ∧ pairsOf (rest.map fun p => p.1) = some ps ∧ rv = .ol ((isort leP ps).map encP) := by
  unfold sortedR at h
  split at h
  · rename_i ds hd
    exact .inl ⟨ds, hd, h⟩
  · right
    cases hr : r.rowsT with
    | none => rw [hr] at h; cases h
    | some kvs =>
      rw [hr, Option.bind_some] at h
      unfold RV.rowsT at hr
      cases hd : r.dic with
      | none => rw [hd] at hr; cases hr
      | some z =>
        rw [hd, Option.bind_some] at hr
        split at hr
        · cases hr
          cases hp : pairsOf (kvs.map fun p => p.1) with
          | none => rw [hp] at h; cases h
          | some ps =>
            rw [hp] at h
            exact ⟨kvs, ps, rfl, hp, (Option.some.inj h).symm⟩
        · cases hr
def biD : Bi → List RV → Option RV
  | .len, [.fz (.str z)] => if z.length ≤ LIM then some (.fz (.int z.length)) else none
  | .len, [r] => match r.rows with
    | some kvs => some (.fz (.int kvs.length))
    | none => r.seq.map fun ds => .fz (.int ds.length)
  | .sum, [r] => (r.seq.bind intsOf).map fun ns => .fz (.int ns.sum)
  | .min2, [.fz (.int i), .fz (.int j)] => some (.fz (.int (if j < i then j else i)))
  | .max2, [.fz (.int i), .fz (.int j)] => some (.fz (.int (if j > i then j else i)))
  | .minL, [r] => ((r.lst.bind intsOf).bind minI).map fun m => .fz (.int m)
  | .maxL, [r] => ((r.lst.bind intsOf).bind maxI).map fun m => .fz (.int m)
  | .any, [r] => match r.lst.bind boolsOf with
    | some ns => some (.fz (.bool (ns.any id)))
    | none => (r.seq.bind intsOf).map fun ns => .fz (.bool (ns.any fun i => i != 0))
  | .all, [r] => (r.lst.bind boolsOf).map fun ns => .fz (.bool (ns.all id))
  | .int, [.fz (.int i)] => some (.fz (.int i))
  | .int, [.fz (.bool k)] => some (.fz (.int (if k then 1 else 0)))
  | .int, [.fz (.str x)] => if x.length ≤ 640 then (PySem.intText? x).map fun n => .fz (.int n) else none
  | .str, [.fz (.int i)] => if i.natAbs.log2 < 1920 then some (.fz (.str (toString i : String))) else none
  | .tup, [r] => r.seq.map fun ds => .fz (.tuple ds)
  | .list, [r] => match r.rows with
    | some kvs => some (.ol (kvs.map fun p => p.1))
    | none => r.seq.map fun ds => .ol ds
  | .sorted, [r] => sortedR r
  | .isI t, [r] => if notScr r.d then some (.fz (.bool (isD t r.d))) else none
  | _, _ => none
def cutD {α : Type} (xs : List α) (lo hi : Option Int) : List α := (xs.drop (HT.sIx xs.length 0 lo)).take (HT.sIx xs.length xs.length hi - HT.sIx xs.length 0 lo)
def idx0 : RV → RV → Option RV
  | .fz (.str z), .fz (.int i) => if z.length ≤ LIM then (atI z.cps.toList i).map fun c => .fz (.str ⟨#[c]⟩) else none
  | a, .fz (.int i) => a.seq.bind fun ds => (atI ds i).map .fz
  | _, _ => none
def idxD (a b : RV) : Option RV := match a.dic.bind fun kvs => dGet kvs b.d with
  | some o => if b.isOwn then none else o.map .fz
  | none => idx0 a b
def slcD : RV → Option Int → Option Int → Option RV
  | .fz (.list ds), lo, hi => some (.ol (cutD ds lo hi))
  | .ol ds, lo, hi => some (.ol (cutD ds lo hi))
  | .fz (.tuple ds), lo, hi => some (.fz (.tuple (cutD ds lo hi)))
  | .fz (.str z), lo, hi => if z.length ≤ LIM then some (.fz (.str (cutS z lo hi))) else none
  | _, _, _ => none
def joinD (x y : RV) : Option RV := match x with
  | .fz (.str a) => (y.seq.bind strsOf).bind fun ys => if (ys.map (·.length)).sum + ys.length * a.length ≤ 16777216 then some (.fz (.str (Txt.join a ys))) else none
  | _ => none
def rvC (y : Str) : List Str := (y.cps.toList.reverse).map fun c => (⟨#[c]⟩ : Str)
def jrvD (x y : RV) : Option RV := match x with
  | .fz (.str a) => match y with
    | .fz (.str b) => if b.length ≤ LIM ∧ b.length + b.length * a.length ≤ 16777216 then some (.fz (.str (Txt.join a (rvC b)))) else none
    | _ => none
  | _ => none
def sixD (a : Str) (y : RV) : Option RV := match y with
  | .fz (.str b) => match Builtin.Str.occurrences a b 0 a.length 1 with
    | i :: _ => some (.fz (.int (i : Nat)))
    | [] => none
  | _ => none
def indexD (x y : RV) : Option RV := match x with
  | .fz (.str a) => sixD a y
  | .fz (.tuple ds) => if SeqAt.shaped (.tuple ds) && SeqAt.shaped y.d then (ds.findIdx? fun z => PyData.eqv z y.d).map fun j => .fz (.int (j : Nat)) else none
  | x => x.lst.bind fun ds => if SeqAt.shaped (.list ds) && SeqAt.shaped y.d then (ds.findIdx? fun z => PyData.eqv z y.d).map fun j => .fz (.int (j : Nat)) else none
def countD (x y : RV) : Option RV := x.lst.bind fun ds => if SeqAt.shaped (.list ds) && SeqAt.shaped y.d then some (.fz (.int ((ds.countP fun z => PyData.eqv z y.d : Nat)))) else none
def splitD (x y : RV) : Option RV := match x, y with
  | .fz (.str a), .fz (.str b) => if (b.length == 0) = false ∧ a.length + 2 ≤ LIM then some (.ol ((Txt.split a b).map PyData.str)) else none
  | _, _ => none
def partD (x y : RV) : Option RV := match x, y with
  | .fz (.str a), .fz (.str b) => if (b.length == 0) = false ∧ a.length ≤ LIM then some (.fz (.tuple [.str (Txt.partition a b).1, .str (Txt.partition a b).2.1, .str (Txt.partition a b).2.2])) else none
  | _, _ => none
def mt1D (m : Mt) (x y : RV) : Option RV := match m with
  | .join => joinD x y
  | .index => indexD x y
  | .count => countD x y
  | .split => splitD x y
  | .partition => partD x y
  | _ => none
def mtD (m : Mt) (x : RV) (rs : List RV) : Option RV := match rs with
  | [y] => mt1D m x y
  | [y, z] => match m with
    | .get => if y.isOwn || z.isOwn then none else (x.dic.bind fun kvs => dGet kvs y.d).map fun o => .fz (o.getD z.d)
    | _ => none
  | _ => none
theorem mt1_of {m : Mt} {x : RV} {rs : List RV} {r : RV} (h : mtD m x rs = some r) (hm : m ≠ .get) : ∃ y, rs = [y] ∧ mt1D m x y = some r := by
  unfold mtD at h
  split at h
  · exact ⟨_, rfl, h⟩
  · split at h
    · exact absurd rfl hm
    · cases h
  · cases h
theorem join_eq {x y : RV} {r : RV} (h : joinD x y = some r) : ∃ a ys, x = .fz (.str a) ∧ (y.seq.bind strsOf) = some ys ∧ (ys.map (·.length)).sum + ys.length * a.length ≤ 16777216 ∧ r = .fz (.str (Txt.join a ys)) := by
  unfold joinD at h
  split at h
  · rename_i a
    cases e : y.seq.bind strsOf with
    | none => rw [e] at h; cases h
    | some ys =>
      rw [e] at h
      have h : (if (ys.map (·.length)).sum + ys.length * a.length ≤ 16777216 then some (RV.fz (.str (Txt.join a ys))) else none) = some r := h
      by_cases q : (ys.map (·.length)).sum + ys.length * a.length ≤ 16777216
      · rw [if_pos q] at h
        cases h
        exact ⟨a, ys, rfl, rfl, q, rfl⟩
      · rw [if_neg q] at h
        cases h
  · cases h
theorem six_eq {a : Str} {y r : RV} (h : sixD a y = some r) : ∃ b i rest, y = .fz (.str b) ∧ Builtin.Str.occurrences a b 0 a.length 1 = i :: rest ∧ r = .fz (.int (i : Nat)) := by
  unfold sixD at h
  split at h
  · split at h
    · cases h
      exact ⟨_, _, _, rfl, by assumption, rfl⟩
    · cases h
  · cases h
def strLook (kvs : List (Str × Str)) (s : Str) : Option Str := match valV (mergeK [] (kvs.map fun p => ((.inr p.1 : Key), V.str p.2))) (.inr s) with
  | some (.str v) => some v
  | _ => none
def dsxD (kvs : List (Str × Str)) : RV → Option RV
  | .fz (.str s) => (strLook kvs s).map fun v => .fz (.str v)
  | _ => none
def itemsOf : RV → Option (List PyData)
  | .fz (.str z) => some (z.cps.toList.map fun c => .str ⟨#[c]⟩)
  | r => r.seq
def itemsX (r : RV) : Option (List PyData) := match r.rows with
  | some kvs => some (kvs.map fun p => p.1)
  | none => itemsOf r
def rngD (lo : Int) (n : Nat) : List PyData := (List.range n).map fun i => .int (lo + (i : Nat))
def rngC (lo c : Int) (n : Nat) : List PyData := (List.range n).map fun i => .int (lo + (i : Nat) * c)
def zipD (xs ys : List PyData) : List PyData := List.zipWith (fun x y => .tuple [x, y]) xs ys
def zipD3 (xs ys zs : List PyData) : List PyData := List.zipWith (fun x (p : PyData × PyData) => .tuple [x, p.1, p.2]) xs (List.zip ys zs)
def enD : Nat → List PyData → List PyData
  | _, [] => []
  | i, x :: r => .tuple [.int (i : Nat), x] :: enD (i + 1) r
def zipR (x y : RV) : Option (List PyData) := x.seq.bind fun xs => y.seq.bind fun ys => some (zipD xs ys)
def zipR3 (x y z : RV) : Option (List PyData) := x.seq.bind fun xs => y.seq.bind fun ys => z.seq.bind fun zs => some (zipD3 xs ys zs)
def setAll : Ev → List Nat → List PyData → Ev
  | env, i :: is, d :: ds => setAll (env.set i (some (.fz d))) is ds
  | env, _, _ => env
def bindT : Tg → Ev → PyData → Option Ev
  | .nm i, env, d => some (env.set i (some (.fz d)))
  | .tp is, env, .tuple ds => if ds.length = is.length then some (setAll env is ds) else none
  | .tp is, env, .list ds => if ds.length = is.length then some (setAll env is ds) else none
  | _, _, _ => none
def wipeE : Ev → List Nat → Ev
  | env, [] => env
  | env, v :: vs => (wipeE env vs).set v none
def isVar : Ex → Bool
  | .var _ => true
  | .pth _ => true
  | _ => false
def lndOf : Ex → Option Nat
  | .lnd i => some i
  | _ => none
def isPth : Ex → Bool
  | .pth _ => true
  | _ => false
def ownD (e : Ex) (r : RV) : Option PyData := if isVar e && r.isOwn then none else some r.d
def compL (f : PyData → Option (Option PyData)) : List PyData → Option (List PyData)
  | [] => some []
  | x :: xs => (f x).bind fun o => (compL f xs).bind fun r => some (match o with | some y => y :: r | none => r)
def xnm : RV → Option Str
  | .fz (.dict [(.bool true, .str nm)]) => some nm
  | .fz (.dict [(.bool true, .tuple [.str nm, .str _, _])]) => some nm
  | _ => none
def xfl (f : Str) : RV → Option (Str × PyData)
  | .fz (.dict [(.bool true, .tuple [.str nm, .str g, e])]) => if g = f then some (nm, e) else none
  | _ => none
def subX (nm D : Str) : Bool := decide (nm = D) || decide (D = "SplitError")
inductive Hn where
  | v
  | one (D : Str)
  | add (a b : Hn)
def Hn.cl : Hn → List Str
  | .v => []
  | .one D => [D]
  | .add a b => a.cl ++ b.cl
def evH (nm : Str) (k : Int) : Hn → Int
  | .v => k
  | .one D => if subX nm D then 1 else 0
  | .add a b => evH nm k a + evH nm k b
structure AlD where
  a0 : Hn
  ms : List Hn
  r : Hn
def AlD.cl (d : AlD) : List Str := d.a0.cl ++ (d.ms.flatMap Hn.cl ++ d.r.cl)
def AlD.ask (d : AlD) (nm : Str) : Bool := decide (evH nm (d.ms.foldl (fun k h => evH nm k h) (evH nm 0 d.a0)) d.r = 1)
def rootAt (env : Ev) (i : Nat) : Option OT := ((env[i]?).join).bind fun r => match r with
  | .tr _ t => some t
  | _ => none
def treeAt (env : Ev) (i : Nat) (w : List Stp) : Option OT := (rootAt env i).bind fun t => t.sub w
def kids : OT → Option (List OT)
  | .nd .ls ts => some ts
  | _ => none
def kidsT : OT → Option (List OT)
  | .nd .ls ts => some ts
  | .nd .tp ts => some ts
  | _ => none
def fieldOf (f : Str) : OT → Option Str
  | .nd (.ob nm fs) _ => if fs.contains f then some nm else none
  | _ => none
def leaves : List OT → Option (List PyData)
  | [] => some []
  | .lf d :: r => (leaves r).map (d :: ·)
  | _ :: _ => none
def viewO : OT → Option RV
  | .lf d => some (.fz d)
  | .dk ks ds => some (.od (dkD ks ds))
  | .nd .ls ts => (leaves ts).map .ol
  | _ => none
def plO (r : RV) : Option RV := if r.pl then some r else none
theorem plO_eq {r q : RV} (h : plO r = some q) : q = r ∧ r.pl = true := by
  unfold plO at h
  split at h
  · cases h; exact ⟨rfl, by assumption⟩
  · cases h
def rowsK : List (PyData × PyData) → Option (List Int × List PyData)
  | [] => some ([], [])
  | (.int i, d) :: r => (rowsK r).map fun p => (i :: p.1, d :: p.2)
  | _ :: _ => none
def dkOf : List (PyData × PyData) → Option OT
  | (.none, .bool false) :: r => (rowsK r).map fun p => .dk p.1 p.2
  | _ => none
def ofRV : RV → Option OT
  | .fz d => some (.lf d)
  | .ol ds => some (.nd .ls (ds.map .lf))
  | .od kvs => dkOf kvs
  | .on dss => some (.nd .ls (dss.map fun ds => .nd .ls (ds.map .lf)))
  | .tr [] t => some t
  | _ => none
def tofD (e : Ex) (r : RV) : Option OT := if isVar e && r.isOwn then none else ofRV r
def rvOf : OT → RV
  | .lf d => .fz d
  | t => .tr [] t
def pre (w : List Stp) (w' : List Stp) : Bool := w.isPrefixOf w'
def noAl (env : Ev) (i : Nat) : Bool := env.all fun r => match r with
  | some (.al k _) => k != i
  | _ => true
def free (env : Ev) (i : Nat) (w : List Stp) : Bool := (env.all fun r => match r with
  | some (.al k w') => k != i || !pre w w'
  | _ => true) && match (env[i]?).join with
  | some (.tr pw _) => pw.all fun w' => !pre w w'
  | _ => true
def setTree (env : Ev) (i : Nat) (w : List Stp) (u : OT) : Option Ev := ((env[i]?).join).bind fun r => match r with
  | .tr pw t => some (env.set i (some (.tr pw (t.put w u))))
  | _ => none
def putKd (ks : List Int) (ds : List PyData) (n : Int) (x : PyData) : List Int × List PyData := if n ∈ ks then (ks, List.zipWith (fun k d => if k = n then x else d) ks ds) else (ks ++ [n], ds ++ [x])
def putFs : List Str → List OT → Str → OT → List Str × List OT
  | g :: fs, t :: ts, f, u => if g = f then (g :: fs, u :: ts) else (g :: (putFs fs ts f u).1, t :: (putFs fs ts f u).2)
  | _, _, f, u => ([f], [u])
def leafAt (ts : List OT) (j : Nat) : Bool := match ts[j]? with
  | some (.lf _) => true
  | _ => false
def fldAt : List Str → List OT → Str → Option OT
  | g :: fs, t :: ts, f => if g = f then some t else fldAt fs ts f
  | _, _, _ => none
structure Cl where
  call : Nat → List PyData → Option RV
  glb : Nat → Option PyData
  /-- defs that may raise -/
  callx : Nat → List PyData → Option RV := fun _ _ => none
  /-- classes of exceptions that may come, that may be asked for, the names of fields -/
  rzs : List Str := []
  cls : List Str := []
  fls : List Str := []
  m0s : List Str := []
  m1s : List (Str × Str) := []
  /-- dicts of texts in the module -/
  gds : List (Str × List (Str × PyData)) := []
  /-- defs that change a tree; defs that give one back; classes and their fields -/
  callt : Nat → List (List Stp) → OT → List PyData → Option (RV × OT) := fun _ _ _ _ => none
  callr : Nat → List PyData → Option OT := fun _ _ => none
  /-- the classes whose methods they are -/
  tcs : Nat → Option (Str × Str) := fun _ => none
  ofs : List (Str × Str) := []
  /-- defs that a clause may call -/
  als : List (Str × AlD) := []
  /-- methods of instances that nobody changes; what isinstance says of them -/
  ims : List ((Str × Str) × (List PyData → Option RV)) := []
  jas : List ((Str × Str) × Bool) := []
  /-- defs whose exceptions a clause takes that raises another one; classes that such a clause raises -/
  ens : List (Str × (List PyData → Option RV)) := []
  hms : List (Str × Str) := []
def inm : RV → Option Str
  | .fz (.dict [(.bool true, .list [.str nm, .list _, .list _])]) => some nm
  | _ => none
def lkF : List PyData → List PyData → Str → Option PyData
  | .str g :: fs, d :: ds, f => if f = g then some d else lkF fs ds f
  | _, _, _ => none
def ifl (f : Str) : RV → Option PyData
  | .fz (.dict [(.bool true, .list [.str _, .list fs, .list ds])]) => lkF fs ds f
  | _ => none
def noF (f : Str) : List PyData → Bool
  | .str g :: fs => decide (f ≠ g) && noF f fs
  | [] => true
  | _ => false
def ino (f : Str) : RV → Bool
  | .fz (.dict [(.bool true, .list [.str _, .list fs, .list _])]) => noF f fs
  | _ => false
def lfsD : List OT → Option (List PyData)
  | [] => some []
  | .lf d :: r => (lfsD r).map (d :: ·)
  | _ => none
def mkjD : RV × OT → Option RV
  | (.fz .none, .nd (.ob nm fs) ts) => (lfsD ts).map fun ds => .fz (insD nm fs ds)
  | _ => none
def dT1D : PyData → PyData → Option RV
  | .tuple ds, d => (intsOf ds).map fun _ => .od [(.none, .bool true), (.tuple ds, d)]
  | _, _ => none
def exH (c : Cl) (env : Ev) : Hst → Option Ev
  | .wd j a b g n => ((env[n]?).join).bind fun r => (xnm r).bind fun nm => (c.als.lookup g).bind fun d => if decide (j ≠ n) && c.rzs.contains nm && d.cl.all c.cls.contains then some (env.set j (some (.fz (.str (if d.ask nm then b else a))))) else none
  | .fl j n fd => ((env[n]?).join).bind fun r => (xfl fd r).bind fun p => if decide (j ≠ n) && c.rzs.contains p.1 && c.fls.contains fd then some (env.set j (some (.fz p.2))) else none
  | .st j z => some (env.set j (some (.fz (.str z))))
def exHs (c : Cl) (env : Ev) : List Hst → Option Ev
  | [] => some env
  | h :: r => (exH c env h).bind fun e => exHs c e r
def fzAt (env : Ev) (k : Nat) : Option PyData := ((env[k]?).join).bind fun r => match r with
  | .fz d => some d
  | _ => none
def setOl : Ev → List Nat → List (List PyData) → Ev
  | env, i :: is, ds :: dss => setOl (env.set i (some (.ol ds))) is dss
  | env, _, _ => env
def exM (c : Cl) (d : PyData) (nm : Str) (env : Ev) : List Hcl → Option Ev
  | [] => none
  | h :: r => if subX nm h.D then (match h.n with
      | some n => (exHs c (env.set n (some (.fz d))) h.b).map fun e => e.set n none
      | none => exHs c env h.b) else exM c d nm env r
def isxD (c : Cl) (nm D : Str) : Option Bool := if c.rzs.contains nm then (if D = "ValueError" then some true else if c.cls.contains D then some (subX nm D) else none) else none
def mkD (c : Cl) (C : Str) (d : PyData) : Option PyData := match c.m1s.lookup C with
  | some f => some (xd1 C f d)
  | none => if c.m0s.contains C then some (xd0 C) else none
def gdD (kvs : List (Str × PyData)) : RV → Option RV
  | .fz (.str s) => (kvs.lookup s).map fun v => .fz v
  | _ => none
def giD (neg : Bool) (kvs : List (Str × PyData)) : RV → Option RV
  | .fz (.str s) => some (.fz (.bool ((kvs.lookup s).isSome != neg)))
  | _ => none
def callD (r : Option RV) (b tp : Bool) : Option RV := r.bind fun v => if b then (match v with | .fz d => if flatD d && (!tp || scalD d) then some v else none | _ => none) else some v
def tpE (env : Ev) : Exs → Bool
  | .nil => false
  | .cons e es => (match lndOf e with
    | some i => match rootAt env i with
      | some t => !t.noTp
      | none => false
    | none => false) || tpE env es
def colX (g : PyData → Option RV) : List PyData → Option (List PyData ⊕ PyData)
  | [] => some (.inl [])
  | x :: xs => (g x).bind fun r => match r with
    | .xr d => some (.inr d)
    | .fz d => (colX g xs).map fun z => match z with
      | .inl ds => .inl (d :: ds)
      | .inr e => .inr e
    | _ => none
def asRow : RV → Option (List PyData)
  | .ol ds => some ds
  | _ => none
def asOn : RV → Option (List (List PyData))
  | .on dss => some dss
  | _ => none
def onAt (env : Ev) (i : Nat) : Option (List (List PyData)) := ((env[i]?).join).bind asOn
def compD (f : PyData → Option (List PyData)) : List PyData → Option (List (List PyData))
  | [] => some []
  | x :: xs => (f x).bind fun y => (compD f xs).bind fun ys => some (y :: ys)
def rowsD (f : List PyData → Option (List PyData)) : List (List PyData) → Option (List (List PyData))
  | [] => some []
  | x :: xs => (f x).bind fun y => (rowsD f xs).bind fun ys => some (y :: ys)
def asStr : RV → Option Str
  | .fz (.str i) => some i
  | _ => none
def asInt : RV → Option Int
  | .fz (.int i) => some i
  | _ => none
def asBool : RV → Option Bool
  | .fz (.bool i) => some i
  | _ => none
def intAt (env : Ev) (i : Nat) : Option Int := ((env[i]?).join).bind asInt
def stepP (env : Ev) (q : Nat × List Stp) (n : Int) : Option (Nat × List Stp) := ((treeAt env q.1 q.2).bind kidsT).bind fun ts => (ixN ts.length n).map fun j => (q.1, q.2 ++ [.ix j])
section
variable (c : Cl)
def evP (env : Ev) : Pth → Option (Nat × List Stp)
  | .nm i => ((env[i]?).join).bind fun r => match r with
    | .tr _ _ => some (i, [])
    | .al j w => (rootAt env j).map fun _ => (j, w)
    | _ => none
  | .iv p i => (evP env p).bind fun q => (intAt env i).bind fun n => stepP env q n
  | .ic p n => (evP env p).bind fun q => stepP env q n
  | .ia p i m => (evP env p).bind fun q => (intAt env i).bind fun n => stepP env q (n + m)
  | .fl p f => (evP env p).bind fun q => ((treeAt env q.1 q.2).bind (fieldOf f)).bind fun nm => if c.ofs.contains (nm, f) then some (q.1, q.2 ++ [.fl f]) else none
mutual
def ev (env : Ev) : Ex → Option RV
  | .var i => ((env[i]?).join).bind plO
  | .int i => some (.fz (.int i))
  | .str x => some (.fz (.str x))
  | .bl b => some (.fz (.bool b))
  | .non => some (.fz .none)
  | .glb g => (c.glb g).map .fz
  | .bin o a b => (ev env a).bind fun x => (ev env b).bind fun y => binD o x y
  | .neg a => ((ev env a).bind asInt).map fun i => .fz (.int (-i))
  | .not a => ((ev env a).bind asBool).map fun b => .fz (.bool (!b))
  | .one a => (ev env a).bind fun r => (ownD a r).map .fz
  | .and a b => ((ev env a).bind asBool).bind fun k => if k then (ev env b).bind fun r => (ownD b r).map .fz else some (.fz (.bool false))
  | .or a b => ((ev env a).bind asBool).bind fun k => if k then some (.fz (.bool true)) else (ev env b).bind fun r => (ownD b r).map .fz
  | .cmp o a b => (ev env a).bind fun x => (ev env b).bind fun y => (cmpD o x.d y.d).map fun k => .fz (.bool k)
  | .chn o o' a b e => (ev env a).bind fun x => (ev env b).bind fun y => (cmpD o x.d y.d).bind fun k => if k then (ev env e).bind fun z => (cmpD o' y.d z.d).map fun k => .fz (.bool k) else some (.fz (.bool false))
  | .chn3 o o' o2 a b e d => (ev env a).bind fun x => (ev env b).bind fun y => (cmpD o x.d y.d).bind fun k => if k then (ev env e).bind fun z => (cmpD o' y.d z.d).bind fun k => if k then (ev env d).bind fun u => (cmpD o2 z.d u.d).map fun k => .fz (.bool k) else some (.fz (.bool false)) else some (.fz (.bool false))
  | .dsx kvs k => (ev env k).bind fun r => dsxD kvs r
  | .dsv k1 k2 a b k => ((ev env a).bind asStr).bind fun x => ((ev env b).bind asStr).bind fun y => (ev env k).bind fun r => dsxD [(k1, x), (k2, y)] r
  | .isx a D => (ev env a).bind fun r => (xnm r).bind fun nm => (isxD c nm D).map fun b => .fz (.bool b)
  | .fld a f => (ev env a).bind fun r => (xfl f r).bind fun p => if c.rzs.contains p.1 && c.fls.contains f then some (.fz p.2) else none
  | .mkx C e => (ev env e).bind fun r => (ownD e r).bind fun d => (mkD c C d).map .fz
  | .gdx x k => (ev env k).bind fun r => (c.gds.lookup x).bind fun kvs => gdD kvs r
  | .gin x k neg => (ev env k).bind fun r => (c.gds.lookup x).bind fun kvs => giD neg kvs r
  | .lenD i => (onAt env i).map fun dss => .fz (.int (dss.length : Nat))
  | .lenI i k => (onAt env i).bind fun dss => ((ev env k).bind asInt).bind fun n => (atI dss n).map fun ds => .fz (.int (ds.length : Nat))
  | .rvt a => (ev env a).bind fun x => x.seq.map fun ds => .fz (.tuple ds.reverse)
  | .jrv a b => (ev env a).bind fun x => (ev env b).bind fun y => jrvD x y
  | .rvl a => (ev env a).bind fun x => x.seq.map fun ds => .ol ds.reverse
  | .sls a lo st => (ev env a).bind fun x => x.lst.bind fun ds => if 0 < st then some (.ol (pickX ds lo st)) else none
  | .ite t a b => ((ev env t).bind asBool).bind fun k => if k then (ev env a).bind fun r => (ownD a r).map .fz else (ev env b).bind fun r => (ownD b r).map .fz
  | .tup es => (evs env es).bind fun ds => if ds.length ≤ LIM then some (.fz (.tuple ds)) else none
  | .lst es => (evs env es).bind fun ds => if ds.length ≤ LIM then some (.ol ds) else none
  | .call f es => (evb env es).bind fun p => callD (c.call f p.1) p.2 (tpE env es)
  | .bi b es => (evr env es).bind fun rs => biD b rs
  | .mt m a es => (ev env a).bind fun x => (evr env es).bind fun rs => mtD m x rs
  | .idx a i => (ev env a).bind fun x => (ev env i).bind fun y => idxD x y
  | .slc a lo hi => (ev env a).bind fun x => (evo env lo).bind fun l => (evo env hi).bind fun h => slcD x l h
  | .emp => none
  | .dnK => some (.od [(.none, .bool false)])
  | .dnT => some (.od [(.none, .bool true)])
  | .dzp a b => (ev env a).bind fun x => (ev env b).bind fun y => (x.lst.bind intsOf).bind fun ns => y.lst.bind fun ds => if ns.length = ds.length ∧ ns.length ≤ LIM ∧ ns.Nodup then some (.od ((.none, .bool false) :: (ns.map PyData.int).zip ds)) else none
  | .sumv a => (ev env a).bind fun x => x.rows.bind fun kvs => (intsOf (kvs.map fun p => p.2)).map fun ns => .fz (.int ns.sum)
  | .comp e tg it t own => (evi env it).bind fun items => (compL (fun x => (bindT tg (wipeE env own) x).bind fun env' => (evt env' t).bind fun k => if k then (ev env' e).bind fun r => (ownD e r).map some else some none) items).bind fun ds =>
      if items.length ≤ LIM then some (.ol ds) else none
  | .pth p => (evP c env p).bind fun q => (treeAt env q.1 q.2).bind viewO
  | .lenP p => (evP c env p).bind fun q => ((treeAt env q.1 q.2).bind kids).map fun ts => .fz (.int (ts.length : Nat))
  | .lnd _ => none
  | .isj a D => (ev env a).bind fun r => (inm r).bind fun nm => (c.jas.lookup (nm, D)).map fun b => .fz (.bool b)
  | .fjd a f => (ev env a).bind fun r => (inm r).bind fun nm => if c.ofs.contains (nm, f) then (ifl f r).map .fz else none
  | .mtj a m es => (ev env a).bind fun r => (inm r).bind fun nm => (evs env es).bind fun ds => if ino m r then (c.ims.lookup (nm, m)).bind fun s => s (r.d :: ds) else none
  | .mkj f es => (evs env es).bind fun ds => (c.tcs f).bind fun nm => (c.callt f [] (.nd (.ob nm.1 []) []) ds).bind mkjD
  | .dT1 k v => (ev env k).bind fun x => (ownD k x).bind fun kd => (ev env v).bind fun y => (ownD v y).bind fun d => dT1D kd d
def evt (env : Ev) : Ex → Option Bool
  | .emp => some true
  | .one a => (ev env a).bind asBool
  | _ => none
def evo (env : Ev) : Ex → Option (Option Int)
  | .emp => some none
  | .one a => ((ev env a).bind asInt).map some
  | _ => none
def evs (env : Ev) : Exs → Option (List PyData)
  | .nil => some []
  | .cons e es => (ev env e).bind fun r => (ownD e r).bind fun d => (evs env es).bind fun ds => some (d :: ds)
def evb (env : Ev) : Exs → Option (List PyData × Bool)
  | .nil => some ([], false)
  | .cons e es => match lndOf e with
    | some i => (rootAt env i).bind fun t => if t.noOb then (evb env es).bind fun p => some (t.d :: p.1, true) else none
    | none => (ev env e).bind fun r => (evb env es).bind fun p => some (r.d :: p.1, (isVar e && r.isOwn) || p.2)
def evr (env : Ev) : Exs → Option (List RV)
  | .nil => some []
  | .cons e es => (ev env e).bind fun r => (evr env es).bind fun rs => some (r :: rs)
def evi (env : Ev) : Itr → Option (List PyData)
  | .ex e => (ev env e).bind itemsX
  | .r1 a => ((ev env a).bind asInt).bind fun n => if -1000000 ≤ n ∧ n ≤ 1000000 then some (rngD 0 n.toNat) else none
  | .r2 a b => ((ev env a).bind asInt).bind fun m => ((ev env b).bind asInt).bind fun n => if -1000000 ≤ m ∧ m ≤ 1000000 ∧ -1000000 ≤ n ∧ n ≤ 1000000 then some (rngD m (n - m).toNat) else none
  | .r3 a b e => ((ev env a).bind asInt).bind fun m => ((ev env b).bind asInt).bind fun n => ((ev env e).bind asInt).bind fun k =>
      if -1000000 ≤ m ∧ m ≤ 1000000 ∧ -1000000 ≤ n ∧ n ≤ 1000000 ∧ k = -1 then some (rngC m (-1) (m - n).toNat) else if -1000000 ≤ m ∧ m ≤ 1000000 ∧ -1000000 ≤ n ∧ n ≤ 1000000 ∧ k = 2 then some (rngC m 2 ((n - m + 1) / 2).toNat) else none
  | .zip a b => (ev env a).bind fun x => (ev env b).bind fun y => zipR x y
  | .zip3 a b d => (ev env a).bind fun x => (ev env b).bind fun y => (ev env d).bind fun z => zipR3 x y z
  | .en a => (ev env a).bind fun x => (itemsOf x).map fun xs => enD 0 xs
  | .rv a => ((ev env a).bind RV.seq).map List.reverse
  | .its e => (ev env e).bind fun x => x.rows.map fun kvs => kvs.map fun p => .tuple [p.1, p.2]
  | .vals e => (ev env e).bind fun x => x.rows.map fun kvs => kvs.map fun p => p.2
  | .exD i k => (onAt env i).bind fun dss => ((ev env k).bind asInt).bind fun n => atI dss n
  | .zipD i k j l => (onAt env i).bind fun dss => ((ev env k).bind asInt).bind fun n => (atI dss n).bind fun xs => (onAt env j).bind fun ess => ((ev env l).bind asInt).bind fun m => (atI ess m).map fun ys => Mn.zipD xs ys
end
def borI (env : Ev) : Itr → Bool
  | .ex e => isVar e && ((ev c env e).map RV.isOwn).getD true
  | .zip a b => (isVar a && ((ev c env a).map RV.isOwn).getD true) || (isVar b && ((ev c env b).map RV.isOwn).getD true)
  | .zip3 a b d => (isVar a && ((ev c env a).map RV.isOwn).getD true) || ((isVar b && ((ev c env b).map RV.isOwn).getD true) || (isVar d && ((ev c env d).map RV.isOwn).getD true))
  | .en a => isVar a && ((ev c env a).map RV.isOwn).getD true
  | .rv a => isVar a && ((ev c env a).map RV.isOwn).getD true
  | .its e => isVar e && ((ev c env e).map RV.isOwn).getD true
  | .vals e => isVar e && ((ev c env e).map RV.isOwn).getD true
  | .exD _ _ => true
  | .zipD _ _ _ _ => true
  | _ => false
inductive Out where
  | nx (env : Ev)
  | rt (r : RV)
  | bk (env : Ev)
  | ct (env : Ev)
  /-- a return in a def that changes a tree -/
  | re (r : RV) (env : Ev)
def Out.isX : Out → Bool
  | .rt r => r.isX
  | .re r _ => r.isX
  | _ => false
def evx (env : Ev) (f : Nat) (es : Exs) : Option RV := (evb c env es).bind fun p => if p.2 then none else c.callx f p.1
def evn (env : Ev) (g : Str) (es : Exs) : Option RV := (evb c env es).bind fun p => if p.2 then none else (c.ens.lookup g).bind fun sm => sm p.1
def forL (f : Ev → PyData → Option Out) : List PyData → Ev → Option Out
  | [], env => some (.nx env)
  | x :: xs, env => (f env x).bind fun o => match o with
    | .nx env' => forL f xs env'
    | .ct env' => forL f xs env'
    | .bk env' => some (.nx env')
    | .rt r => some (.rt r)
    | .re r e => some (.re r e)
def whlL (t : Ev → Option Bool) (f : Ev → Option Out) : Nat → Ev → Option Out
  | 0, _ => none
  | n + 1, env => (t env).bind fun k => if k then (f env).bind fun o => (match o with
    | .nx env' => whlL t f n env'
    | .ct env' => whlL t f n env'
    | .bk env' => some (.nx env')
    | .rt r => some (.rt r)
    | .re r e => some (.re r e)) else some (.nx env)
def pinsAt (env : Ev) (i : Nat) : Option (List (List Stp)) := ((env[i]?).join).bind fun r => match r with
  | .tr pw _ => some pw
  | _ => none
def pinE (env : Ev) (i : Nat) (pw pw' : List (List Stp)) : Option Ev := ((env[i]?).join).bind fun r => match r with
  | .tr q t => if q = pw then some (env.set i (some (.tr pw' t))) else none
  | _ => none
def turnE (env : Ev) (j i : Nat) (w : List Stp) (t : Nat) (ts : List OT) : Option Ev := (ts[t]?).bind fun u => match u with
  | .lf d => some (env.set j (some (.fz d)))
  | _ => some (env.set j (some (.al i (w ++ [.ix t]))))
def tfrL (f : Ev → Option Out) (j i : Nat) (w : List Stp) (pw : List (List Stp)) : Nat → Nat → Ev → Option Out
  | 0, _, _ => none
  | n + 1, t, env => (pinsAt env i).bind fun pw' => if pw' = pw ++ [w] then ((treeAt env i w).bind kids).bind fun ts => if t < ts.length then (turnE env j i w t ts).bind fun env1 => (f env1).bind fun o => match o with
    | .nx env' => tfrL f j i w pw n (t + 1) env'
    | .ct env' => tfrL f j i w pw n (t + 1) env'
    | .bk env' => (pinE env' i (pw ++ [w]) pw).map .nx
    | .rt r => some (.rt r)
    | .re r e => (pinE e i (pw ++ [w]) pw).map (.re r)
    else (pinE (env.set j none) i (pw ++ [w]) pw).map .nx else none
def evl (env : Ev) : Exs → Option (List PyData × Bool)
  | .nil => some ([], false)
  | .cons e es => (ev c env e).bind fun r => if isPth e && r.isOwn then none else (evl env es).bind fun p => some (r.d :: p.1, (isVar e && r.isOwn) || p.2)
def evA (env : Ev) : Ars → Option (Nat × List PyData × Bool)
  | .tree i es => (evl c env es).map fun p => (i, p.1, p.2)
  | .cons e r => (ev c env e).bind fun x => if isPth e && x.isOwn then none else (evA env r).map fun p => (p.1, x.d :: p.2.1, (isVar e && x.isOwn) || p.2.2)
def evPs (env : Ev) : Prs → Option (List OT × Ev)
  | .nil => some ([], env)
  | .e a r => (ev c env a).bind fun x => (tofD a x).bind fun t => (evPs env r).map fun p => (t :: p.1, p.2)
  | .v i r => ((env[i]?).join).bind fun x => (ofRV x).bind fun t => (evPs (env.set i none) r).map fun p => (t :: p.1, p.2)
mutual
def OT.flatL : OT → Bool
  | .lf d => flatD d
  | .dk _ ds => flatAll ds
  | .nd _ ts => OT.flatLs ts
def OT.flatLs : List OT → Bool
  | [] => true
  | t :: r => OT.flatL t && OT.flatLs r
end
def callT (r : Option (RV × OT)) (b : Bool) : Option (RV × OT) := r.bind fun v => if b then (match v with | (.fz d, t) => if flatD d && t.flatL then some v else none | _ => none) else some v
def fits (f : Nat) (t : OT) : Bool := match c.tcs f with
  | none => true
  | some nm => match t with
    | .nd (.ob nm' fs) _ => decide (nm.1 = nm') && !fs.contains nm.2
    | _ => false
def evC (env : Ev) (f : Nat) (a : Ars) : Option (RV × Ev) := (evA c env a).bind fun q => ((env[q.1]?).join).bind fun r => match r with
  | .tr pw t => if noAl env q.1 && t.isNd && fits c f t then (callT (c.callt f pw t q.2.1) q.2.2).map fun z => (z.1, env.set q.1 (some (.tr pw z.2))) else none
  | _ => none
def evCX (env : Ev) (g i : Nat) (es : Exs) (f : Nat) (fs : Exs) : Option (RV × Ev) := ((env[i]?).join).bind fun r => match r with
  | .tr pw t => if noAl env i && t.isNd && fits c g t then (evl c env es).bind fun p => (evx c env f fs).bind fun x => (match x with
    | .xr d => some (.xr d, env)
    | .fz d => (callT (c.callt g pw t (p.1 ++ [d])) p.2).map fun z => (z.1, env.set i (some (.tr pw z.2)))
    | _ => none) else none
  | _ => none
def evCT (env : Ev) (g i h : Nat) (a : Ars) : Option (RV × Ev) := ((env[i]?).join).bind fun r => match r with
  | .tr _ t => if fits c g t then (evC c env h a).bind fun z => (match z.1 with
    | .xr _ => some z
    | .fz d => ((z.2[i]?).join).bind fun r1 => match r1 with
      | .tr pw1 t1 => if noAl z.2 i && t1.isNd && fits c g t1 then (callT (c.callt g pw1 t1 [d]) false).map fun y => (y.1, z.2.set i (some (.tr pw1 y.2))) else none
      | _ => none
    | _ => none) else none
  | _ => none
def olAt (env : Ev) (i : Nat) : Option (List PyData) := ((env[i]?).join).bind fun r => match r with
  | .ol ds => some ds
  | _ => none
def alE (tg : Tg) (f : Nat) (a : Ars) (own : List Nat) : List PyData → Ev → Option (List Bool × Ev)
  | [], env => some ([], env)
  | x :: r, env => (bindT tg env x).bind fun e1 => (evC c e1 f a).bind fun z => match z.1 with
    | .fz (.bool k) => (alE tg f a own r (wipeE z.2 own)).map fun q => (k :: q.1, q.2)
    | _ => none
def evTt : Tt → Ev → Option (Bool × Ev)
  | .ex e, env => ((ev c env e).bind asBool).map fun k => (k, env)
  | .cq o f a e, env => (evC c env f a).bind fun z => match z.1 with
    | .fz d => (ev c z.2 e).bind fun y => (cmpD o d y.d).map fun k => (k, z.2)
    | _ => none
  | .cb f a, env => (evC c env f a).bind fun z => match z.1 with
    | .fz (.bool k) => some (k, z.2)
    | _ => none
  | .alT i tg f a own, env => (olAt (wipeE env own) i).bind fun ds => (alE c tg f a own ds (wipeE env own)).bind fun q => if ds.length ≤ LIM then some (q.1.all id, q.2) else none
  | .not a, env => (evTt a env).map fun z => (!z.1, z.2)
  | .one a, env => evTt a env
  | .and a b, env => (evTt a env).bind fun z => if z.1 then evTt b z.2 else some (false, z.2)
  | .or a b, env => (evTt a env).bind fun z => if z.1 then some (true, z.2) else evTt b z.2
def setTs : Ev → List Nat → List OT → Option Ev
  | env, [], [] => some env
  | env, i :: is, t :: ts => if noAl env i then setTs (env.set i (some (rvOf t))) is ts else none
  | _, _, _ => none
def odAt (env : Ev) (i : Nat) : Option (List (PyData × PyData)) := ((env[i]?).join).bind fun r => match r with
  | .od kvs => some kvs
  | _ => none
def exR (j : Nat) : Rbs → Ev → Option Ev
  | .nil, env => some env
  | .st k e r, env => (ev c env e).bind fun x => (ownD e x).bind fun d => (olAt env j).bind fun ds => ((ev c env k).bind asInt).bind fun n => (ixN ds.length n).bind fun m => exR j r (env.set j (some (.ol (ds.set m d))))
  | .ifs t a r, env => ((ev c env t).bind asBool).bind fun b => if b then (exR j a env).bind (exR j r) else exR j r env
def exTb : Tb → Ev → Option Out
  | .asg i f es, env => (evx c env f es).bind fun r => match r with
    | .xr d => some (.rt (.xr d))
    | r => if r.frzOk && r.pl then some (.nx (env.set i (some (.fz r.fzD)))) else none
  | .drp f es, env => (evx c env f es).bind fun r => some (match r with
    | .xr d => .rt (.xr d)
    | _ => .nx env)
  | .ifs t a b, env => ((ev c env t).bind asBool).bind fun k => if k then exTb a env else exTb b env
  | .skip, env => some (.nx env)
def FUEL : Nat := 100000
def thenL (o : Out) (k : Ev → Option Out) : Option Out := match o with
  | .nx e => k e
  | o => some o
def OT.prs : List OT → Bool
  | [] => true
  | .nd .tp [.lf _, .nd .ls us] :: r => OT.noObs us && OT.prs r
  | _ => false
def fzEv : Ev → Bool
  | [] => true
  | none :: r => fzEv r
  | some (.fz _) :: r => fzEv r
  | _ => false
def asTr : RV → Option (List OT)
  | .tr _ (.nd .ls ts) => some ts
  | _ => none
def asFz : RV → Option PyData
  | .fz d => some d
  | _ => none
def Hnd.sl (h : Hnd) : List Nat := [h.ip, h.i1, h.i2, h.i3, h.ia, h.ib]
def hndE (h : Hnd) (env : Ev) (d : PyData) : Ev := (wipeE env h.sl).set h.i3 (some (.fz d))
def hndD (h : Hnd) (env : Ev) : Option Out := ((env[h.ip]?).join).bind fun r => (asTr r).bind fun ts =>
  if OT.prs ts = true ∧ fzEv (env.set h.ip none) = true ∧ h.sl.Nodup ∧ (∀ i ∈ h.sl, i < env.length) ∧ isVar h.e2 = false then
    (ev c (env.set h.ip (some (.fz (.list (OT.ds ts))))) h.e1).bind fun r1 => (ownD h.e1 r1).bind fun d1 =>
    (ev c ((env.set h.ip (some (.fz (.list (OT.ds ts))))).set h.i1 (some (.fz d1))) h.e2).bind fun r2 => (asRow r2).bind fun ws =>
    (ev c (((env.set h.ip (some (.fz (.list (OT.ds ts))))).set h.i1 (some (.fz d1))).set h.i2 (some (.fz (.list ws)))) h.e3).bind fun r3 => (asFz r3).bind fun d3 =>
    (ev c ((((env.set h.ip (some (.fz (.list (OT.ds ts))))).set h.i1 (some (.fz d1))).set h.i2 (some (.fz (.list ws)))).set h.i3 (some (.fz d3))) h.e4).bind fun r4 => (asBool r4).bind fun k =>
    if k then some (.rt (.fz (.bool false))) else if flatD d3 then some (.nx (hndE h env d3)) else none
  else none
mutual
def exS : Sm → Ev → Option Out
  | .asg i e, env => (ev c env e).bind fun r => if isVar e && r.isOwn then none else some (.nx (env.set i (some r)))
  | .parE i j a b, env => if decide (i = j) then none else (evs c env (.cons a (.cons b .nil))).bind fun ds => match ds with
    | [d, e] => some (.nx ((env.set i (some (.fz d))).set j (some (.fz e))))
    | _ => none
  | .par i j k l, env => if decide (i = j) then none else (fzAt env k).bind fun d => (fzAt env l).bind fun e => some (.nx ((env.set i (some (.fz d))).set j (some (.fz e))))
  | .unp is e, env => (ev c env e).bind fun r => (ownD e r).bind fun d => (bindT (.tp is) env d).map .nx
  | .app i e, env => (olAt env i).bind fun ds => (ev c env e).bind fun r => (ownD e r).bind fun d => if ds.length < LIM then some (.nx (env.set i (some (.ol (ds ++ [d]))))) else none
  | .ext i e, env => (olAt env i).bind fun ds => (ev c env e).bind fun r => r.seqT.bind fun es => if ds.length + es.length ≤ LIM then some (.nx (env.set i (some (.ol (ds ++ es))))) else none
  | .ins i k e, env => (olAt env i).bind fun ds => ((ev c env k).bind asInt).bind fun n => (ev c env e).bind fun r => (ownD e r).bind fun d => if 0 ≤ n ∧ n ≤ LIM ∧ ds.length < LIM then some (.nx (env.set i (some (.ol (ds.take n.toNat ++ [d] ++ ds.drop n.toNat))))) else none
  | .pop j i e, env => if i = j then none else (olAt env i).bind fun ds => ((ev c env e).bind asInt).bind fun k => if 0 ≤ k then (ds[k.toNat]?).bind fun d => if ds.length ≤ LIM then some (.nx ((env.set i (some (.ol (ds.eraseIdx k.toNat)))).set j (some (.fz d)))) else none else none
  | .sti i k e, env => (ev c env e).bind fun r => (ownD e r).bind fun d => (olAt env i).bind fun ds => ((ev c env k).bind asInt).bind fun n => (ixN ds.length n).bind fun j => some (.nx (env.set i (some (.ol (ds.set j d)))))
  | .stk i k e, env => (ev c env e).bind fun r => (ownD e r).bind fun d => (odAt env i).bind fun kvs => (ev c env k).bind fun y => if y.isOwn then none else (dPut kvs y.d d).bind fun kvs' => if kvs.length ≤ LIM then some (.nx (env.set i (some (.od kvs')))) else none
  | .clr i, env => (olAt env i).bind fun ds => some (.nx (env.set i (some (.ol []))))
  | .popO i, env => (olAt env i).bind fun ds => if 0 < ds.length ∧ ds.length ≤ LIM then some (.nx (env.set i (some (.ol (ds.eraseIdx (ds.length - 1)))))) else none
  | .revO i, env => (olAt env i).bind fun ds => if ds.length ≤ LIM then some (.nx (env.set i (some (.ol ds.reverse)))) else none
  | .rem i e, env => (olAt env i).bind fun ds => (ev c env e).bind fun r => (ownD e r).bind fun d => if SeqAt.shaped (.list ds) && SeqAt.shaped d && decide (ds.length ≤ LIM) then (SeqAt.dataPlace ds d).bind fun j => some (.nx (env.set i (some (.ol (ds.eraseIdx j))))) else none
  | .tryB b D j n, env => if decide (j = n) || !c.cls.contains D then none else (exTb c b env).bind fun o => match o with
    | .rt (.xr d) => (xnm (.fz d)).bind fun nm => if c.rzs.contains nm && subX nm D then some (.nx ((env.set n none).set j (some (.fz d)))) else none
    | .nx env' => some (.nx env')
    | _ => none
  | .ifs t a b, env => ((ev c env t).bind asBool).bind fun k => if k then exSs a env else exSs b env
  | .ifT t a b, env => (evTt c t env).bind fun z => if z.1 then exSs a z.2 else exSs b z.2
  | .rtTt re t, env => (evTt c t env).map fun z => if re then .re (.fz (.bool z.1)) z.2 else .rt (.fz (.bool z.1))
  | .for_ tg it b, env => if borI c env it then none else (evi c env it).bind fun items => forL (fun env x => (bindT tg env x).bind fun env' => exSs b env') items env
  | .whl t b, env => whlL (fun env => (ev c env t).bind asBool) (fun env => exSs b env) FUEL env
  | .tryN b, env => (exSs b env).bind fun o => if o.isX then none else some o
  | .tryL b e, env => (exSs b env).bind fun o => if o.isX then none else thenL o fun env' => exSs e env'
  | .rse C _, env => if c.m0s.contains C then some (.rt (.xr (xd0 C))) else none
  | .rs1 C e, env => (ev c env e).bind fun r => (ownD e r).bind fun d => (c.m1s.lookup C).map fun f => .rt (.xr (xd1 C f d))
  | .asgCc i f es tg it own, env => (evi c env it).bind fun items => if items.length ≤ LIM then (colX (fun x => (bindT tg (wipeE env own) x).bind fun env' => evx c env' f es) items).bind fun z => some (match z with
    | .inl ds => .nx (env.set i (some (.ol ds)))
    | .inr d => .rt (.xr d)) else none
  | .asgC i f es, env => (evx c env f es).bind fun r => some (match r with
    | .xr d => .rt (.xr d)
    | r => .nx (env.set i (some r)))
  | .retC f es, env => (evx c env f es).map .rt
  | .retCf f es, env => (evx c env f es).map fun r => .rt (match r with
    | .xr d => .xr d
    | r => .fz r.d)
  | .retC2 o f es g fs, env => (evx c env f es).bind fun a => match a with
    | .xr d => some (.rt (.xr d))
    | a => (evx c env g fs).bind fun b => match b with
      | .xr d => some (.rt (.xr d))
      | b => (binD o a b).map .rt
  | .trse C _, env => if c.m0s.contains C then some (.re (.xr (xd0 C)) env) else none
  | .trs1 C e, env => (ev c env e).bind fun r => (ownD e r).bind fun d => (c.m1s.lookup C).map fun f => .re (.xr (xd1 C f d)) env
  | .tasC i f es, env => (evx c env f es).bind fun r => some (match r with
    | .xr d => .re (.xr d) env
    | r => .nx (env.set i (some r)))
  | .trtC f es, env => (evx c env f es).map fun r => .re r env
  | .tdrC f es, env => (evx c env f es).bind fun r => some (match r with
    | .xr d => .re (.xr d) env
    | _ => .nx env)
  | .rtcX g i es f fs, env => (evCX c env g i es f fs).map fun z => .re z.1 z.2
  | .tryT i f a D j n, env => if decide (i = n) || decide (j = n) || !c.cls.contains D then none else (evC c env f a).bind fun z => match z.1 with
    | .xr d => (xnm (.fz d)).bind fun nm => if c.rzs.contains nm && subX nm D then some (.nx ((z.2.set n none).set j (some (.fz d)))) else none
    | r => if r.pl && noAl z.2 i then some (.nx (z.2.set i (some r))) else none
  | .rtcT g i h a, env => (evCT c env g i h a).map fun z => .re z.1 z.2
  | .rtsC f fs, env => (evx c env f fs).bind fun r => match r with
    | .xr d => some (.re (.xr d) env)
    | r => (biD .str [r]).map fun v => .re v env
  | .drpC f es, env => (evx c env f es).bind fun r => some (match r with
    | .xr d => .rt (.xr d)
    | _ => .nx env)
  | .tryC i f es D j n, env => if decide (i = n) || decide (j = n) || !c.cls.contains D then none else (evx c env f es).bind fun r => match r with
    | .xr d => (xnm (.fz d)).bind fun nm => if c.rzs.contains nm && subX nm D then some (.nx ((env.set n none).set j (some (.fz d)))) else none
    | r => some (.nx (env.set i (some r)))
  | .tryE f es D j n, env => if decide (j = n) || !c.cls.contains D then none else (evx c env f es).bind fun r => match r with
    | .xr d => (xnm (.fz d)).bind fun nm => if c.rzs.contains nm && subX nm D then some (.nx ((env.set n none).set j (some (.fz d)))) else none
    | _ => some (.nx env)
  | .tryM f es hs, env => if hs.all (fun h => c.cls.contains h.D) then (evx c env f es).bind fun r => match r with
    | .xr d => (xnm (.fz d)).bind fun nm => if c.rzs.contains nm then (exM c d nm env hs).map .nx else none
    | _ => some (.nx env) else none
  | .asgD i e tg it own, env => (evi c env it).bind fun items => (compD (fun x => (bindT tg (wipeE env own) x).bind fun env' => (ev c env' e).bind fun r => if isVar e then none else asRow r) items).bind fun dss => if items.length ≤ LIM then some (.nx (env.set i (some (.on dss)))) else none
  | .unpD is e tg it own, env => (evi c env it).bind fun items => (compD (fun x => (bindT tg (wipeE env own) x).bind fun env' => (ev c env' e).bind fun r => if isVar e then none else asRow r) items).bind fun dss => if items.length ≤ LIM ∧ dss.length = is.length then some (.nx (setOl env is dss)) else none
  | .tryEl i f es D1 D2 k el, env => if c.cls.contains D1 && c.cls.contains D2 then (evx c env f es).bind fun r => match r with
    | .xr d => (xnm (.fz d)).bind fun nm => if c.rzs.contains nm && (subX nm D1 || subX nm D2) then some (.rt (.fz (.bool k))) else none
    | r => exSs el (env.set i (some r)) else none
  | .asgL i e, env => (ev c env e).bind fun r => (if isVar e then none else asRow r).bind fun es => some (.nx (env.set i (some (.on [es]))))
  | .appD i e, env => (onAt env i).bind fun dss => (ev c env e).bind fun r => (if isVar e then none else asRow r).bind fun es => if dss.length < LIM then some (.nx (env.set i (some (.on (dss ++ [es]))))) else none
  | .appI i k e, env => (onAt env i).bind fun dss => ((ev c env k).bind asInt).bind fun n => (ixN dss.length n).bind fun j => (dss[j]?).bind fun ds => (ev c env e).bind fun r => (ownD e r).bind fun d => if ds.length < LIM ∧ dss.length ≤ LIM then some (.nx (env.set i (some (.on (dss.set j (ds ++ [d])))))) else none
  | .popI i k, env => (onAt env i).bind fun dss => ((ev c env k).bind asInt).bind fun n => (ixN dss.length n).bind fun j => (dss[j]?).bind fun ds => if 0 < ds.length ∧ ds.length ≤ LIM ∧ dss.length ≤ LIM then some (.nx (env.set i (some (.on (dss.set j ds.dropLast))))) else none
  | .popD i, env => (onAt env i).bind fun dss => if 0 < dss.length ∧ dss.length ≤ LIM then some (.nx (env.set i (some (.on dss.dropLast)))) else none
  | .stJ i k q e, env => ((ev c env e).bind fun r => (ownD e r).bind fun d => (onAt env i).bind fun dss => ((ev c env k).bind asInt).bind fun n => (ixN dss.length n).bind fun j => (dss[j]?).bind fun ds => ((ev c env q).bind asInt).bind fun l => (ixN ds.length l).bind fun t => some (.nx (env.set i (some (.on (dss.set j (ds.set t d)))))))
  | .retX e k, env => (ev c env e).bind fun r => (if isVar e then none else asOn r).bind fun dss => ((ev c env k).bind asInt).bind fun n => (atI dss n).map fun ds => .rt (.ol ds)
  | .stiD i k e, env => (ev c env e).bind fun r => (if isVar e then none else asRow r).bind fun es => (onAt env i).bind fun dss => ((ev c env k).bind asInt).bind fun n => (ixN dss.length n).bind fun j => some (.nx (env.set i (some (.on (dss.set j es)))))
  | .forR j i b, env => if i = j then none else (onAt env i).bind fun dss => (rowsD (fun es => (exR c j b ((env.set i none).set j (some (.ol es)))).bind fun env' => olAt env' j) dss).bind fun dss' => some (.nx ((env.set i (some (.on dss'))).set j none))
  | .ret e, env => (ev c env e).map .rt
  | .retN, env => some (.rt (.fz .none))
  | .drp e, env => (ev c env e).map fun _ => .nx env
  | .tnw i, env => if noAl env i then some (.nx (env.set i (some (.tr [] (.nd .ls []))))) else none
  | .tal j p, env => (evP c env p).bind fun q => (treeAt env q.1 q.2).bind fun t => if t.isNd && decide (q.1 ≠ j) then some (.nx (env.set j (some (.al q.1 q.2)))) else none
  | .tap p e, env => (evP c env p).bind fun q => (ev c env e).bind fun r => (tofD e r).bind fun u => ((treeAt env q.1 q.2).bind kids).bind fun ts => if ts.length < LIM then (setTree env q.1 q.2 (.nd .ls (ts ++ [u]))).map .nx else none
  | .tapD p e tg it own, env => (evP c env p).bind fun q => (evi c env it).bind fun items => (compD (fun x => (bindT tg (wipeE env own) x).bind fun env' => (ev c env' e).bind fun r => if isVar e then none else asRow r) items).bind fun dss => ((treeAt env q.1 q.2).bind kids).bind fun ts => if items.length ≤ LIM ∧ ts.length < LIM then (setTree env q.1 q.2 (.nd .ls (ts ++ [.nd .ls (dss.map fun ds => .nd .ls (ds.map .lf))]))).map .nx else none
  | .tapP p d0 e tg it own, env => (evP c env p).bind fun q => (ev c env d0).bind fun r0 => (ownD d0 r0).bind fun d => (evi c env it).bind fun items => (compD (fun x => (bindT tg (wipeE env own) x).bind fun env' => (ev c env' e).bind fun r => if isVar e then none else asRow r) items).bind fun dss => ((treeAt env q.1 q.2).bind kids).bind fun ts => if items.length ≤ LIM ∧ ts.length < LIM then (setTree env q.1 q.2 (.nd .ls (ts ++ [.nd .tp [.lf d, .nd .ls (dss.map fun ds => .nd .ls (ds.map .lf))]]))).map .nx else none
  | .tapV p j, env => (evP c env p).bind fun q => ((env[j]?).join).bind fun x => (ofRV x).bind fun u => ((treeAt env q.1 q.2).bind kids).bind fun ts => if u.isNd && decide (q.1 ≠ j) && noAl env j && decide (ts.length < LIM) then (setTree env q.1 q.2 (.nd .ls (ts ++ [u]))).map fun env' => .nx (env'.set j (some (.al q.1 (q.2 ++ [.ix ts.length])))) else none
  | .tst p k e, env => (ev c env e).bind fun r => (evP c env p).bind fun q => (treeAt env q.1 q.2).bind fun t => ((ev c env k).bind asInt).bind fun n => match t with
    | .nd .ls ts => (ixN ts.length n).bind fun j => (tofD e r).bind fun u => if leafAt ts j || free env q.1 (q.2 ++ [.ix j]) then (setTree env q.1 q.2 (.nd .ls (ts.set j u))).map .nx else none
    | .dk ks ds => (ownD e r).bind fun d => if ks.length ≤ LIM then (setTree env q.1 q.2 (.dk (putKd ks ds n d).1 (putKd ks ds n d).2)).map .nx else none
    | _ => none
  | .tfl p f e, env => (ev c env e).bind fun r => (evP c env p).bind fun q => (tofD e r).bind fun u => (treeAt env q.1 q.2).bind fun t => match t with
    | .nd (.ob nm fs) ts => if c.ofs.contains (nm, f) && decide (fs.length < 1000) && (match fldAt fs ts f with | some x => !x.isNd || free env q.1 (q.2 ++ [.fl f]) | none => true) then (setTree env q.1 q.2 (.nd (.ob nm (putFs fs ts f u).1) (putFs fs ts f u).2)).map .nx else none
    | _ => none
  | .tcl p, env => (evP c env p).bind fun q => ((treeAt env q.1 q.2).bind kids).bind fun ts => if (leaves ts).isSome || (List.range ts.length).all (fun j => free env q.1 (q.2 ++ [.ix j])) then (setTree env q.1 q.2 (.nd .ls [])).map .nx else none
  | .tfr j p b, env => (evP c env p).bind fun q => if q.1 = j then none else (pinsAt env q.1).bind fun pw => (pinE env q.1 pw (pw ++ [q.2])).bind fun env1 => tfrL (fun e => exSs b e) j q.1 q.2 pw FUEL 0 env1
  | .tcd f a, env => (evC c env f a).map fun z => match z.1 with
    | .xr d => .re (.xr d) z.2
    | _ => .nx z.2
  | .tca j f a, env => (evC c env f a).bind fun z => match z.1 with
    | .xr d => some (.re (.xr d) z.2)
    | r => if r.pl && noAl z.2 j then some (.nx (z.2.set j (some r))) else none
  | .rtc f a, env => (evC c env f a).map fun z => .re z.1 z.2
  | .asC j f es, env => (evs c env es).bind fun ds => (c.tcs f).bind fun nm => (c.callt f [] (.nd (.ob nm.1 []) []) ds).bind fun z => match z.1 with
    | .fz .none => if noAl env j then some (.nx (env.set j (some (.tr [] z.2)))) else none
    | _ => none
  | .unC is f es, env => (evb c env es).bind fun p => if p.2 then none else (c.callr f p.1).bind fun t => match t with
    | .nd .tp ts => if decide is.Nodup then (setTs env is ts).map .nx else none
    | _ => none
  | .asT i f es, env => (evb c env es).bind fun p => if p.2 then none else (c.callr f p.1).bind fun t => if noAl env i then some (.nx (env.set i (some (.tr [] t)))) else none
  | .retZ e, env => (ev c env e).bind fun r => (ownD e r).map fun d => .rt (.fz d)
  | .tryR i g es D C k, env => if c.cls.contains D then (evn c env g es).bind fun r => match r with
    | .xr d => (xnm (.fz d)).bind fun nm => if c.rzs.contains nm then (if subX nm D then (fzAt env k).bind fun e => (c.hms.lookup C).map fun f => .rt (.xr (xd1 C f e)) else some (.rt (.xr d))) else none
    | r => some (.nx (env.set i (some r))) else none
  | .retF e, env => (ev c env e).bind fun r => (ownD e r).map fun d => .re (.fz d) env
  | .tryTd f a D j n, env => if decide (j = n) || !c.cls.contains D then none else (evC c env f a).bind fun z => match z.1 with
    | .xr d => (xnm (.fz d)).bind fun nm => if c.rzs.contains nm && subX nm D then some (.nx ((z.2.set n none).set j (some (.fz d)))) else none
    | _ => some (.nx z.2)
  | .tryTf f a D j n fd, env => if decide (j = n) || !c.cls.contains D then none else (evC c env f a).bind fun z => match z.1 with
    | .xr d => (xnm (.fz d)).bind fun nm => if c.rzs.contains nm && subX nm D then (xfl fd (.fz d)).bind fun p => (if c.rzs.contains p.1 && c.fls.contains fd then some (.nx ((z.2.set n none).set j (some (.fz p.2)))) else none) else none
    | _ => some (.nx z.2)
  | .retT e, env => (ev c env e).bind fun r => if isVar e && r.isOwn then none else some (.re r env)
  | .rtNT, env => some (.re (.fz .none) env)
  | .rtV i, env => ((env[i]?).join).bind fun r => match r with
    | .tr [] t => some (.rt (.tr [] t))
    | _ => none
  | .rtP ps, env => (evPs c env ps).bind fun q => if q.1.length ≤ LIM then some (.rt (.tr [] (.nd .tp q.1))) else none
  | .rtE e, env => (ev c env e).bind fun r => (tofD e r).map fun t => .rt (.tr [] t)
  | .rtD e tg it own, env => (evi c env it).bind fun items => (compD (fun x => (bindT tg (wipeE env own) x).bind fun env' => (ev c env' e).bind fun r => if isVar e then none else asRow r) items).bind fun dss => if items.length ≤ LIM then some (.rt (.tr [] (.nd .ls (dss.map fun ds => .nd .ls (ds.map .lf))))) else none
  | .tas i e, env => (ev c env e).bind fun r => (tofD e r).bind fun t => if noAl env i then some (.nx (env.set i (some (.tr [] t)))) else none
  | .tasD i e tg it own, env => (evi c env it).bind fun items => (compD (fun x => (bindT tg (wipeE env own) x).bind fun env' => (ev c env' e).bind fun r => if isVar e then none else asRow r) items).bind fun dss => if decide (items.length ≤ LIM) && noAl env i then some (.nx (env.set i (some (.tr [] (.nd .ls (dss.map fun ds => .nd .ls (ds.map .lf))))))) else none
  | .nop, env => some (.nx env)
  | .nev, _ => none
  | .cont, env => some (.ct env)
  | .brk, env => some (.bk env)
def exSs : Sms → Ev → Option Out
  | .nil, env => some (.nx env)
  | .cons s r, env => (exS s env).bind fun o => match o with
    | .nx env' => exSs r env'
    | o => some o
  | .frz i r, env => ((env[i]?).join).bind fun v => if v.frzOk then exSs r (env.set i (some (.fz v.fzD))) else none
  | .del i r, env => exSs r (env.set i none)
  | .hnd h r, env => (hndD c h env).bind fun o => match o with
    | .nx env' => exSs r env'
    | o => some o
end
end
structure Df where
  n : Nat
  np : Nat
  body : Sms
def runD (c : Cl) (f : Df) (ds : List PyData) : Option RV :=
  if ds.length = f.np then (exSs c f.body (ds.map (fun d => some (.fz d)) ++ List.replicate (f.n - f.np) none)).bind fun o => match o with
    | .rt r => if r.isX || !r.pl then none else some r
    | .re r _ => if r.isX || !r.pl then none else some r
    | .nx _ => some (.fz .none)
    | _ => none
  else none
def runR (c : Cl) (f : Df) (ds : List PyData) : Option OT :=
  if ds.length = f.np then (exSs c f.body (ds.map (fun d => some (.fz d)) ++ List.replicate (f.n - f.np) none)).bind fun o => match o with
    | .rt (.tr [] t) => some t
    | _ => none
  else none
end Mn
namespace Mn
open PySem PySem.Spec PyProof.Rows L2
theorem bnd {α β : Type} {x : Option α} {f : α → Option β} {b : β} (h : x.bind f = some b) : ∃ a, x = some a ∧ f a = some b := by
  cases x with
  | none => cases h
  | some a => exact ⟨a, rfl, h⟩
theorem mpd {α β : Type} {x : Option α} {f : α → β} {b : β} (h : x.map f = some b) : ∃ a, x = some a ∧ f a = b := by
  cases x with
  | none => cases h
  | some a => exact ⟨a, rfl, Option.some.inj h⟩
theorem itd {α : Type} {c : Prop} [Decidable c] {a b : α} (h : (if c then some a else none) = some b) : c ∧ a = b := by
  by_cases hc : c
  · rw [if_pos hc] at h; exact ⟨hc, Option.some.inj h⟩
  · rw [if_neg hc] at h; cases h
theorem itd' {α : Type} {c : Prop} [Decidable c] {a : Option α} {b : α} (h : (if c then a else none) = some b) : c ∧ a = some b := by
  by_cases hc : c
  · rw [if_pos hc] at h; exact ⟨hc, h⟩
  · rw [if_neg hc] at h; cases h
theorem LIM_ok {n : Nat} (h : n ≤ LIM) : n ≤ sizeLine := by rw [sizeLine_eq]; unfold LIM at h; omega
theorem LIM_lt {n : Nat} (h : n < LIM) : n < sizeLine := by rw [sizeLine_eq]; unfold LIM at h; omega
section
variable {X : Cx} {e : Expr}
theorem PE.imp {t t' : TE} (h : PE X e t) (f : ∀ σ H Q, t' σ H Q → t σ H Q) : PE X e t' := ⟨fun pins s σ H Q I q => h.run pins s σ H Q I (f σ H Q q)⟩
theorem PT.imp {t t' : TT} (h : PT X e t) (f : ∀ σ H Q, t' σ H Q → t σ H Q) : PT X e t' := ⟨fun pins s σ H Q I q => h.run pins s σ H Q I (f σ H Q q)⟩
theorem PW.imp {t t' : TT} (h : PW X e t) (f : ∀ σ H Q, t' σ H Q → t σ H Q) : PW X e t' := ⟨fun wh pins s σ H Q I q => h.run wh pins s σ H Q I (f σ H Q q)⟩
theorem PE.or {t t' : TE} (h : PE X e t) (h' : PE X e t') : PE X e (fun σ H Q => t σ H Q ∨ t' σ H Q) := ⟨fun pins s σ H Q I q => q.elim (h.run pins s σ H Q I) (h'.run pins s σ H Q I)⟩
theorem PA.imp {es : List Expr} {t t' : TA} (h : PA X es t) (f : ∀ σ H Q, t' σ H Q → t σ H Q) : PA X es t' := ⟨fun pos pins s σ H Q I q => h.run pos pins s σ H Q I (f σ H Q q)⟩
theorem PI.imp {tg : Expr} {t t' : TI} (h : PI X tg e t) (f : ∀ σ H R, t' σ H R → t σ H R) : PI X tg e t' := ⟨fun pins s σ H R I q => h.run pins s σ H R I (f σ H R q)⟩
theorem PI.or {tg : Expr} {t t' : TI} (h : PI X tg e t) (h' : PI X tg e t') : PI X tg e (fun σ H R => t σ H R ∨ t' σ H R) := ⟨fun pins s σ H R I q => q.elim (h.run pins s σ H R I) (h'.run pins s σ H R I)⟩
theorem PS.imp {st : Stmt} {t t' : TS} (h : PS X st t) (f : ∀ D σ H, t' D σ H → t D σ H) : PS X st t' := ⟨fun pins s σ H D I q => h.run pins s σ H D I (f D σ H q)⟩
theorem PSs.imp {st : List Stmt} {t t' : TS} (h : PSs X st t) (f : ∀ D σ H, t' D σ H → t D σ H) : PSs X st t' := ⟨fun pins s σ H D I q => h.run pins s σ H D I (f D σ H q)⟩
theorem PS.or {st : Stmt} {t t' : TS} (h : PS X st t) (h' : PS X st t') : PS X st (fun D σ H => t D σ H ∨ t' D σ H) := ⟨fun pins s σ H D I q => q.elim (h.run pins s σ H D I) (h'.run pins s σ H D I)⟩
theorem OpR.imp {f : Value → Value → Sem Value} {r r' : R2} (h : OpR X f r) (g : ∀ x y H Q, r' x y H Q → r x y H Q) : OpR X f r' := fun pins s σ H x y v u Q I rx ry q => h pins s σ H x y v u Q I rx ry (g _ _ _ _ q)
theorem CallR.imp {f : Value} {r r' : List V → Hp → VK → Prop} (h : CallR X f r) (g : ∀ xs H Q, r' xs H Q → r xs H Q) : CallR X f r' := fun pins s σ H xs us Q I rs q => h pins s σ H xs us Q I rs (g _ _ _ q)
theorem MtR.imp {id : String} {r r' : V → List V → Hp → VK → Prop} (h : MtR X id r) (g : ∀ x xs H Q, r' x xs H Q → r x xs H Q) : MtR X id r' := fun pins s σ H x xs v us Q I rx rs q => h pins s σ H x xs v us Q I rx rs (g _ _ _ _ q)
theorem IxR.imp {r r' : R2} (h : IxR X r) (g : ∀ x y H Q, r' x y H Q → r x y H Q) : IxR X r' := fun a b pins s σ H x y v u Q I rx ry q => h a b pins s σ H x y v u Q I rx ry (g _ _ _ _ q)
end
def r2S (K : PySem.W.Frag) (f : RV → RV → Option RV) : R2 := fun x y H Q => ∃ F a b r, Same F H ∧ View K F H x a ∧ View K F H y b ∧ f a b = some r ∧ ∀ v F' H', Ext F H F' H' → View K F' H' v r → New r v H H' → Q v H'
inductive Views (K : PySem.W.Frag) (F H : Hp) : List V → List RV → Prop
  | nil : Views K F H [] []
  | cons {v : V} {vs : List V} {r : RV} {rs : List RV} : View K F H v r → Views K F H vs rs → Views K F H (v :: vs) (r :: rs)
def rnS (K : PySem.W.Frag) (f : List RV → Option RV) : List V → Hp → VK → Prop := fun xs H Q => ∃ F rs r, Same F H ∧ Views K F H xs rs ∧ f rs = some r ∧ ∀ v F' H', Ext F H F' H' → View K F' H' v r → New r v H H' → Q v H'
section
variable {K : PySem.W.Frag} {F H : Hp} {x : V}
theorem View.int {i : Int} (h : View K F H x (.fz (.int i))) : x = .int i := by
  cases h with
  | fz q => cases q; rfl
  | own _ _ q => cases q
theorem View.str {i : Str} (h : View K F H x (.fz (.str i))) : x = .str i := by
  cases h with
  | fz q => cases q; rfl
  | own _ _ q => cases q
theorem View.bool {i : Bool} (h : View K F H x (.fz (.bool i))) : x = .bl i := by
  cases h with
  | fz q => cases q; rfl
  | own _ _ q => cases q
theorem View.none (h : View K F H x (.fz .none)) : x = .non := by
  cases h with
  | fz q => cases q; rfl
  | own _ _ q => cases q
theorem View.rpF {d : PyData} (h : View K F H x (.fz d)) : Rp K F x d := by
  cases h with
  | fz q => exact q
  | own _ _ q => cases q
theorem Rp.intv {i : Int} (h : Rp K F x (.int i)) : x = .int i := by cases h; rfl
theorem Rp.strv {i : Str} (h : Rp K F x (.str i)) : x = .str i := by cases h; rfl
theorem Rp.nonv (h : Rp K F x .none) : x = .non := by cases h; rfl
theorem View.lstv (s : Same F H) {r : RV} {ds : List PyData} (h : View K F H x r) (e : r.lst = some ds) : ∃ p vs, x = .ref p ∧ H p = some (.lst vs) ∧ RpAll K F vs ds := by
  cases h with
  | fz q =>
    cases q <;> simp only [RV.lst] at e <;> cases e
    rename_i hF ra
    exact ⟨_, _, rfl, s _ _ hF, ra⟩
  | own f h q =>
    cases q <;> simp only [RV.lst] at e <;> cases e
    exact ⟨_, _, rfl, h, by assumption⟩
theorem View.seqv (s : Same F H) {r : RV} {ds : List PyData} (h : View K F H x r) (e : r.seq = some ds) : ∃ p vs, x = .ref p ∧ (SqL K H p vs ∨ SqT K H p vs) ∧ RpAll K F vs ds := by
  cases h with
  | fz q =>
    cases q with
    | lst hF ra => simp only [RV.seq] at e; cases e; exact ⟨_, _, rfl, .inl (SqL.of (s _ _ hF)), ra⟩
    | tup hF ra => simp only [RV.seq] at e; cases e; exact ⟨_, _, rfl, .inr (Same.sqT s hF.sqT), ra⟩
    | scr hF => simp only [RV.seq] at e; cases e; exact ⟨_, _, rfl, .inl (s.seq hF), .ofInts _⟩
    | _ => simp [RV.seq] at e
  | own f h q =>
    cases q <;> simp only [RV.seq] at e <;> cases e
    exact ⟨_, _, rfl, .inl (SqL.of h), by assumption⟩
end
theorem intsOf_eq : ∀ {ds : List PyData} {ns : List Int}, intsOf ds = some ns → ds = ns.map PyData.int
  | [], ns, h => by cases h; rfl
  | d :: r, ns, h => by
    cases d <;> simp only [intsOf] at h <;> try cases h
    obtain ⟨m, hm, rfl⟩ := mpd h
    rw [intsOf_eq hm]; rfl
def RpO (K : PySem.W.Frag) (F : Hp) : Option V → Option PyData → Prop
  | some v, some d => Rp K F v d
  | none, none => True
  | _, _ => False
theorem intsOf_map : ∀ ns : List Int, intsOf (ns.map PyData.int) = some ns
  | [] => rfl
  | n :: r => by rw [List.map_cons, intsOf, intsOf_map r]; rfl
section
variable {K : PySem.W.Frag} {F H : Hp} {x : V}
theorem Rp.intv0 {i : Int} (h : Rp K F x (.int i)) : x = .int i := by cases h; rfl
theorem View.dk (s : Same F H) {r : RV} {rest : List (PyData × PyData)} (h : View K F H x r) (e : r.dic = some ((.none, .bool false) :: rest)) : ∃ a o kvs ds, x = .ref a ∧ H a = some (dkO a o kvs) ∧ RpAll K F (kvs.map fun x => x.2) ds ∧ rest = ((kvs.map fun x => x.1).map PyData.int).zip ds := by
  cases h with
  | fz q =>
    cases q with
    | dK hF ra =>
      cases e
      exact ⟨_, _, _, _, rfl, s _ _ hF, ra, rfl⟩
    | _ => cases e
  | own f h q =>
    cases q <;> simp only [RV.dic] at e <;> cases e
    exact ⟨_, _, _, _, rfl, h, by assumption, rfl⟩
theorem View.dt (s : Same F H) {r : RV} {rest : List (PyData × PyData)} (h : View K F H x r) (e : r.dic = some ((.none, .bool true) :: rest)) : ∃ a o kvs ds, x = .ref a ∧ H a = some (dtO a o kvs) ∧ KeysN K F kvs ∧ RpAll K F (kvs.map fun x => x.2.2) ds ∧ rest = ((kvs.map fun x => x.1).map keyT).zip ds := by
  cases h with
  | fz q =>
    cases q <;> simp only [RV.dic] at e <;> cases e
    rename_i hF kn ra
    exact ⟨_, _, _, _, rfl, s _ _ hF, kn, ra, rfl⟩
  | own f h q =>
    cases q <;> simp only [RV.dic] at e <;> cases e
    exact ⟨_, _, _, _, rfl, h, by assumption, by assumption, rfl⟩
theorem look_k {i : Int} : ∀ {kvs : List (Int × V)} {ds : List PyData}, RpAll K F (kvs.map fun x => x.2) ds → RpO K F (valV kvs i) (lookD (fun z => eqI z i) (((kvs.map fun x => x.1).map PyData.int).zip ds))
  | [], _, _ => True.intro
  | p :: r, [], h => by cases h
  | p :: r, d :: ds, .cons h t => by
    have ih := look_k (i := i) t
    unfold valV lookD at ih ⊢
    rw [List.map_cons, List.map_cons, List.zip_cons_cons, List.find?_cons, List.find?_cons]
    show RpO K F (Option.map _ (match decide (p.1 = i) with | true => some p | false => _)) (Option.map _ (match eqI (.int p.1) i with | true => some (PyData.int p.1, d) | false => _))
    have e : eqI (.int p.1) i = decide (p.1 = i) := rfl
    rw [e]
    cases decide (p.1 = i) with
    | true => exact h
    | false => exact ih
theorem eqT_key (k k' : List Int) : eqT (keyT k) k' = decide (k = k') := by
  show decide (intsOf (k.map PyData.int) = some k') = _
  rw [intsOf_map]
  by_cases e : k = k'
  · subst e; simp
  · simp [e]
theorem look_t {i : List Int} : ∀ {kvs : TK} {ds : List PyData}, RpAll K F (kvs.map fun x => x.2.2) ds → RpO K F ((valT kvs i).map fun z => z.2) (lookD (fun z => eqT z i) (((kvs.map fun x => x.1).map keyT).zip ds))
  | [], _, _ => True.intro
  | p :: r, [], h => by cases h
  | p :: r, d :: ds, .cons h t => by
    have ih := look_t (i := i) t
    unfold valT lookD at ih ⊢
    rw [List.map_cons, List.map_cons, List.zip_cons_cons, List.find?_cons, List.find?_cons]
    show RpO K F (Option.map _ (Option.map _ (match decide (p.1 = i) with | true => some p | false => _))) (Option.map _ (match eqT (keyT p.1) i with | true => some (keyT p.1, d) | false => _))
    rw [eqT_key]
    cases decide (p.1 = i) with
    | true => exact h
    | false => exact ih
theorem RpO.isSome {o : Option V} {d : Option PyData} (h : RpO K F o d) : o.isSome = d.isSome := by
  cases o <;> cases d <;> first | rfl | exact h.elim
theorem View.got (s : Same F H) {r : RV} {kvs' : List (PyData × PyData)} {y : V} {k : PyData} {od : Option PyData} (h : View K F H x r) (e : r.dic = some kvs') (ry : Rp K F y k) (g : dGet kvs' k = some od) :
    (∃ a o kvs i, x = .ref a ∧ y = .int i ∧ H a = some (dkO a o kvs) ∧ RpO K F (valV kvs i) od) ∨
    ∃ a o kvs b ks, x = .ref a ∧ y = .ref b ∧ H a = some (dtO a o kvs) ∧ KeysN K F kvs ∧ TupN K F b (ks.map V.int) ∧ RpO K F ((valT kvs ks).map fun z => z.2) od := by
  unfold dGet at g
  split at g
  · rename_i rest i
    cases g
    obtain ⟨a, o, kvs, ds, rfl, ha, ra, rfl⟩ := h.dk s e
    obtain rfl := ry.intv0
    exact .inl ⟨a, o, kvs, i, rfl, rfl, ha, look_k ra⟩
  · rename_i rest dk
    obtain ⟨ks, hk, rfl⟩ := mpd g
    obtain ⟨a, o, kvs, ds, rfl, ha, kn, ra, rfl⟩ := h.dt s e
    obtain rfl := intsOf_eq hk
    cases ry with
    | tup ta rt =>
      obtain rfl := rt.ints
      exact .inr ⟨a, o, kvs, _, ks, rfl, rfl, ha, kn, ta, look_t ra⟩
  · cases g
end
section
variable {X : Cx}
theorem newFz {d : PyData} {v : V} {H H' : Hp} : New (.fz d) v H H' := fun _ h => h.elim
theorem newOl {ds : List PyData} {p : Addr} {H H' : Hp} (h : H p = none) : New (.ol ds) (.ref p) H H' := fun q e => by cases e; exact h
theorem viewNew {K : PySem.W.Frag} {F H : Hp} {p : Addr} {vs : List V} {ds : List PyData} (s : Same F H) (n : H p = none) (r : RpAll K F vs ds) : Ext F H F (upd H p (.lst vs)) ∧ View K F (upd H p (.lst vs)) (.ref p) (.ol ds) :=
  ⟨Ext.lay0 s n, .own (s.free n) upd_same (.lst r)⟩
theorem viewTup {K : PySem.W.Frag} {F H : Hp} {p : Addr} {o : Obj} {vs : List V} {ds : List PyData} (s : Same F H) (q : TupO o) (n : H p = none) (r : RpAll K F vs ds) : Ext F H (upd F p (.frz o (.tup vs))) (upd H p (.frz o (.tup vs))) ∧ View K (upd F p (.frz o (.tup vs))) (upd H p (.frz o (.tup vs))) (.ref p) (.fz (.tuple ds)) :=
  ⟨Ext.lay s n, .fz (.tup (TupN.of q upd_same) (r.mono (Same.upd (s.free n))))⟩
theorem r_add : OpR X (binaryOp .Add) (r2S X.K (binD .add)) := by
  intro pins s σ H x y v u Q I rx ry h
  obtain ⟨F, a, b, r, sf, wa, wb, h, k⟩ := h
  have h : addD a b = some r := h
  unfold addD at h
  split at h
  all_goals first
    | (cases h; done)
    | skip
  · cases h
    obtain rfl := wa.int
    obtain rfl := wb.int
    exact op_add pins s σ H _ _ v u Q I rx ry ⟨_, _, rfl, rfl, k _ F H (.refl sf) (.fz (.int _)) newFz⟩
  · obtain ⟨hl, rfl⟩ := itd h
    obtain rfl := wa.str
    obtain rfl := wb.str
    exact op_add_str pins s σ H _ _ v u Q I rx ry ⟨_, _, rfl, rfl, LIM_ok hl, k _ F H (.refl sf) (.fz (.str _)) newFz⟩
  · obtain ⟨hl, rfl⟩ := itd h
    cases wa.rpF with
    | tup ta ra =>
      cases wb.rpF with
      | tup tb rb =>
        refine op_catN pins s σ H _ _ v u Q I rx ry ⟨_, _, _, _, rfl, rfl, Same.sqT sf ta.sqT, Same.sqT sf tb.sqT, ?_, fun e => ?_, fun _ e => ?_, fun _ _ p o qo n => ?_⟩
        · rw [ra.length, rb.length]; exact LIM_ok hl
        · subst e; cases ra; exact k _ F H (.refl sf) (.fz (.tup tb rb)) newFz
        · subst e; cases rb
          rw [List.append_nil] at k
          exact k _ F H (.refl sf) (.fz (.tup ta ra)) newFz
        · obtain ⟨x1, w1⟩ := viewTup (K := X.K) sf qo n (ra.append rb)
          exact k _ _ _ x1 w1 newFz
  all_goals
    obtain ⟨hl, rfl⟩ := itd h
    obtain ⟨p, vs, rfl, hp, rp⟩ := wa.lstv sf rfl
    obtain ⟨q, ws, rfl, hq, rq⟩ := wb.lstv sf rfl
    refine op_cat pins s σ H _ _ v u Q I rx ry ⟨_, _, _, _, rfl, rfl, hp, hq, by rw [rp.length, rq.length]; exact LIM_ok hl, fun p n => ?_⟩
    obtain ⟨x1, w1⟩ := viewNew (K := X.K) sf n (rp.append rq)
    exact k _ _ _ x1 w1 (newOl n)
theorem smallI_ok {i j : Int} (h : (smallI i || smallI j) = true) : CMul i j := by
  simp only [smallI, Bool.or_eq_true, Bool.and_eq_true, decide_eq_true_eq] at h
  rcases h with ⟨h1, h2⟩ | ⟨h1, h2⟩
  · exact .inl ⟨by omega, by omega⟩
  · exact .inr ⟨by omega, by omega⟩
theorem r_mul : OpR X (binaryOp .Mult) (r2S X.K (binD .mul)) := by
  intro pins s σ H x y v u Q I rx ry h
  obtain ⟨F, a, b, r, sf, wa, wb, h, k⟩ := h
  have h : mulD a b = some r := h
  unfold mulD at h
  split at h
  all_goals first
    | (cases h; done)
    | skip
  · obtain ⟨hl, rfl⟩ := itd h
    obtain rfl := wa.int
    obtain rfl := wb.int
    exact op_mul pins s σ H _ _ v u Q I rx ry ⟨_, _, rfl, rfl, smallI_ok hl, k _ F H (.refl sf) (.fz (.int _)) newFz⟩
  · obtain ⟨⟨h1, h2, h3⟩, rfl⟩ := itd h
    cases wa.rpF with
    | tup ta ra =>
      obtain rfl := wb.int
      refine op_repA pins s σ H _ _ v u Q I rx ry ⟨_, _, _, rfl, rfl, Same.sqT sf ta.sqT, h1, h2, by rw [ra.length]; exact h3, fun e => ?_, fun _ p o qo n => ?_⟩
      · rcases e with rfl | rfl
        · cases ra
          rename_i kk _ _
          have e0 : (List.replicate kk.toNat ([] : List PyData)).flatten = [] := by
            generalize kk.toNat = m
            induction m with
            | zero => rfl
            | succ m ih => rw [List.replicate_succ, List.flatten_cons, ih]; rfl
          rw [e0] at k
          exact k _ F H (.refl sf) (.fz (.tup ta .nil)) newFz
        · have e1 : ∀ ys : List PyData, (List.replicate (1 : Int).toNat ys).flatten = ys := fun ys => List.append_nil ys
          rw [e1] at k
          exact k _ F H (.refl sf) (.fz (.tup ta ra)) newFz
      · obtain ⟨x1, w1⟩ := viewTup (K := X.K) sf qo n (ra.rep _)
        exact k _ _ _ x1 w1 newFz
  all_goals
    obtain ⟨⟨h1, h2, h3⟩, rfl⟩ := itd h
    obtain ⟨p, vs, rfl, hp, rp⟩ := wa.lstv sf rfl
    obtain rfl := wb.int
    refine op_rep pins s σ H _ _ v u Q I rx ry ⟨_, _, _, rfl, rfl, hp, by omega, by omega, by rw [rp.length]; exact LIM_ok h3, fun p n => ?_⟩
    obtain ⟨x1, w1⟩ := viewNew (K := X.K) sf n (rp.rep _)
    exact k _ _ _ x1 w1 (newOl n)
theorem r_sub : OpR X (binaryOp .Sub) (r2S X.K (binD .sub)) := by
  intro pins s σ H x y v u Q I rx ry h
  obtain ⟨F, a, b, r, sf, wa, wb, h, k⟩ := h
  have h : subD a b = some r := h
  unfold subD at h
  split at h
  all_goals first
    | (cases h; done)
    | skip
  cases h
  obtain rfl := wa.int
  obtain rfl := wb.int
  exact op_sub pins s σ H _ _ v u Q I rx ry ⟨_, _, rfl, rfl, k _ F H (.refl sf) (.fz (.int _)) newFz⟩
theorem r_fdiv : OpR X (binaryOp .FloorDiv) (r2S X.K (binD .fdiv)) := by
  intro pins s σ H x y v u Q I rx ry h
  obtain ⟨F, a, b, r, sf, wa, wb, h, k⟩ := h
  have h : fdivD a b = some r := h
  unfold fdivD at h
  split at h
  all_goals first
    | (cases h; done)
    | skip
  obtain ⟨⟨h1, h2⟩, rfl⟩ := itd h
  obtain rfl := wa.int
  obtain rfl := wb.int
  exact op_fdiv pins s σ H _ _ v u Q I rx ry ⟨_, _, rfl, rfl, ⟨h1, h2⟩, k _ F H (.refl sf) (.fz (.int _)) newFz⟩
theorem r_mod : OpR X (binaryOp .Mod) (r2S X.K (binD .mod)) := by
  intro pins s σ H x y v u Q I rx ry h
  obtain ⟨F, a, b, r, sf, wa, wb, h, k⟩ := h
  have h : modD a b = some r := h
  unfold modD at h
  split at h
  all_goals first
    | (cases h; done)
    | skip
  obtain ⟨h1, rfl⟩ := itd h
  obtain rfl := wa.int
  obtain rfl := wb.int
  exact op_mod pins s σ H _ _ v u Q I rx ry ⟨_, _, rfl, rfl, h1, k _ F H (.refl sf) (.fz (.int _)) newFz⟩
theorem r_pow : OpR X (binaryOp .Pow) (r2S X.K (binD .pow)) := by
  intro pins s σ H x y v u Q I rx ry h
  obtain ⟨F, a, b, r, sf, wa, wb, h, k⟩ := h
  have h : powD a b = some r := h
  unfold powD at h
  split at h
  all_goals first
    | (cases h; done)
    | skip
  obtain ⟨⟨h1, h2, h3⟩, rfl⟩ := itd h
  obtain rfl := wa.int
  obtain rfl := wb.int
  exact op_pow pins s σ H _ _ v u Q I rx ry ⟨_, _, rfl, rfl, ⟨h1, h2, by omega⟩, k _ F H (.refl sf) (.fz (.int _)) newFz⟩
def boO : Bo → Operator
  | .add => .Add
  | .sub => .Sub
  | .mul => .Mult
  | .fdiv => .FloorDiv
  | .mod => .Mod
  | .pow => .Pow
theorem r_bin : ∀ o : Bo, OpR X (binaryOp (boO o)) (r2S X.K (binD o))
  | .add => r_add
  | .sub => r_sub
  | .mul => r_mul
  | .fdiv => r_fdiv
  | .mod => r_mod
  | .pow => r_pow
def r2C (K : PySem.W.Frag) (f : PyData → PyData → Option Bool) : R2 := fun x y H Q => ∃ d e k, Rp K H x d ∧ Rp K H y e ∧ f d e = some k ∧ Q (.bl k) H
def coO : Co → CmpOp
  | .eq => .Eq
  | .ne => .NotEq
  | .lt => .Lt
  | .le => .LtE
  | .gt => .Gt
  | .ge => .GtE
  | .isN => .Is
  | .noN => .IsNot
  | .inn => .In
  | .nin => .NotIn
theorem shp {d : PyData} (h : SeqAt.shaped d = true) : d.canLay0 = true := SeqAt.canLay_of_shaped h
theorem ints_t {K : PySem.W.Frag} {F : Hp} : ∀ {kvs : TK} {ds : List PyData}, RpAll K F (kvs.map fun x => x.2.2) ds → ((((kvs.map fun x => x.1).map keyT).zip ds).all fun p => isIntD p.2) = true → IntsT kvs
  | [], _, _, _ => fun x hx => by simp at hx
  | p :: r, d :: ds, .cons h t, e => by
    simp only [List.map_cons, List.zip_cons_cons, List.all_cons, Bool.and_eq_true] at e
    intro x hx
    rcases List.mem_cons.mp hx with rfl | hx
    · cases d <;> simp [isIntD] at e
      exact ⟨_, h.intv0⟩
    · exact ints_t t e.2 x hx
theorem same_v {K : PySem.W.Frag} {F : Hp} {v : V} {i : Int} {d : PyData} {o : Option V} {od : Option PyData} (h : Rp K F v d) (e : v = .int i) (r : RpO K F o od) : sameV v o = sameD d od := by
  subst e
  cases h
  cases o with
  | none => cases od with
    | none => rfl
    | some _ => exact r.elim
  | some w => cases od with
    | none => exact r.elim
    | some d2 =>
      have r : Rp K F w d2 := r
      cases r <;> rfl
theorem teq_d {K : PySem.W.Frag} {F : Hp} {kb : TK} {es : List PyData} (rb : RpAll K F (kb.map fun x => x.2.2) es) : ∀ {ka : TK} {ds : List PyData}, RpAll K F (ka.map fun x => x.2.2) ds → IntsT ka → teqV ka kb = teqD (((ka.map fun x => x.1).map keyT).zip ds) (((kb.map fun x => x.1).map keyT).zip es)
  | [], _, _, _ => rfl
  | p :: r, d :: ds, .cons h t, hi => by
    have ih := teq_d rb t fun x hx => hi x (by simp [hx])
    unfold teqV teqD at ih ⊢
    rw [List.map_cons, List.map_cons, List.zip_cons_cons, List.all_cons, List.all_cons, ih]
    congr 1
    obtain ⟨i, e⟩ := hi p (by simp)
    show _ = match intsOf (p.1.map PyData.int) with | some k => _ | none => _
    rw [intsOf_map]
    exact same_v h e (look_t rb)
theorem eq_dict {K : PySem.W.Frag} {H : Hp} {x y : V} {d e : PyData} {b : Bool} (hd : Rp K H x d) (he : Rp K H y e) (h : eqDict d e = some b) : ∃ a b' o o' ka kb, x = V.ref a ∧ y = V.ref b' ∧ H a = some (dtO a o ka) ∧ H b' = some (dtO b' o' kb) ∧ KeysN K H ka ∧ KeysN K H kb ∧ IntsT ka ∧ IntsT kb ∧ (ka.length == kb.length && teqV ka kb) = b := by
  unfold eqDict at h
  split at h
  · obtain ⟨hi, rfl⟩ := itd h
    rw [Bool.and_eq_true] at hi
    obtain ⟨a, o, ka, ds, rfl, ha, na, ra, rfl⟩ := (View.fz (H := H) hd).dt (Same.refl _) rfl
    obtain ⟨b, o', kb, es, rfl, hb, nb, rb, rfl⟩ := (View.fz (H := H) he).dt (Same.refl _) rfl
    have ia := ints_t ra hi.1
    have ib := ints_t rb hi.2
    refine ⟨a, b, o, o', ka, kb, rfl, rfl, ha, hb, na, nb, ia, ib, ?_⟩
    have l1 := ra.length
    have l2 := rb.length
    rw [List.length_map] at l1 l2
    rw [teq_d rb ra ia, List.length_zip, List.length_zip, List.length_map, List.length_map, List.length_map, List.length_map, ← l1, ← l2, Nat.min_self, Nat.min_self]
  · cases h
theorem r_eq (hu : X.A.units + 64 < cLine) : OpR X (compareOp .Eq) (r2C X.K (cmpD .eq)) := by
  intro pins s σ H x y v u Q I rx ry h
  obtain ⟨d, e, k, hd, he, h, q⟩ := h
  have h : (match eqDict d e with | some b => some b | none => if SeqAt.shaped d && SeqAt.shaped e then some (PyData.eqv d e) else none) = some k := h
  cases z : eqDict d e with
  | some b =>
    rw [z] at h
    cases h
    obtain ⟨a, b', o, o', ka, kb, rfl, rfl, h1, h2, h3, h4, h5, h6, h7⟩ := eq_dict hd he z
    exact op_eq_tk (by omega) pins s σ H _ _ v u Q I rx ry ⟨a, b', o, o', ka, kb, rfl, rfl, h1, h2, h3, h4, h5, h6, by rw [h7]; exact q⟩
  | none =>
    rw [z] at h
    obtain ⟨hl, rfl⟩ := itd h
    rw [Bool.and_eq_true] at hl
    exact op_eqD hu pins s σ H _ _ v u Q I rx ry ⟨d, e, hd.dp (shp hl.1), he.dp (shp hl.2), hl.1, hl.2, q⟩
theorem r_ne (hu : X.A.units + 64 < cLine) : OpR X (compareOp .NotEq) (r2C X.K (cmpD .ne)) := by
  intro pins s σ H x y v u Q I rx ry h
  obtain ⟨d, e, k, hd, he, h, q⟩ := h
  have h : (match eqDict d e with | some b => some (!b) | none => if SeqAt.shaped d && SeqAt.shaped e then some (!PyData.eqv d e) else none) = some k := h
  cases z : eqDict d e with
  | some b =>
    rw [z] at h
    cases h
    obtain ⟨a, b', o, o', ka, kb, rfl, rfl, h1, h2, h3, h4, h5, h6, h7⟩ := eq_dict hd he z
    exact op_ne_tk (by omega) pins s σ H _ _ v u Q I rx ry ⟨a, b', o, o', ka, kb, rfl, rfl, h1, h2, h3, h4, h5, h6, by rw [h7]; exact q⟩
  | none =>
    rw [z] at h
    obtain ⟨hl, rfl⟩ := itd h
    rw [Bool.and_eq_true] at hl
    exact op_neD hu pins s σ H _ _ v u Q I rx ry ⟨d, e, hd.dp (shp hl.1), he.dp (shp hl.2), hl.1, hl.2, q⟩
theorem boolsOf_eq : ∀ {ds : List PyData} {ns : List Bool}, boolsOf ds = some ns → ds = ns.map PyData.bool
  | [], ns, h => by cases h; rfl
  | d :: r, ns, h => by
    cases d <;> simp only [boolsOf] at h <;> try cases h
    obtain ⟨m, hm, rfl⟩ := mpd h
    rw [boolsOf_eq hm]; rfl
theorem strsOf_eq : ∀ {ds : List PyData} {ns : List Str}, strsOf ds = some ns → ds = ns.map PyData.str
  | [], ns, h => by cases h; rfl
  | d :: r, ns, h => by
    cases d <;> simp only [strsOf] at h <;> try cases h
    obtain ⟨m, hm, rfl⟩ := mpd h
    rw [strsOf_eq hm]; rfl
theorem r_lt (hu : X.A.units < cLine) : OpR X (compareOp .Lt) (r2C X.K (cmpD .lt)) := by
  intro pins s σ H x y v u Q I rx ry h
  obtain ⟨d, e, k, hd, he, h, q⟩ := h
  have h : ltD d e = some k := h
  unfold ltD at h
  split at h
  · cases h
    obtain rfl := hd.intv
    obtain rfl := he.intv
    exact op_lt pins s σ H _ _ v u Q I rx ry ⟨_, _, rfl, rfl, q⟩
  · obtain ⟨ns, h1, h⟩ := bnd h
    obtain ⟨ms, h2, h⟩ := bnd h
    cases h
    obtain rfl := intsOf_eq h1
    obtain rfl := intsOf_eq h2
    cases hd with
    | tup ta ra =>
      cases he with
      | tup tb rb =>
        obtain rfl := ra.ints
        obtain rfl := rb.ints
        exact op_ltT hu pins s σ H _ _ v u Q I rx ry ⟨_, _, _, _, rfl, rfl, ta.sqT, tb.sqT, q⟩
  · cases h
theorem ordD_int {f : Int → Int → Bool} {d e : PyData} {k : Bool} (h : ordD f d e = some k) : ∃ i j, d = .int i ∧ e = .int j ∧ f i j = k := by
  unfold ordD at h
  split at h
  · exact ⟨_, _, rfl, rfl, Option.some.inj h⟩
  · cases h
theorem r_le : OpR X (compareOp .LtE) (r2C X.K (cmpD .le)) := by
  intro pins s σ H x y v u Q I rx ry h
  obtain ⟨d, e, k, hd, he, h, q⟩ := h
  obtain ⟨i, j, rfl, rfl, rfl⟩ := ordD_int h
  obtain rfl := hd.intv
  obtain rfl := he.intv
  exact op_le pins s σ H _ _ v u Q I rx ry ⟨_, _, rfl, rfl, q⟩
theorem r_gt : OpR X (compareOp .Gt) (r2C X.K (cmpD .gt)) := by
  intro pins s σ H x y v u Q I rx ry h
  obtain ⟨d, e, k, hd, he, h, q⟩ := h
  obtain ⟨i, j, rfl, rfl, rfl⟩ := ordD_int h
  obtain rfl := hd.intv
  obtain rfl := he.intv
  exact op_gt pins s σ H _ _ v u Q I rx ry ⟨_, _, rfl, rfl, q⟩
theorem r_ge : OpR X (compareOp .GtE) (r2C X.K (cmpD .ge)) := by
  intro pins s σ H x y v u Q I rx ry h
  obtain ⟨d, e, k, hd, he, h, q⟩ := h
  obtain ⟨i, j, rfl, rfl, rfl⟩ := ordD_int h
  obtain rfl := hd.intv
  obtain rfl := he.intv
  exact op_ge pins s σ H _ _ v u Q I rx ry ⟨_, _, rfl, rfl, q⟩
theorem non_dec {K : PySem.W.Frag} {H : Hp} {x : V} {d : PyData} (h : Rp K H x d) : decide (x = .non) = isNone d := by
  cases h <;> simp [isNone]
theorem r_isN : OpR X (compareOp .Is) (r2C X.K (cmpD .isN)) := by
  intro pins s σ H x y v u Q I rx ry h
  obtain ⟨d, e, k, hd, he, h, q⟩ := h
  by_cases hb : ∃ a b, d = .bool a ∧ e = .bool b
  · obtain ⟨a, b, rfl, rfl⟩ := hb
    cases hd
    cases he
    cases rx
    cases ry
    cases a <;> cases b <;> cases h <;> exact wpAny_bind (wpAny_isSame_plain rfl (wpAny_pure (fin_bl I q rfl)))
  have h : e = .none ∧ some (isNone d) = some k := by
    cases e <;> first
      | exact ⟨rfl, by cases d <;> exact h⟩
      | (cases d <;> first | (cases h; done) | exact absurd ⟨_, _, rfl, rfl⟩ hb)
  obtain ⟨rfl, h⟩ := h
  cases h
  obtain rfl := he.nonv
  exact op_isN pins s σ H _ _ v u Q I rx ry ⟨rfl, by rw [non_dec hd]; exact q⟩
theorem r_noN : OpR X (compareOp .IsNot) (r2C X.K (cmpD .noN)) := by
  intro pins s σ H x y v u Q I rx ry h
  obtain ⟨d, e, k, hd, he, h, q⟩ := h
  by_cases hb : ∃ a b, d = .bool a ∧ e = .bool b
  · obtain ⟨a, b, rfl, rfl⟩ := hb
    cases hd
    cases he
    cases rx
    cases ry
    cases a <;> cases b <;> cases h <;> exact wpAny_bind (wpAny_isSame_plain rfl (wpAny_pure (fin_bl I q rfl)))
  have h : e = .none ∧ some (!isNone d) = some k := by
    cases e <;> first
      | exact ⟨rfl, by cases d <;> exact h⟩
      | (cases d <;> first | (cases h; done) | exact absurd ⟨_, _, rfl, rfl⟩ hb)
  obtain ⟨rfl, h⟩ := h
  cases h
  obtain rfl := he.nonv
  exact op_notN pins s σ H _ _ v u Q I rx ry ⟨rfl, by rw [non_dec hd]; exact q⟩
theorem scal_flat {K : PySem.W.Frag} {H : Hp} {x : V} {d : PyData} (h : Rp K H x d) (s : scalD d = true) : flatV x = true := by
  cases h <;> first | rfl | simp [scalD] at s
theorem eqV_eqv {K : PySem.W.Frag} {H : Hp} {x y : V} {d e : PyData} (h : Rp K H x d) (h' : Rp K H y e) (s : scalD d = true) (s' : scalD e = true) : eqV x y = PyData.eqv d e := by
  cases h <;> first | (simp [scalD] at s; done) | (cases h' <;> first | (simp [scalD] at s'; done) | simp [eqV, PyData.eqv])
theorem inV_eq {K : PySem.W.Frag} {H : Hp} {x : V} {d : PyData} (h : Rp K H x d) (s : scalD d = true) : ∀ {vs : List V} {ds : List PyData}, RpAll K H vs ds → ds.all scalD = true → vs.all flatV = true ∧ inV x vs = ds.any fun z => PyData.eqv z d
  | _, _, .nil, _ => ⟨rfl, rfl⟩
  | _, _, .cons r t, e => by
    rw [List.all_cons, Bool.and_eq_true] at e
    obtain ⟨h1, h2⟩ := inV_eq h s t e.2
    refine ⟨by rw [List.all_cons, scal_flat r e.1, h1]; rfl, ?_⟩
    show ((_ :: _).any fun y => eqV y x) = _
    rw [List.any_cons, List.any_cons, eqV_eqv r h e.1 s]
    exact congrArg _ h2
theorem str1 {z : Str} (h : z.cps.size = 1) : z = ⟨#[z.cps.getD 0 0]⟩ := by
  obtain ⟨⟨l⟩⟩ := z
  match l, h with
  | [c], _ => rfl
theorem op_inTD (hu : X.A.units + 65 < cLine) : OpR X (compareOp .In) (fun x y H Q => ∃ d ds, Dp X.K H x d ∧ Dp X.K H y (.tuple ds) ∧ SeqAt.shaped d = true ∧ SeqAt.shaped (.tuple ds) = true ∧ Q (.bl (ds.any fun z => PyData.eqv z d)) H) := by
  intro pins s σ H x y v u Q I rx ry h
  obtain ⟨d, ds, hd, he, sd, se, q⟩ := h
  obtain ⟨as, r1⟩ := Dp.reads I d x v hd rx
  obtain ⟨bs, r2⟩ := Dp.reads I (.tuple ds) y u he ry
  exact SeqAt.in_tuple_reads r2 r1 (SeqAt.canLay_of_shaped se) (SeqAt.canLay_of_shaped sd) (room_in_shaped sd hu) ⟨.bl _, H, I, rfl, q⟩
theorem op_notInTD (hu : X.A.units + 65 < cLine) : OpR X (compareOp .NotIn) (fun x y H Q => ∃ d ds, Dp X.K H x d ∧ Dp X.K H y (.tuple ds) ∧ SeqAt.shaped d = true ∧ SeqAt.shaped (.tuple ds) = true ∧ Q (.bl (!ds.any fun z => PyData.eqv z d)) H) := by
  intro pins s σ H x y v u Q I rx ry h
  obtain ⟨d, ds, hd, he, sd, se, q⟩ := h
  obtain ⟨as, r1⟩ := Dp.reads I d x v hd rx
  obtain ⟨bs, r2⟩ := Dp.reads I (.tuple ds) y u he ry
  exact SeqAt.notIn_tuple_reads r2 r1 (SeqAt.canLay_of_shaped se) (SeqAt.canLay_of_shaped sd) (room_in_shaped sd hu) ⟨.bl _, H, I, rfl, q⟩
theorem r_inn (hu : X.A.units + 65 < cLine) : OpR X (compareOp .In) (r2C X.K (cmpD .inn)) := by
  intro pins s σ H x y v u Q I rx ry h
  obtain ⟨d, e, k, hd, he, h, q⟩ := h
  have h : inD d e = some k := h
  unfold inD at h
  split at h
  · obtain ⟨od, g, rfl⟩ := mpd h
    rcases (View.fz (H := H) he).got (Same.refl _) rfl hd g with ⟨a, o, kvs, i, e1, e2, ha, ro⟩ | ⟨a, o, kvs, b, ks, e1, e2, ha, kn, tb, ro⟩
    · exact op_in_dk pins s σ H _ _ v u Q I rx ry ⟨a, o, kvs, i, e1, e2, ha, by rw [ro.isSome]; exact q⟩
    · exact op_in_tk (by omega) pins s σ H _ _ v u Q I rx ry ⟨a, o, kvs, b, ks, e1, e2, ha, kn, tb, by have := ro.isSome; rw [Option.isSome_map] at this; rw [this]; exact q⟩
  · obtain ⟨hl, rfl⟩ := itd h
    obtain rfl := hd.strv
    obtain rfl := he.strv
    refine op_in_sign pins s σ H _ _ v u Q I rx ry ⟨_, _, ?_, rfl, q⟩
    exact congrArg _ (str1 hl)
  · obtain ⟨hl, rfl⟩ := itd h
    rw [Bool.and_eq_true] at hl
    exact op_inD hu pins s σ H _ _ v u Q I rx ry ⟨_, _, hd.dp (shp hl.1), he.dp (shp hl.2), hl.1, hl.2, q⟩
  · split at h
    · rename_i hl
      cases h
      rw [Bool.and_eq_true] at hl
      cases he with
      | tup ta ra =>
        obtain ⟨h1, h2⟩ := inV_eq hd hl.1 ra hl.2
        rw [← h2] at q
        exact op_in_seq pins s σ H _ _ v u Q I rx ry ⟨_, _, rfl, .inr ta.sqT, scal_flat hd hl.1, h1, q⟩
    · obtain ⟨hl, rfl⟩ := itd h
      rw [Bool.and_eq_true] at hl
      exact op_inTD hu pins s σ H _ _ v u Q I rx ry ⟨_, _, hd.dp (shp hl.1), he.dp (shp hl.2), hl.1, hl.2, q⟩
  · cases h
theorem r_nin (hu : X.A.units + 65 < cLine) : OpR X (compareOp .NotIn) (r2C X.K (cmpD .nin)) := by
  intro pins s σ H x y v u Q I rx ry h
  obtain ⟨d, e, k, hd, he, h, q⟩ := h
  have h : (inD d e).map not = some k := h
  obtain ⟨k', h', rfl⟩ := mpd h
  unfold inD at h'
  replace h := h'
  split at h
  · obtain ⟨od, g, rfl⟩ := mpd h
    rcases (View.fz (H := H) he).got (Same.refl _) rfl hd g with ⟨a, o, kvs, i, e1, e2, ha, ro⟩ | ⟨a, o, kvs, b, ks, e1, e2, ha, kn, tb, ro⟩
    · exact op_nin_dk pins s σ H _ _ v u Q I rx ry ⟨a, o, kvs, i, e1, e2, ha, by rw [ro.isSome]; exact q⟩
    · exact op_nin_tk (by omega) pins s σ H _ _ v u Q I rx ry ⟨a, o, kvs, b, ks, e1, e2, ha, kn, tb, by have := ro.isSome; rw [Option.isSome_map] at this; rw [this]; exact q⟩
  · obtain ⟨hl, rfl⟩ := itd h
    obtain rfl := hd.strv
    obtain rfl := he.strv
    refine op_notIn_sign pins s σ H _ _ v u Q I rx ry ⟨_, _, ?_, rfl, q⟩
    exact congrArg _ (str1 hl)
  · obtain ⟨hl, rfl⟩ := itd h
    rw [Bool.and_eq_true] at hl
    exact op_notInD hu pins s σ H _ _ v u Q I rx ry ⟨_, _, hd.dp (shp hl.1), he.dp (shp hl.2), hl.1, hl.2, q⟩
  · split at h
    · rename_i hl
      cases h
      rw [Bool.and_eq_true] at hl
      cases he with
      | tup ta ra =>
        obtain ⟨h1, h2⟩ := inV_eq hd hl.1 ra hl.2
        rw [← h2] at q
        exact op_notIn_seq pins s σ H _ _ v u Q I rx ry ⟨_, _, rfl, .inr ta.sqT, scal_flat hd hl.1, h1, q⟩
    · obtain ⟨hl, rfl⟩ := itd h
      rw [Bool.and_eq_true] at hl
      exact op_notInTD hu pins s σ H _ _ v u Q I rx ry ⟨_, _, hd.dp (shp hl.1), he.dp (shp hl.2), hl.1, hl.2, q⟩
  · cases h
theorem r_cmp (hu : X.A.units + 65 < cLine) : ∀ o : Co, OpR X (compareOp (coO o)) (r2C X.K (cmpD o))
  | .eq => r_eq (by omega)
  | .ne => r_ne (by omega)
  | .lt => r_lt (by omega)
  | .le => r_le
  | .gt => r_gt
  | .ge => r_ge
  | .isN => r_isN
  | .noN => r_noN
  | .inn => r_inn hu
  | .nin => r_nin hu
theorem atI_rp {K : PySem.W.Frag} {F : Hp} {vs : List V} {ds : List PyData} {i : Int} {d : PyData} (r : RpAll K F vs ds) (h : atI ds i = some d) : ∃ v, atI vs i = some v ∧ Rp K F v d := by
  unfold atI at h ⊢
  obtain ⟨j, h1, h2⟩ := bnd h
  rw [r.length, h1, Option.bind_some]
  exact r.getD h2
theorem r_ix0 : IxR X (r2S X.K idx0) := by
  intro a b pins s σ H x y v u Q I rx ry h
  obtain ⟨F, a', b', r, sf, wa, wb, h, k⟩ := h
  unfold idx0 at h
  split at h
  · obtain ⟨hl, h⟩ := itd' h
    obtain ⟨c, hc, rfl⟩ := mpd h
    obtain rfl := wa.str
    obtain rfl := wb.int
    exact ix_str a b pins s σ H _ _ v u Q I rx ry ⟨_, _, c, rfl, rfl, LIM_ok hl, hc, k _ F H (.refl sf) (.fz (.str _)) newFz⟩
  · obtain ⟨ds, hds, h⟩ := bnd h
    obtain ⟨d, hd, rfl⟩ := mpd h
    obtain ⟨p, vs, rfl, hp, rp⟩ := wa.seqv sf hds
    obtain rfl := wb.int
    obtain ⟨w, hw, rw'⟩ := atI_rp rp hd
    have q := k w F H (.refl sf) (.fz rw') newFz
    rcases hp with hp | hp
    · exact ix_list a b pins s σ H _ _ v u Q I rx ry ⟨p, vs, _, w, rfl, rfl, hp, hw, q⟩
    · exact ix_tup a b pins s σ H _ _ v u Q I rx ry ⟨p, vs, _, w, rfl, rfl, hp, hw, q⟩
  · cases h
theorem View.frz {K : PySem.W.Frag} {F H : Hp} {x : V} {r : RV} (h : View K F H x r) (o : r.isOwn = false) : Rp K F x r.d := by
  cases h with
  | fz q => exact q
  | own _ _ q => rw [q.isOwn] at o; cases o
theorem r_ix (hu : X.A.units + 1 < cLine) : IxR X (r2S X.K idxD) := by
  intro e1 e2 pins s σ H x y v u Q I rx ry h
  obtain ⟨F, a, b, r, sf, wa, wb, h, k⟩ := h
  unfold idxD at h
  split at h
  · rename_i od g
    by_cases ob : b.isOwn = true
    · rw [if_pos ob] at h; cases h
    · rw [if_neg ob] at h
      obtain ⟨kvs', hk, g⟩ := bnd g
      obtain ⟨d, rfl, rfl⟩ := mpd h
      have ob : b.isOwn = false := by simpa using ob
      rcases wa.got sf hk (wb.frz ob) g with ⟨a, o, kvs, i, e1, e2, ha, ro⟩ | ⟨a, o, kvs, p, ks, e1, e2, ha, kn, tb, ro⟩
      · cases hv : valV kvs i with
        | none => rw [hv] at ro; exact ro.elim
        | some z =>
          rw [hv] at ro
          exact ix_dk _ _ pins s σ H _ _ v u Q I rx ry ⟨a, o, kvs, i, z, e1, e2, ha, hv, k z F H (.refl sf) (.fz ro) newFz⟩
      · cases hv : valT kvs ks with
        | none => rw [hv] at ro; exact ro.elim
        | some z =>
          rw [hv] at ro
          obtain ⟨z0, z⟩ := z
          exact ix_tk hu _ _ pins s σ H _ _ v u Q I rx ry ⟨a, o, kvs, p, ks, z0, z, e1, e2, ha, kn.mono sf, Same.tupN sf tb, hv, k z F H (.refl sf) (.fz ro) newFz⟩
  · exact r_ix0 _ _ pins s σ H _ _ v u Q I rx ry ⟨F, a, b, r, sf, wa, wb, h, k⟩
def rSS (K : PySem.W.Frag) : V → Option Int → Option Int → Hp → VK → Prop := fun x lo hi H Q => ∃ F a r, Same F H ∧ View K F H x a ∧ slcD a lo hi = some r ∧ ∀ v F' H', Ext F H F' H' → View K F' H' v r → New r v H H' → Q v H'
theorem RpAll.cut {K : PySem.W.Frag} {F : Hp} {vs : List V} {ds : List PyData} (r : RpAll K F vs ds) (lo hi : Option Int) : RpAll K F (cutV vs lo hi) (cutD ds lo hi) := by
  unfold cutV cutD
  rw [r.length]
  exact (r.drop _).take _
theorem r_sl : SlR X (rSS X.K) := by
  intro pins s σ H x v vl vu lo hi sl Q I rx hs pl pu h
  obtain ⟨F, a, r, sf, wa, h, k⟩ := h
  unfold slcD at h
  split at h
  · cases h
    obtain ⟨p, vs, rfl, hp, rp⟩ := wa.lstv sf rfl
    refine sl_list pins s σ H _ v vl vu lo hi sl Q I rx hs pl pu ⟨p, vs, rfl, SqL.of hp, fun q n => ?_⟩
    obtain ⟨x1, w1⟩ := viewNew (K := X.K) sf n (rp.cut lo hi)
    exact k _ _ _ x1 w1 (newOl n)
  · cases h
    obtain ⟨p, vs, rfl, hp, rp⟩ := wa.lstv sf rfl
    refine sl_list pins s σ H _ v vl vu lo hi sl Q I rx hs pl pu ⟨p, vs, rfl, SqL.of hp, fun q n => ?_⟩
    obtain ⟨x1, w1⟩ := viewNew (K := X.K) sf n (rp.cut lo hi)
    exact k _ _ _ x1 w1 (newOl n)
  · cases h
    cases wa.rpF with
    | tup ta ra =>
      refine sl_tupN pins s σ H _ v vl vu lo hi sl Q I rx hs pl pu ⟨_, _, rfl, Same.sqT sf ta.sqT, fun e => ?_, fun _ q o qo n => ?_⟩
      · have e2 := ra.cut lo hi
        unfold cutV at e2
        rw [e.1, e.2, Nat.sub_zero, List.drop_zero, List.take_length] at e2
        exact k _ F H (.refl sf) (.fz (.tup ta e2)) newFz
      · obtain ⟨x1, w1⟩ := viewTup (K := X.K) sf qo n (ra.cut lo hi)
        exact k _ _ _ x1 w1 newFz
  · obtain ⟨hl, rfl⟩ := itd h
    obtain rfl := wa.str
    exact sl_str pins s σ H _ v vl vu lo hi sl Q I rx hs pl pu ⟨_, rfl, LIM_ok hl, k _ F H (.refl sf) (.fz (.str _)) newFz⟩
  · cases h
def tyN : Ty → String
  | .int => "int"
  | .bool => "bool"
  | .str => "str"
  | .list => "list"
  | .tuple => "tuple"
  | .dict => "dict"
def dTy : PyData → String
  | .none => "NoneType"
  | .bool _ => "bool"
  | .int _ => "int"
  | .str _ => "str"
  | .list _ => "list"
  | .tuple _ => "tuple"
  | .dict _ => "dict"
theorem kit_isD (d : PyData) (t : Ty) : kitB (dTy d) (tyN t) = some (isD t d) := by
  cases d <;> cases t <;> (simp only [dTy, tyN, isD]; decide +kernel)
theorem rp_ty {K : PySem.W.Frag} {H : Hp} {x : V} {d : PyData} (h : Rp K H x d) (n : notScr d = true) (nr : dRows d = none) : TyX K H x (.type (dTy d)) := by
  cases h with
  | non => exact .base .non
  | bl b => exact .base (.bl b)
  | int i => exact .base (.int i)
  | str z => exact .base (.str z)
  | lst a r => exact .base (.lst a)
  | scr a => simp [notScr] at n
  | xc0 _ _ => simp [notScr] at n
  | xc1 _ _ _ _ => simp [notScr] at n
  | ins _ _ _ _ => simp [notScr] at n
  | tup a r =>
    rcases a.sqT with (a | ⟨o, a⟩) | ⟨o, its, m, a, c, _⟩
    · exact .base (.tup a)
    · exact .fTuple a
    · exact .kTuple a c
  | dK a r => cases nr
  | dT a kn r => cases nr
theorem minI_ok : ∀ {ns : List Int} {m : Int}, minI ns = some m → 0 < ns.length ∧ ∀ k, k ∈ ns → (∀ y, y ∈ ns → k ≤ y) → k = m
  | [], m, h => by cases h
  | [x], m, h => by
    cases h
    exact ⟨by simp, fun k hk _ => by simpa using hk⟩
  | x :: y :: r, m, h => by
    obtain ⟨m', h1, h2⟩ := mpd (show ((minI (y :: r)).map fun m => if m < x then m else x) = some m from h)
    have mm : ∀ {l : List Int} {m : Int}, minI l = some m → m ∈ l ∧ ∀ z ∈ l, m ≤ z := by
      intro l
      induction l with
      | nil => intro m h; cases h
      | cons a l ih =>
        intro m h
        cases l with
        | nil => cases h; exact ⟨by simp, fun z hz => by simp at hz; omega⟩
        | cons b l =>
          obtain ⟨m2, q1, q2⟩ := mpd (show ((minI (b :: l)).map fun m => if m < a then m else a) = some m from h)
          obtain ⟨i1, i2⟩ := ih q1
          by_cases c : m2 < a
          · rw [if_pos c] at q2
            subst q2
            exact ⟨List.mem_cons_of_mem _ i1, fun z hz => by
              rcases List.mem_cons.mp hz with rfl | hz
              · omega
              · exact i2 z hz⟩
          · rw [if_neg c] at q2
            subst q2
            exact ⟨by simp, fun z hz => by
              rcases List.mem_cons.mp hz with rfl | hz
              · omega
              · have := i2 z hz; omega⟩
    obtain ⟨i1, i2⟩ := mm h
    refine ⟨by simp, fun k hk hy => ?_⟩
    have a1 := hy m i1
    have a2 := i2 k hk
    omega
theorem maxI_ok {ns : List Int} {m : Int} (h : maxI ns = some m) : 0 < ns.length ∧ ∀ k, k ∈ ns → (∀ y, y ∈ ns → y ≤ k) → k = m := by
  have mm : ∀ {l : List Int} {m : Int}, maxI l = some m → m ∈ l ∧ ∀ z ∈ l, z ≤ m := by
    intro l
    induction l with
    | nil => intro m h; cases h
    | cons a l ih =>
      intro m h
      cases l with
      | nil => cases h; exact ⟨by simp, fun z hz => by simp at hz; omega⟩
      | cons b l =>
        obtain ⟨m2, q1, q2⟩ := mpd (show ((maxI (b :: l)).map fun m => if a < m then m else a) = some m from h)
        obtain ⟨i1, i2⟩ := ih q1
        by_cases c : a < m2
        · rw [if_pos c] at q2
          subst q2
          exact ⟨List.mem_cons_of_mem _ i1, fun z hz => by
            rcases List.mem_cons.mp hz with rfl | hz
            · omega
            · exact i2 z hz⟩
        · rw [if_neg c] at q2
          subst q2
          exact ⟨by simp, fun z hz => by
            rcases List.mem_cons.mp hz with rfl | hz
            · omega
            · have := i2 z hz; omega⟩
  obtain ⟨i1, i2⟩ := mm h
  refine ⟨List.length_pos_of_mem i1, fun k hk hy => ?_⟩
  have a1 := hy m i1
  have a2 := i2 k hk
  omega
theorem views1 {K : PySem.W.Frag} {F H : Hp} {xs : List V} {r : RV} (h : Views K F H xs [r]) : ∃ x, xs = [x] ∧ View K F H x r := by
  cases h with
  | cons a b => cases b; exact ⟨_, rfl, a⟩
theorem views2 {K : PySem.W.Frag} {F H : Hp} {xs : List V} {r r' : RV} (h : Views K F H xs [r, r']) : ∃ x y, xs = [x, y] ∧ View K F H x r ∧ View K F H y r' := by
  cases h with
  | cons a b => cases b with | cons c d => cases d; exact ⟨_, _, rfl, a, c⟩
def biV : Bi → Value
  | .len => .builtin "len"
  | .sum => .builtin "sum"
  | .min2 => .builtin "min"
  | .max2 => .builtin "max"
  | .minL => .builtin "min"
  | .maxL => .builtin "max"
  | .any => .builtin "any"
  | .all => .builtin "all"
  | .int => .type "int"
  | .str => .type "str"
  | .tup => .type "tuple"
  | .list => .type "list"
  | .sorted => .builtin "sorted"
  | .isI _ => .builtin "isinstance"
theorem b_len : CallR X (.builtin "len") (rnS X.K (biD .len)) := by
  intro pins s σ H xs us Q I rs h
  obtain ⟨F, rv, r, sf, ws, h, k⟩ := h
  unfold biD at h
  split at h <;> try (first | contradiction | (cases h; done) | (rename_i e; cases e; done))
  · obtain ⟨hl, rfl⟩ := itd h
    obtain ⟨x, rfl, w⟩ := views1 ws
    obtain rfl := w.str
    exact call_len_str pins s σ H _ us Q I rs ⟨_, rfl, LIM_ok hl, k _ F H (.refl sf) (.fz (.int _)) newFz⟩
  · obtain ⟨x, rfl, w⟩ := views1 ws
    split at h
    · rename_i kvs hr
      cases h
      obtain ⟨kvs', hk, hr⟩ := bnd hr
      unfold dRows at hr
      split at hr
      · rename_i bb rest e
        cases hr
        cases e
        cases bb with
        | false =>
          obtain ⟨a, o, kvs, ds, rfl, ha, ra, rfl⟩ := w.dk sf hk
          refine call_lenX pins s σ H _ us Q I rs ⟨a, o, kvs, rfl, ha, ?_⟩
          have l := ra.length
          rw [List.length_map] at l
          rw [List.length_zip, List.length_map, List.length_map, ← l, Nat.min_self] at k
          exact k _ F H (.refl sf) (.fz (.int _)) newFz
        | true =>
          obtain ⟨a, o, kvs, ds, rfl, ha, kn, ra, rfl⟩ := w.dt sf hk
          refine call_lenXT pins s σ H _ us Q I rs ⟨a, o, kvs, rfl, ha, kn.mono sf, ?_⟩
          have l := ra.length
          rw [List.length_map] at l
          rw [List.length_zip, List.length_map, List.length_map, ← l, Nat.min_self] at k
          exact k _ F H (.refl sf) (.fz (.int _)) newFz
      · cases hr
    · obtain ⟨ds, hd, rfl⟩ := mpd h
      obtain ⟨p, vs, rfl, hp, rp⟩ := w.seqv sf hd
      exact call_len_seq pins s σ H _ us Q I rs ⟨p, vs, rfl, hp, by rw [rp.length]; exact k _ F H (.refl sf) (.fz (.int _)) newFz⟩
theorem sum_tupR {prog : Program} {w : World} {A : Around} {E : Value → Shared → Prop} {s : Shared} {l : Addr} {its : List Value} {ns : List Int} {Q : Value → Shared → Prop} (hh : A.handled = none) (hl : s.heap.IsTuple l its.toArray) (hi : IntsAre its ns)
    (h : ∀ h' tk t', (∀ b o, s.heap.get? b = some o → h'.get? b = some o) → Q (.int ns.sum t') { s with heap := h', toks := tk }) : wpAny (model prog w) A (call (.builtin "sum") [.ref l]) Q E s := by
  obtain ⟨xs, e⟩ := hi.allInts.items
  have hn : numsOf (intItems xs).toList = ns := by rw [← e]; exact hi.numsOf
  rw [nums_intItems] at hn
  rw [e] at hl
  refine PySem.W.ktm_sumG hh hl fun h' tk t' hk => ?_
  have := h h' tk t' hk
  rw [preSum_eq, List.take_of_length_le (by simp), hn]; exact this
theorem cr_sumT (hc : X.calm = true) : CallR X (.builtin "sum") (fun vs H Q => ∃ (a : Addr) (ns : List Int), vs = [V.ref a] ∧ (SqL X.K H a (ns.map V.int) ∨ SqT X.K H a (ns.map V.int)) ∧ Q (.int ns.sum) H) := by
  intro pins s σ H vs us Q I r h
  obtain ⟨a, ns, rfl, hs | hs, q⟩ := h
  · exact cr_sum hc pins s σ H _ us Q I r ⟨a, ns, rfl, hs, q⟩
  · obtain ⟨its, rv, hl, _⟩ := I.tuple hs
    rw [Vals.ref1 r]
    obtain ⟨o, ho, hcl, n, hd⟩ := hl
    exact sum_tupR (I.ok.hd hc) ⟨o, ho, hcl, n, hd⟩ rv.ints fun h' tk t' hk => ⟨.int _, H, I.kept hk, ⟨_, rfl⟩, q⟩
theorem b_sum (hc : X.calm = true) : CallR X (.builtin "sum") (rnS X.K (biD .sum)) := by
  intro pins s σ H xs us Q I rs h
  obtain ⟨F, rv, r, sf, ws, h, k⟩ := h
  unfold biD at h
  split at h <;> try (first | contradiction | (cases h; done) | (rename_i e; cases e; done))
  obtain ⟨ns, hn, rfl⟩ := mpd h
  obtain ⟨ds, hd, hn⟩ := bnd hn
  obtain rfl := intsOf_eq hn
  obtain ⟨x, rfl, w⟩ := views1 ws
  obtain ⟨p, vs, rfl, hp, rp⟩ := w.seqv sf hd
  obtain rfl := rp.ints
  exact cr_sumT hc pins s σ H _ us Q I rs ⟨p, ns, rfl, hp, k _ F H (.refl sf) (.fz (.int _)) newFz⟩
theorem b_min2 (hc : X.calm = true) : CallR X (.builtin "min") (rnS X.K (biD .min2)) := by
  intro pins s σ H xs us Q I rs h
  obtain ⟨F, rv, r, sf, ws, h, k⟩ := h
  unfold biD at h
  split at h <;> try (first | contradiction | (cases h; done) | (rename_i e; cases e; done))
  cases h
  obtain ⟨x, y, rfl, w, w'⟩ := views2 ws
  obtain rfl := w.int
  obtain rfl := w'.int
  exact call_min2 hc pins s σ H _ us Q I rs ⟨_, _, rfl, k _ F H (.refl sf) (.fz (.int _)) newFz⟩
theorem b_max2 (hc : X.calm = true) : CallR X (.builtin "max") (rnS X.K (biD .max2)) := by
  intro pins s σ H xs us Q I rs h
  obtain ⟨F, rv, r, sf, ws, h, k⟩ := h
  unfold biD at h
  split at h <;> try (first | contradiction | (cases h; done) | (rename_i e; cases e; done))
  cases h
  obtain ⟨x, y, rfl, w, w'⟩ := views2 ws
  obtain rfl := w.int
  obtain rfl := w'.int
  exact call_max2 hc pins s σ H _ us Q I rs ⟨_, _, rfl, k _ F H (.refl sf) (.fz (.int _)) newFz⟩
theorem b_minL (hc : X.calm = true) : CallR X (.builtin "min") (rnS X.K (biD .minL)) := by
  intro pins s σ H xs us Q I rs h
  obtain ⟨F, rv, r, sf, ws, h, k⟩ := h
  unfold biD at h
  split at h <;> try (first | contradiction | (cases h; done) | (rename_i e; cases e; done))
  obtain ⟨m, hm, rfl⟩ := mpd h
  obtain ⟨ns, hn, hm⟩ := bnd hm
  obtain ⟨ds, hd, hn⟩ := bnd hn
  obtain rfl := intsOf_eq hn
  obtain ⟨x, rfl, w⟩ := views1 ws
  obtain ⟨p, vs, rfl, hp, rp⟩ := w.lstv sf hd
  obtain rfl := rp.ints
  obtain ⟨h0, h1⟩ := minI_ok hm
  exact cr_min hc pins s σ H _ us Q I rs ⟨p, ns, rfl, SqL.of hp, h0, fun m' hm' hy => by rw [h1 m' hm' hy]; exact k _ F H (.refl sf) (.fz (.int _)) newFz⟩
theorem b_maxL (hc : X.calm = true) : CallR X (.builtin "max") (rnS X.K (biD .maxL)) := by
  intro pins s σ H xs us Q I rs h
  obtain ⟨F, rv, r, sf, ws, h, k⟩ := h
  unfold biD at h
  split at h <;> try (first | contradiction | (cases h; done) | (rename_i e; cases e; done))
  obtain ⟨m, hm, rfl⟩ := mpd h
  obtain ⟨ns, hn, hm⟩ := bnd hm
  obtain ⟨ds, hd, hn⟩ := bnd hn
  obtain rfl := intsOf_eq hn
  obtain ⟨x, rfl, w⟩ := views1 ws
  obtain ⟨p, vs, rfl, hp, rp⟩ := w.lstv sf hd
  obtain rfl := rp.ints
  obtain ⟨h0, h1⟩ := maxI_ok hm
  exact cr_max hc pins s σ H _ us Q I rs ⟨p, ns, rfl, SqL.of hp, h0, fun m' hm' hy => by rw [h1 m' hm' hy]; exact k _ F H (.refl sf) (.fz (.int _)) newFz⟩
theorem truth_ints {prog : Program} {w : World} {A : Around} {ns : List Int} {its : List Value} (e : IntsAre its ns) :
    TruthOf prog w A (fun i v => its.toArray[i]? = some v) (fun i => ns.getD i 0 != 0) := fun i v s Q E hv hq => by
  have hv' : its[i]? = some v := by simpa using hv
  obtain ⟨n, t, rfl, hn⟩ := e.at i v hv'
  have hg : (ns.getD i 0 != 0) = (n != 0) := by rw [List.getD_eq_getElem?_getD, hn]; rfl
  have hq' : Q (ns.getD i 0 != 0) s := hq
  rw [hg] at hq'
  exact PySem.P.truthy_int hq'
theorem any_rangeI : ∀ ns : List Int, (List.range ns.length).any (fun i => ns.getD i 0 != 0) = ns.any (fun i => i != 0)
  | [] => rfl
  | b :: bs => by
    rw [List.length_cons, List.range_succ_eq_map, List.any_cons, List.any_map, List.any_cons, ← any_rangeI bs]
    all_goals rfl
theorem cr_anyI (hc : X.calm = true) : CallR X (.builtin "any") (fun vs H Q => ∃ (a : Addr) (ns : List Int), vs = [V.ref a] ∧ (SqL X.K H a (ns.map V.int) ∨ SqT X.K H a (ns.map V.int)) ∧ Q (.bl (ns.any fun i => i != 0)) H) := by
  intro pins s σ H vs us Q I r h
  obtain ⟨a, ns, rfl, hs | hs, q⟩ := h
  · obtain ⟨its, rv, hl, _⟩ := I.list hs
    rw [Vals.ref1 r]
    have hi := rv.ints
    refine call_any_walk (iter_any hl.isList fun s₂ e2 st hne => ?_)
    subst e2
    refine ⟨_, _, _, _, _, _, _, rfl, Walks.list (A := X.A.in1) (I.ok.hd hc) _ a hne its.toArray, st, truth_ints hi, fun h' tk hk => ?_⟩
    refine ⟨.bl _, H, I.kept fun b o eo => hk b o (fun hmem => ?_) (Heap.get?_push_of_some _ eo), ?_, q⟩
    · rcases List.mem_cons.mp hmem with e1 | hmem
      · exact absurd (e1 ▸ Heap.lt_size eo) (Nat.lt_irrefl _)
      · cases hmem
    · show Value.bool _ = Value.bool _
      rw [← any_rangeI, List.size_toArray, ← rv.length, List.length_map]
  · obtain ⟨its, rv, hl, _⟩ := I.tuple hs
    rw [Vals.ref1 r]
    have hi := rv.ints
    obtain ⟨o, ho, hcl, n, hd⟩ := hl
    have ht : s.heap.IsTuple a its.toArray := ⟨o, ho, hcl, n, hd⟩
    have hne : a ≠ s.heap.objs.size := Nat.ne_of_lt (Heap.lt_size ho)
    refine call_any_walk (wpAny_pyIter_tuple ht ?_)
    refine ⟨s.heap.objs.size, _, _, _, _, _, _, rfl, Walks.tuple (A := X.A.in1) (I.ok.hd hc) _ a hne its.toArray, ⟨⟨_, Heap.get?_push_size _ rfl, rfl, rfl⟩, ht.at fun o e => Heap.get?_push_of_some _ e⟩, truth_ints hi, fun h' tk hk => ?_⟩
    refine ⟨.bl _, H, I.kept fun b o eo => hk b o (fun hmem => ?_) (Heap.get?_push_of_some _ eo), ?_, q⟩
    · rcases List.mem_cons.mp hmem with e1 | hmem
      · exact absurd (e1 ▸ Heap.lt_size eo) (Nat.lt_irrefl _)
      · cases hmem
    · show Value.bool _ = Value.bool _
      rw [← any_rangeI, List.size_toArray, ← rv.length, List.length_map]
theorem b_any (hc : X.calm = true) : CallR X (.builtin "any") (rnS X.K (biD .any)) := by
  intro pins s σ H xs us Q I rs h
  obtain ⟨F, rv, r, sf, ws, h, k⟩ := h
  unfold biD at h
  split at h <;> try (first | contradiction | (cases h; done) | (rename_i e; cases e; done))
  obtain ⟨x, rfl, w⟩ := views1 ws
  split at h
  · rename_i ns hn
    cases h
    obtain ⟨ds, hd, hn⟩ := bnd hn
    obtain rfl := boolsOf_eq hn
    obtain ⟨p, vs, rfl, hp, rp⟩ := w.lstv sf hd
    obtain rfl := rp.bools
    exact cr_any hc pins s σ H _ us Q I rs ⟨p, ns, rfl, SqL.of hp, k _ F H (.refl sf) (.fz (.bl _)) newFz⟩
  · obtain ⟨ns, hn, rfl⟩ := mpd h
    obtain ⟨ds, hd, hn⟩ := bnd hn
    obtain rfl := intsOf_eq hn
    obtain ⟨p, vs, rfl, hp, rp⟩ := w.seqv sf hd
    obtain rfl := rp.ints
    exact cr_anyI hc pins s σ H _ us Q I rs ⟨p, ns, rfl, hp, k _ F H (.refl sf) (.fz (.bl _)) newFz⟩
theorem b_all (hc : X.calm = true) : CallR X (.builtin "all") (rnS X.K (biD .all)) := by
  intro pins s σ H xs us Q I rs h
  obtain ⟨F, rv, r, sf, ws, h, k⟩ := h
  unfold biD at h
  split at h <;> try (first | contradiction | (cases h; done) | (rename_i e; cases e; done))
  obtain ⟨ns, hn, rfl⟩ := mpd h
  obtain ⟨ds, hd, hn⟩ := bnd hn
  obtain rfl := boolsOf_eq hn
  obtain ⟨x, rfl, w⟩ := views1 ws
  obtain ⟨p, vs, rfl, hp, rp⟩ := w.lstv sf hd
  obtain rfl := rp.bools
  exact cr_all hc pins s σ H _ us Q I rs ⟨p, ns, rfl, SqL.of hp, k _ F H (.refl sf) (.fz (.bl _)) newFz⟩
theorem b_int : CallR X (.type "int") (rnS X.K (biD .int)) := by
  intro pins s σ H xs us Q I rs h
  obtain ⟨F, rv, r, sf, ws, h, k⟩ := h
  unfold biD at h
  split at h <;> try (first | contradiction | (cases h; done) | (rename_i e; cases e; done))
  · cases h
    obtain ⟨x, rfl, w⟩ := views1 ws
    obtain rfl := w.int
    exact call_int1 pins s σ H _ us Q I rs (.inl ⟨_, rfl, k _ F H (.refl sf) (.fz (.int _)) newFz⟩)
  · cases h
    obtain ⟨x, rfl, w⟩ := views1 ws
    obtain rfl := w.bool
    exact call_int1 pins s σ H _ us Q I rs (.inr ⟨_, rfl, k _ F H (.refl sf) (.fz (.int _)) newFz⟩)
  · obtain ⟨hl, h⟩ := itd' h
    obtain ⟨n, hn, rfl⟩ := mpd h
    obtain ⟨x, rfl, w⟩ := views1 ws
    obtain rfl := w.str
    exact call_int_str pins s σ H _ us Q I rs ⟨_, n, rfl, hn, hl, k _ F H (.refl sf) (.fz (.int _)) newFz⟩
theorem b_str : CallR X (.type "str") (rnS X.K (biD .str)) := by
  intro pins s σ H xs us Q I rs h
  obtain ⟨F, rv, r, sf, ws, h, k⟩ := h
  unfold biD at h
  split at h <;> try (first | contradiction | (cases h; done) | (rename_i e; cases e; done))
  obtain ⟨hl, rfl⟩ := itd h
  obtain ⟨x, rfl, w⟩ := views1 ws
  obtain rfl := w.int
  exact call_str_int pins s σ H _ us Q I rs ⟨_, rfl, hl, k _ F H (.refl sf) (.fz (.str _)) newFz⟩
theorem b_tup : CallR X (.type "tuple") (rnS X.K (biD .tup)) := by
  intro pins s σ H xs us Q I rs h
  obtain ⟨F, rv, r, sf, ws, h, k⟩ := h
  unfold biD at h
  split at h <;> try (first | contradiction | (cases h; done) | (rename_i e; cases e; done))
  obtain ⟨ds, hd, rfl⟩ := mpd h
  obtain ⟨x, rfl, w⟩ := views1 ws
  have fin : ∀ {p : Addr} {vs : List V}, SqL X.K H p vs → RpAll X.K F vs ds → Vals [V.ref p] us → wpAny (model X.prog X.w) X.A (call (.type "tuple") us) (EP X pins σ Q) X.xe s := fun {p vs} hp rp rs => by
    refine call_tuple_ofN pins s σ H _ us Q I rs ⟨p, vs, rfl, .inl ⟨hp, fun l o qo n => ?_⟩⟩
    obtain ⟨x1, w1⟩ := viewTup (K := X.K) sf qo n rp
    exact k _ _ _ x1 w1 newFz
  cases w with
  | fz q =>
    cases q with
    | tup ta ra =>
      cases hd
      exact call_tuple_ofN pins s σ H _ us Q I rs ⟨_, _, rfl, .inr ⟨Same.sqT sf ta.sqT, k _ F H (.refl sf) (.fz (.tup ta ra)) newFz⟩⟩
    | lst ta ra =>
      cases hd
      exact fin (SqL.of (sf _ _ ta)) ra rs
    | scr ta =>
      cases hd
      exact fin (sf.seq ta) (.ofInts _) rs
    | _ => cases hd
  | own f h2 q =>
    cases q <;> cases hd
    exact fin (SqL.of h2) (by assumption) rs
theorem call_listX (hc : X.calm = true) : CallR X (.type "list") (fun xs H Q => ∃ d o ks vs, xs = [V.ref d] ∧ DxAt d o ks vs H ∧ ks.length ≤ sizeLine ∧ ∀ q, H q = none → Q (.ref q) (upd H q (.lst ks))) := by
  intro pins s σ H xs us Q I r h
  obtain ⟨d, o, ks, vs, rfl, hdx, hz, q⟩ := h
  obtain ⟨u, rfl, rx⟩ := vals1 r
  obtain rfl : u = Value.ref d := rx
  have hd := hdx.atO
  have rr := hdx.rows I
  obtain ⟨hs, hgd⟩ := hd.get I
  obtain ⟨hx, es, ep, hdt, l1, l2, ent⟩ := id rr
  refine PySem.W.kdl_call (kdl_raw hs hx hdt) (I.ok.hd hc) hgd (by omega) fun h' tk acc' c' kp e it => ?_
  have el : acc'.toList.length = acc'.size := by simp
  have rv : Vals ks acc'.toList := vals_of_at (by rw [el, it.1, l1]) fun j x w h1 h2 => by
    obtain ⟨en, hen, hv⟩ := it.2 j w (by rw [← Array.getElem?_toList]; exact h2)
    obtain ⟨hj, ej⟩ := Array.getElem?_eq_some_iff.mp hen
    obtain ⟨k, v, e1, e2, r1, r2⟩ := ent j hj
    rw [h1] at e1
    cases e1
    rw [hv, ← ej]
    exact r1
  refine ⟨.ref s.heap.objs.size, _, I.laid (t' := tk) (o := .lst ks) kp (Nat.le_refl _) ?_, rfl, q _ (I.hok.fresh (Nat.le_refl _))⟩
  exact ⟨hz, acc'.toList, c', rv, by rw [Array.toArray_toList]; exact e⟩
theorem dk_small {pins : List (Addr × Obj)} {s : Shared} {σ : L2.St} {H : Hp} (I : Inv X pins σ H s) {a : Addr} {o : Obj} {kvs : List (Int × V)} (h : H a = some (dkO a o kvs)) : kvs.length ≤ sizeLine := (dk_at I h).2.1
theorem dt_small {pins : List (Addr × Obj)} {s : Shared} {σ : L2.St} {H : Hp} (I : Inv X pins σ H s) {a : Addr} {o : Obj} {kvs : TK} (h : H a = some (dtO a o kvs)) : kvs.length ≤ sizeLine := (dt_at I h).2.1
theorem b_list (hc : X.calm = true) : CallR X (.type "list") (rnS X.K (biD .list)) := by
  intro pins s σ H xs us Q I rs h
  obtain ⟨F, rv, r, sf, ws, h, k⟩ := h
  unfold biD at h
  split at h <;> try (first | contradiction | (cases h; done) | (rename_i e; cases e; done))
  obtain ⟨x, rfl, w⟩ := views1 ws
  split at h
  · rename_i kvs hr
    cases h
    obtain ⟨kvs', hk, hr⟩ := bnd hr
    unfold dRows at hr
    split at hr
    · rename_i bb rest e
      cases hr
      cases e
      cases bb with
      | false =>
        obtain ⟨a, o, kvs, ds, rfl, ha, ra, rfl⟩ := w.dk sf hk
        refine call_listX hc pins s σ H _ us Q I rs ⟨a, o, _, _, rfl, .inl ⟨kvs, ha, rfl, rfl⟩, by rw [List.length_map]; exact dk_small I ha, fun l n => ?_⟩
        have l1 := ra.length
        rw [List.length_map] at l1
        have e1 : (((kvs.map fun x => x.1).map PyData.int).zip ds).map (fun p => p.1) = (kvs.map fun x => x.1).map PyData.int := List.map_fst_zip (by rw [List.length_map, List.length_map]; omega)
        rw [e1] at k
        have e2 : (kvs.map fun x => V.int x.1) = (kvs.map fun x => x.1).map V.int := by rw [List.map_map]; rfl
        rw [e2]
        obtain ⟨x1, w1⟩ := viewNew (K := X.K) sf n (RpAll.ofInts (K := X.K) (F := F) (kvs.map fun x => x.1))
        exact k _ _ _ x1 w1 (newOl n)
      | true =>
        obtain ⟨a, o, kvs, ds, rfl, ha, kn, ra, rfl⟩ := w.dt sf hk
        refine call_listX hc pins s σ H _ us Q I rs ⟨a, o, _, _, rfl, .inr ⟨kvs, ha, rfl, rfl⟩, by rw [List.length_map]; exact dt_small I ha, fun l n => ?_⟩
        have l1 := ra.length
        rw [List.length_map] at l1
        have e1 : (((kvs.map fun x => x.1).map keyT).zip ds).map (fun p => p.1) = (kvs.map fun x => x.1).map keyT := List.map_fst_zip (by rw [List.length_map, List.length_map]; omega)
        rw [e1] at k
        have rk : ∀ {zs : TK}, KeysN X.K F zs → RpAll X.K F (zs.map fun x => V.ref x.2.1) ((zs.map fun x => x.1).map keyT) := by
          intro zs
          induction zs with
          | nil => intro _; exact .nil
          | cons z zs ih => intro hz; exact .cons (.tup (hz z (by simp)) (.ofInts _)) (ih fun y hy => hz y (by simp [hy]))
        obtain ⟨x1, w1⟩ := viewNew (K := X.K) sf n (rk kn)
        exact k _ _ _ x1 w1 (newOl n)
    · cases hr
  · obtain ⟨ds, hd, rfl⟩ := mpd h
    obtain ⟨p, vs, rfl, hp, rp⟩ := w.seqv sf hd
    refine call_list_of pins s σ H _ us Q I rs ⟨p, vs, rfl, hp, fun l n => ?_⟩
    obtain ⟨x1, w1⟩ := viewNew (K := X.K) sf n rp
    exact k _ _ _ x1 w1 (newOl n)
theorem insL_perm {α : Type} (le : α → α → Bool) (p : α) : ∀ l : List α, (insL le p l).Perm (p :: l)
  | [] => .refl _
  | q :: r => by
    unfold insL
    split
    · exact .refl _
    · exact ((insL_perm le p r).cons q).trans (.swap p q r)
theorem isort_perm {α : Type} (le : α → α → Bool) : ∀ l : List α, (isort le l).Perm l
  | [] => .refl _
  | p :: r => (insL_perm le p _).trans ((isort_perm le r).cons p)
theorem insL_srt {α : Type} {le : α → α → Bool} (tot : ∀ a b, le a b = false → le b a = true) (tr : ∀ a b c, le a b = true → le b c = true → le a c = true) (p : α) : ∀ l : List α, l.Pairwise (fun a b => le a b = true) → (insL le p l).Pairwise (fun a b => le a b = true)
  | [], _ => by unfold insL; exact List.pairwise_singleton _ _
  | q :: r, h => by
    unfold insL
    have hq := List.pairwise_cons.mp h
    split
    · rename_i e
      refine List.pairwise_cons.mpr ⟨fun x hx => ?_, h⟩
      rcases List.mem_cons.mp hx with rfl | hx
      · exact e
      · exact tr _ _ _ e (hq.1 x hx)
    · rename_i e
      refine List.pairwise_cons.mpr ⟨fun x hx => ?_, insL_srt tot tr p r hq.2⟩
      rcases List.mem_cons.mp ((insL_perm le p r).mem_iff.mp hx) with rfl | hx
      · exact tot _ _ (by simpa using e)
      · exact hq.1 x hx
theorem isort_srt {α : Type} {le : α → α → Bool} (tot : ∀ a b, le a b = false → le b a = true) (tr : ∀ a b c, le a b = true → le b c = true → le a c = true) : ∀ l : List α, (isort le l).Pairwise (fun a b => le a b = true)
  | [] => .nil
  | p :: r => insL_srt tot tr p _ (isort_srt tot tr r)
theorem leP_iff {p q : Int × Int} : leP p q = true ↔ p.1 < q.1 ∨ (p.1 = q.1 ∧ p.2 ≤ q.2) := by simp [leP]
theorem leP_tot (a b : Int × Int) (h : leP a b = false) : leP b a = true := by
  have : ¬ leP a b = true := by rw [h]; exact Bool.false_ne_true
  rw [leP_iff] at this ⊢
  omega
theorem leP_tr (a b c : Int × Int) (h : leP a b = true) (h' : leP b c = true) : leP a c = true := by
  rw [leP_iff] at *
  omega
theorem leP_anti (a b : Int × Int) (h : leP a b = true) (h' : leP b a = true) : a = b := by
  rw [leP_iff] at *
  exact Prod.ext (by omega) (by omega)
theorem leI_tot (a b : Int) (h : leI a b = false) : leI b a = true := by
  unfold leI at *
  simp at *
  omega
theorem leI_tr (a b c : Int) (h : leI a b = true) (h' : leI b c = true) : leI a c = true := by
  unfold leI at *
  simp at *
  omega
theorem isortP_eq {l m : List (Int × Int)} (h : l.Pairwise (fun a b => leP a b = true)) (p : l.Perm m) : l = isort leP m :=
  List.Perm.eq_of_pairwise (fun a b _ _ x y => leP_anti a b x y) h (isort_srt leP_tot leP_tr m) (p.trans (isort_perm leP m).symm)
theorem isortI_eq {l m : List Int} (h : l.Pairwise (· ≤ ·)) (p : l.Perm m) : l = isort leI m := by
  refine List.Perm.eq_of_pairwise (le := fun a b => leI a b = true) (fun a b _ _ x y => by unfold leI at x y; simp at x y; omega) ?_ (isort_srt leI_tot leI_tr m) (p.trans (isort_perm leI m).symm)
  exact h.imp fun {a b} x => by unfold leI; simpa using x
theorem pairsOf_eq : ∀ {ds : List PyData} {ps : List (Int × Int)}, pairsOf ds = some ps → ds = ps.map encP := by
  intro ds
  induction ds with
  | nil => intro ps h; cases h; rfl
  | cons d r ih =>
    intro ps h
    unfold pairsOf at h
    split at h
    · rename_i e; cases e
    · rename_i e
      cases e
      obtain ⟨q, h1, rfl⟩ := mpd h
      rw [ih h1]
      rfl
    · cases h
open Classical in
noncomputable def keyOf (K : PySem.W.Frag) (H : Hp) (x : V) : Int × Int := if h : ∃ p : Int × Int, ∃ t, x = .ref t ∧ SqT K H t [.int p.1, .int p.2] then h.choose else (0, 0)
theorem keyOf_eq {pins : List (Addr × Obj)} {s : Shared} {σ : L2.St} {H : Hp} (I : Inv X pins σ H s) {t : Addr} {p : Int × Int} (h : SqT X.K H t [.int p.1, .int p.2]) : keyOf X.K H (.ref t) = p := by
  unfold keyOf
  have e : ∃ p : Int × Int, ∃ t', V.ref t = .ref t' ∧ SqT X.K H t' [.int p.1, .int p.2] := ⟨p, t, rfl, h⟩
  rw [dif_pos e]
  obtain ⟨t', e1, e2⟩ := e.choose_spec
  cases e1
  have := I.tuple_inj e2 h
  cases q : e.choose with
  | mk a b =>
    rw [q] at this
    cases this
    rfl
theorem cr_sortedQ : CallR X (.builtin "sorted") (fun vs H Q => ∃ (a : Addr) (xs : List V) (k : V → Int × Int), vs = [V.ref a] ∧ SqL X.K H a xs ∧ (∀ x ∈ xs, ∃ t, x = V.ref t ∧ SqT X.K H t [.int (k x).1, .int (k x).2]) ∧
    ∀ ys p, SrtO.Srtd (ltP k) ys → SrtO.Stb (ltP k) ys xs → H p = none → Q (.ref p) (upd H p (.lst ys))) := by
  intro pins s σ H vs us Q I r h
  obtain ⟨a, xs, k, rfl, hs, hx, q⟩ := h
  obtain ⟨its, rv, hl, hz⟩ := I.list hs
  obtain ⟨u, rfl, ru⟩ := vals1 r
  obtain rfl : u = Value.ref a := ru
  obtain ⟨e1, e2⟩ := refs_back rv fun x m => by
    obtain ⟨t, e, _⟩ := hx x m
    exact ⟨t, e⟩
  refine SrtO.sorted_pairsO (k := fun u => k (backV u)) hl.isList (by rw [← rv.length]; exact hz) (fun v hv => ?_) fun h' d out h1 h2 kp hd hn => ?_
  · obtain ⟨t, rfl⟩ := e2 v hv
    have hm : V.ref t ∈ xs := by rw [e1]; exact List.mem_map.mpr ⟨_, hv, rfl⟩
    obtain ⟨t', e, ht⟩ := hx _ hm
    cases e
    obtain ⟨its2, r2, ⟨o, ho, hc, n, hd⟩, _⟩ := I.tuple ht
    obtain ⟨u1, u2, rfl, ri, rj⟩ := vals2 r2
    obtain ⟨t1, rfl⟩ := ri
    obtain ⟨t2, rfl⟩ := rj
    exact ⟨t, o, t1, t2, n, rfl, ho, hc, hd⟩
  · have h3 : ∀ u ∈ out, ∃ a, u = Value.ref a := fun u hu => e2 u (h2.perm.mem_iff.mp hu)
    obtain ⟨n, hn⟩ := hn
    have hb : SrtO.Stb (ltP k) (out.map backV) xs := by
      rw [e1]
      exact SrtO.Stb.map (ltP_swo k) backV h2
    refine ⟨.ref d, upd H d (.lst (out.map backV)), I.laid (t' := s.toks) kp hd ⟨?_, out, n, vals_back h3, hn⟩, rfl, q _ d (SrtO.srtd_map h1) hb (I.hok.fresh hd)⟩
    rw [hb.len]
    exact hz
def IsKd (h : Heap) (v : Value) (x : Int) : Prop := ∃ a o t b n, v = .ref a ∧ h.get? a = some o ∧ o.cls = .type "tuple" ∧ o.data = .seq #[.int x t, b] n
def ltKd (k : Value → Int) (v u : Value) : Bool := decide (k v < k u)
theorem swo_kd (k : Value → Int) : SrtO.Swo (ltKd k) := by
  refine ⟨fun x y h => ?_, fun x y z h1 h2 => ?_⟩
  · have a := of_decide_eq_true h
    exact decide_eq_false (by omega)
  · have a := of_decide_eq_false h1
    have b := of_decide_eq_false h2
    exact decide_eq_false (by omega)
theorem kd_cmp {prog : Program} {w : World} {A : Around} {s : Shared} {vs : List Value} {k : Value → Int} (hp : ∀ v ∈ vs, IsKd s.heap v (k v)) (inj : ∀ v ∈ vs, ∀ u ∈ vs, k v = k u → v = u) : SrtO.Cmp prog w A s (tuples' true) (fun p => p.1 ∈ vs) (SrtO.lt2 (ltKd k)) := by
  intro p q hm hm'
  have h1 := hp _ hm
  have h2 := hp _ hm'
  have hi := inj _ hm _ hm'
  show wpAny (model prog w) A (keyLt' (tuples' true) p.1 q.1) (fun r s' => s' = s ∧ r = ltKd k p.1 q.1) (fun _ _ => False) s
  unfold ltKd
  generalize k p.1 = x at h1 hi ⊢
  generalize k q.1 = x' at h2 hi ⊢
  obtain ⟨a, o, t, b, n, e, ho, hc, hd⟩ := h1
  obtain ⟨a', o', t', b', n', e', ho', hc', hd'⟩ := h2
  rw [e, e']
  by_cases ex : x = x'
  · have eq := hi ex
    rw [e, e'] at eq
    cases eq
    rw [ho] at ho'
    cases ho'
    rw [hd] at hd'
    injection hd' with q1 q2
    have q3 : [Value.int x t, b] = [Value.int x' t', b'] := congrArg Array.toList q1
    cases q3
    have e3 : decide (x < x) = false := decide_eq_false (by omega)
    rw [e3]
    refine PySem.W.kat_lt ho hd ho hd ?_
    show PySem.W.KatLex prog w A true (decide (2 < 2)) _ [(.int x t, .int x t), (b, b)] 0 s
    refine PySem.W.kat_cons (SeqAt.EqAt.same _ prog w _ _ ?_)
    refine PySem.W.kat_yes (PySem.W.kat_cons (SeqAt.EqAt.same _ prog w _ _ ?_))
    exact PySem.W.kat_yes (PySem.W.kat_nil ⟨rfl, rfl⟩)
  · refine PySem.W.kat_lt ho hd ho' hd' ?_
    show PySem.W.KatLex prog w A true (decide (2 < 2)) _ [(.int x t, .int x' t'), (b, b')] 0 s
    refine PySem.W.kat_cons (SeqAt.EqAt.int_int x t x' t' prog w _ _ ?_)
    refine PySem.W.kat_go (fun e1 => absurd (by simpa using e1) ex) (fun e1 => ?_)
    exact PySem.W.kat_no (oneLt_int ⟨rfl, rfl⟩)
theorem kd_firsts {h : Heap} : ∀ {vs : List Value}, (∀ v ∈ vs, ∃ x, IsKd h v x) → ∃ fs : List Value, PySem.W.KatTups h vs fs ∧ fs.length = vs.length ∧ ∀ f ∈ fs, ∃ x t, f = Value.int x t
  | [], _ => ⟨[], PySem.W.KatTups.nil, rfl, fun _ hm => by simp at hm⟩
  | v :: vs, hp => by
    obtain ⟨fs, h1, h2, h3⟩ := kd_firsts (vs := vs) fun v' hm => hp v' (List.mem_cons_of_mem _ hm)
    obtain ⟨x, a, o, t, b, n, rfl, ho, hc, hd⟩ := hp v (by simp)
    refine ⟨.int x t :: fs, PySem.W.KatTups.cons ho hc hd rfl h1, by simp [h2], fun f hm => ?_⟩
    rcases List.mem_cons.mp hm with rfl | hm
    · exact ⟨x, t, rfl⟩
    · exact h3 f hm
theorem kd_sortable {prog : Program} {w : World} {A : Around} {s : Shared} {a : Addr} {vs : List Value} {k : Value → Int} (h0 : 0 < vs.length) (hp : ∀ v ∈ vs, IsKd s.heap v (k v)) (inj : ∀ v ∈ vs, ∀ u ∈ vs, k v = k u → v = u) (ha : ∀ o, s.heap.get? a = some o → o.cls ≠ .type "tuple") : SrtO.SortableO prog w A s a vs (ltKd k) := by
  intro h' keep
  have hp' : ∀ v ∈ vs, IsKd h' v (k v) := fun v hm => by
    obtain ⟨b, o, t, c, n, e, ho, hc, hd⟩ := hp v hm
    exact ⟨b, o, t, c, n, e, keep b o (fun z => by subst z; exact ha o ho hc) ho, hc, hd⟩
  obtain ⟨fs, h1, h2, h3⟩ := kd_firsts fun v hm => ⟨_, hp' v hm⟩
  refine ⟨tuples' true, fun Q E hq => ?_, kd_cmp hp' inj⟩
  refine PySem.W.kat_kind (T := .type "int") h1 (by omega) (fun f hm => ?_) (by rfl) ?_
  · obtain ⟨x, t, rfl⟩ := h3 f hm
    exact PySem.W.Looks.now
  · have e : (Value.type "int" != Value.type "tuple") = true := by first | decide +kernel | rfl | decide
    rw [e]
    exact hq
theorem sorted_kd {prog : Program} {w : World} {A : Around} {s : Shared} {E : Value → Shared → Prop} {l : Addr} {vs : List Value} {k : Value → Int} {Q : Value → Shared → Prop} (hl : s.heap.IsList l vs.toArray) (hz : vs.length ≤ sizeLine) (hp : ∀ v ∈ vs, IsKd s.heap v (k v)) (inj : ∀ v ∈ vs, ∀ u ∈ vs, k v = k u → v = u)
    (h : ∀ (h' : Heap) (d : Addr) (out : List Value), SrtO.Srtd (ltKd k) out → SrtO.Stb (ltKd k) out vs → (∀ b o, s.heap.get? b = some o → h'.get? b = some o) → s.heap.objs.size ≤ d → (∃ n, h'.get? d = some (seqObj "list" out.toArray n)) → Q (.ref d) { s with heap := h' }) :
    wpAny (model prog w) A (call (.builtin "sorted") [.ref l]) Q E s := by
  refine SrtO.sorted_ord (swo_kd k) hl hz (fun h2 h₁ a ha kk => ?_) fun out hs hb => ?_
  · refine kd_sortable (s := { s with heap := h₁ }) (by omega) (fun v hm => ?_) inj fun o e => ?_
    · obtain ⟨b, o, t, c, n, e, ho, hc, hd⟩ := hp v hm
      exact ⟨b, o, t, c, n, e, (kk b o ho).2, hc, hd⟩
    · have e' : some o = some (seqObj "list" vs.toArray 0) := e.symm.trans ha
      cases e'
      intro c
      exact absurd (Value.type.inj c) (by decide)
  · exact h _ _ out hs hb (fun b o e => sortedAll_old e) (Nat.le_succ _) (sortedAll_at s.heap vs out.toArray)
def ltK (k : V → Int) (x y : V) : Bool := decide (k x < k y)
theorem ltK_swo (k : V → Int) : SrtO.Swo (ltK k) := by
  refine ⟨fun x y h => ?_, fun x y z h1 h2 => ?_⟩
  · have a := of_decide_eq_true h
    exact decide_eq_false (by omega)
  · have a := of_decide_eq_false h1
    have b := of_decide_eq_false h2
    exact decide_eq_false (by omega)
theorem cr_sortedKd : CallR X (.builtin "sorted") (fun vs H Q => ∃ (a : Addr) (xs : List V) (k : V → Int), vs = [V.ref a] ∧ SqL X.K H a xs ∧ (∀ x ∈ xs, ∃ t y, x = V.ref t ∧ SqT X.K H t [.int (k x), y]) ∧ (∀ x ∈ xs, ∀ y ∈ xs, k x = k y → x = y) ∧
    ∀ ys p, SrtO.Srtd (ltK k) ys → SrtO.Stb (ltK k) ys xs → H p = none → Q (.ref p) (upd H p (.lst ys))) := by
  intro pins s σ H vs us Q I r h
  obtain ⟨a, xs, k, rfl, hs, hx, inj, q⟩ := h
  obtain ⟨its, rv, hl, hz⟩ := I.list hs
  obtain ⟨u, rfl, ru⟩ := vals1 r
  obtain rfl : u = Value.ref a := ru
  obtain ⟨e1, e2⟩ := refs_back rv fun x m => by
    obtain ⟨t, _, e, _⟩ := hx x m
    exact ⟨t, e⟩
  refine sorted_kd (k := fun u => k (backV u)) hl.isList (by rw [← rv.length]; exact hz) (fun v hv => ?_) (fun v hv u hu e => ?_) fun h' d out h1 h2 kp hd hn => ?_
  · obtain ⟨t, rfl⟩ := e2 v hv
    have hm : V.ref t ∈ xs := by rw [e1]; exact List.mem_map.mpr ⟨_, hv, rfl⟩
    obtain ⟨t', y, e, ht⟩ := hx _ hm
    cases e
    obtain ⟨its2, r2, ⟨o, ho, hc, n, hd⟩, _⟩ := I.tuple ht
    obtain ⟨u1, u2, rfl, ri, rj⟩ := vals2 r2
    obtain ⟨t1, rfl⟩ := ri
    exact ⟨t, o, t1, u2, n, rfl, ho, hc, hd⟩
  · obtain ⟨t, rfl⟩ := e2 v hv
    obtain ⟨t', rfl⟩ := e2 u hu
    have hm : V.ref t ∈ xs := by rw [e1]; exact List.mem_map.mpr ⟨_, hv, rfl⟩
    have hm' : V.ref t' ∈ xs := by rw [e1]; exact List.mem_map.mpr ⟨_, hu, rfl⟩
    have := inj _ hm _ hm' e
    cases this
    rfl
  · have h3 : ∀ u ∈ out, ∃ a, u = Value.ref a := fun u hu => e2 u (h2.perm.mem_iff.mp hu)
    obtain ⟨n, hn⟩ := hn
    have hb : SrtO.Stb (ltK k) (out.map backV) xs := by
      rw [e1]
      exact SrtO.Stb.map (ltK_swo k) backV h2
    refine ⟨.ref d, upd H d (.lst (out.map backV)), I.laid (t' := s.toks) kp hd ⟨?_, out, n, vals_back h3, hn⟩, rfl, q _ d (SrtO.srtd_map h1) hb (I.hok.fresh hd)⟩
    rw [hb.len]
    exact hz
def IsT3 (h : Heap) (v : Value) (x : Int × Int × Int) : Prop := ∃ a o t u y n, v = .ref a ∧ h.get? a = some o ∧ o.cls = .type "tuple" ∧ o.data = .seq #[.int x.1 t, .int x.2.1 u, .int x.2.2 y] n
def ltB3 (p q : Int × Int × Int) : Bool := !leT q p
theorem leT_iff {p q : Int × Int × Int} : leT p q = true ↔ p.1 < q.1 ∨ (p.1 = q.1 ∧ (p.2.1 < q.2.1 ∨ (p.2.1 = q.2.1 ∧ p.2.2 ≤ q.2.2))) := by
  unfold leT
  rw [Bool.or_eq_true, Bool.and_eq_true, decide_eq_true_eq, decide_eq_true_eq, leP_iff]
theorem ltB3_iff {p q : Int × Int × Int} : ltB3 p q = true ↔ p.1 < q.1 ∨ (p.1 = q.1 ∧ (p.2.1 < q.2.1 ∨ (p.2.1 = q.2.1 ∧ p.2.2 < q.2.2))) := by
  have : ltB3 p q = true ↔ ¬ leT q p = true := by unfold ltB3; cases leT q p <;> simp
  rw [this, leT_iff]
  omega
theorem ltB3_no {p q : Int × Int × Int} : ltB3 p q = false ↔ ¬ (p.1 < q.1 ∨ (p.1 = q.1 ∧ (p.2.1 < q.2.1 ∨ (p.2.1 = q.2.1 ∧ p.2.2 < q.2.2)))) := by
  rw [← ltB3_iff]
  cases ltB3 p q <;> simp
theorem leT_tot (a b : Int × Int × Int) (h : leT a b = false) : leT b a = true := by
  have : ¬ leT a b = true := by rw [h]; exact Bool.false_ne_true
  rw [leT_iff] at this ⊢
  omega
theorem leT_tr (a b c : Int × Int × Int) (h : leT a b = true) (h' : leT b c = true) : leT a c = true := by
  rw [leT_iff] at *
  omega
theorem leT_anti (a b : Int × Int × Int) (h : leT a b = true) (h' : leT b a = true) : a = b := by
  rw [leT_iff] at *
  exact Prod.ext (by omega) (Prod.ext (by omega) (by omega))
theorem isortT_eq {l m : List (Int × Int × Int)} (h : l.Pairwise (fun a b => leT a b = true)) (p : l.Perm m) : l = isort leT m :=
  List.Perm.eq_of_pairwise (fun a b _ _ x y => leT_anti a b x y) h (isort_srt leT_tot leT_tr m) (p.trans (isort_perm leT m).symm)
theorem swo_t3 {α : Type} (k : α → Int × Int × Int) : SrtO.Swo (fun v u => ltB3 (k v) (k u)) := by
  refine ⟨fun x y h => ?_, fun x y z h1 h2 => ?_⟩
  · have a := ltB3_iff.mp h
    refine ltB3_no.mpr ?_
    omega
  · have a := ltB3_no.mp h1
    have b := ltB3_no.mp h2
    refine ltB3_no.mpr ?_
    omega
theorem t3_cmp {prog : Program} {w : World} {A : Around} {s : Shared} {vs : List Value} {k : Value → Int × Int × Int} (hp : ∀ v ∈ vs, IsT3 s.heap v (k v)) : SrtO.Cmp prog w A s (tuples' true) (fun p => p.1 ∈ vs) (SrtO.lt2 (fun v u => ltB3 (k v) (k u))) := by
  intro p q hm hm'
  have h1 := hp _ hm
  have h2 := hp _ hm'
  show wpAny (model prog w) A (keyLt' (tuples' true) p.1 q.1) (fun r s' => s' = s ∧ r = ltB3 (k p.1) (k q.1)) (fun _ _ => False) s
  generalize k p.1 = x at h1 ⊢
  generalize k q.1 = x' at h2 ⊢
  obtain ⟨a, o, t, u, y, n, e, ho, hc, hd⟩ := h1
  obtain ⟨a', o', t', u', y', n', e', ho', hc', hd'⟩ := h2
  rw [e, e']
  refine PySem.W.kat_lt ho hd ho' hd' ?_
  show PySem.W.KatLex prog w A true (decide (3 < 3)) _ [(.int x.1 t, .int x'.1 t'), (.int x.2.1 u, .int x'.2.1 u'), (.int x.2.2 y, .int x'.2.2 y')] 0 s
  refine PySem.W.kat_cons (SeqAt.EqAt.int_int _ t _ t' prog w _ _ ?_)
  refine PySem.W.kat_go (fun e1 => PySem.W.kat_yes (PySem.W.kat_cons (SeqAt.EqAt.int_int _ u _ u' prog w _ _ (PySem.W.kat_go (fun e2 => PySem.W.kat_yes (PySem.W.kat_cons (SeqAt.EqAt.int_int _ y _ y' prog w _ _ (PySem.W.kat_go (fun e3 => PySem.W.kat_yes (PySem.W.kat_nil ⟨rfl, ?_⟩)) fun e3 => PySem.W.kat_no (TS.oneLt_ints _ ⟨rfl, ?_⟩))))) fun e2 => PySem.W.kat_no (TS.oneLt_ints _ ⟨rfl, ?_⟩))))) fun e1 => PySem.W.kat_no (TS.oneLt_ints _ ⟨rfl, ?_⟩)
  · have e1' : x.1 = x'.1 := by simpa using e1
    have e2' : x.2.1 = x'.2.1 := by simpa using e2
    have e3' : x.2.2 = x'.2.2 := by simpa using e3
    have : ltB3 x x' = false := ltB3_no.mpr (by omega)
    rw [this]; rfl
  · have e1' : x.1 = x'.1 := by simpa using e1
    have e2' : x.2.1 = x'.2.1 := by simpa using e2
    have e3' : ¬ x.2.2 = x'.2.2 := by simpa using e3
    rw [Bool.eq_iff_iff, decide_eq_true_eq, ltB3_iff]; omega
  · have e1' : x.1 = x'.1 := by simpa using e1
    have e2' : ¬ x.2.1 = x'.2.1 := by simpa using e2
    rw [Bool.eq_iff_iff, decide_eq_true_eq, ltB3_iff]; omega
  · have e1' : ¬ x.1 = x'.1 := by simpa using e1
    rw [Bool.eq_iff_iff, decide_eq_true_eq, ltB3_iff]; omega
theorem t3_firsts {h : Heap} : ∀ {vs : List Value}, (∀ v ∈ vs, ∃ x, IsT3 h v x) → ∃ fs : List Value, PySem.W.KatTups h vs fs ∧ fs.length = vs.length ∧ ∀ f ∈ fs, ∃ x t, f = Value.int x t
  | [], _ => ⟨[], PySem.W.KatTups.nil, rfl, fun _ hm => by simp at hm⟩
  | v :: vs, hp => by
    obtain ⟨fs, h1, h2, h3⟩ := t3_firsts (vs := vs) fun v' hm => hp v' (List.mem_cons_of_mem _ hm)
    obtain ⟨x, a, o, t, u, y, n, rfl, ho, hc, hd⟩ := hp v (by simp)
    refine ⟨.int x.1 t :: fs, PySem.W.KatTups.cons ho hc hd rfl h1, by simp [h2], fun f hm => ?_⟩
    rcases List.mem_cons.mp hm with rfl | hm
    · exact ⟨x.1, t, rfl⟩
    · exact h3 f hm
theorem t3_sortable {prog : Program} {w : World} {A : Around} {s : Shared} {a : Addr} {vs : List Value} {k : Value → Int × Int × Int} (h0 : 0 < vs.length) (hp : ∀ v ∈ vs, IsT3 s.heap v (k v)) (ha : ∀ o, s.heap.get? a = some o → o.cls ≠ .type "tuple") : SrtO.SortableO prog w A s a vs (fun v u => ltB3 (k v) (k u)) := by
  intro h' keep
  have hp' : ∀ v ∈ vs, IsT3 h' v (k v) := fun v hm => by
    obtain ⟨b, o, t, u, y, n, e, ho, hc, hd⟩ := hp v hm
    exact ⟨b, o, t, u, y, n, e, keep b o (fun z => by subst z; exact ha o ho hc) ho, hc, hd⟩
  obtain ⟨fs, h1, h2, h3⟩ := t3_firsts fun v hm => ⟨_, hp' v hm⟩
  refine ⟨tuples' true, fun Q E hq => ?_, t3_cmp hp'⟩
  refine PySem.W.kat_kind (T := .type "int") h1 (by omega) (fun f hm => ?_) (by rfl) ?_
  · obtain ⟨x, t, rfl⟩ := h3 f hm
    exact PySem.W.Looks.now
  · have e : (Value.type "int" != Value.type "tuple") = true := by first | decide +kernel | rfl | decide
    rw [e]
    exact hq
theorem sorted_t3 {prog : Program} {w : World} {A : Around} {s : Shared} {E : Value → Shared → Prop} {l : Addr} {vs : List Value} {k : Value → Int × Int × Int} {Q : Value → Shared → Prop} (hl : s.heap.IsList l vs.toArray) (hz : vs.length ≤ sizeLine) (hp : ∀ v ∈ vs, IsT3 s.heap v (k v))
    (h : ∀ (h' : Heap) (d : Addr) (out : List Value), SrtO.Srtd (fun v u => ltB3 (k v) (k u)) out → SrtO.Stb (fun v u => ltB3 (k v) (k u)) out vs → (∀ b o, s.heap.get? b = some o → h'.get? b = some o) → s.heap.objs.size ≤ d → (∃ n, h'.get? d = some (seqObj "list" out.toArray n)) → Q (.ref d) { s with heap := h' }) :
    wpAny (model prog w) A (call (.builtin "sorted") [.ref l]) Q E s := by
  refine SrtO.sorted_ord (swo_t3 k) hl hz (fun h2 h₁ a ha kk => ?_) fun out hs hb => ?_
  · refine t3_sortable (s := { s with heap := h₁ }) (by omega) (fun v hm => ?_) fun o e => ?_
    · obtain ⟨b, o, t, u, y, n, e, ho, hc, hd⟩ := hp v hm
      exact ⟨b, o, t, u, y, n, e, (kk b o ho).2, hc, hd⟩
    · have e' : some o = some (seqObj "list" vs.toArray 0) := e.symm.trans ha
      cases e'
      intro c
      exact absurd (Value.type.inj c) (by decide)
  · exact h _ _ out hs hb (fun b o e => sortedAll_old e) (Nat.le_succ _) (sortedAll_at s.heap vs out.toArray)
theorem cr_sortedT3 : CallR X (.builtin "sorted") (fun vs H Q => ∃ (a : Addr) (xs : List V) (k : V → Int × Int × Int), vs = [V.ref a] ∧ SqL X.K H a xs ∧ (∀ x ∈ xs, ∃ t, x = V.ref t ∧ SqT X.K H t [.int (k x).1, .int (k x).2.1, .int (k x).2.2]) ∧
    ∀ ys p, SrtO.Srtd (fun x y => ltB3 (k x) (k y)) ys → SrtO.Stb (fun x y => ltB3 (k x) (k y)) ys xs → H p = none → Q (.ref p) (upd H p (.lst ys))) := by
  intro pins s σ H vs us Q I r h
  obtain ⟨a, xs, k, rfl, hs, hx, q⟩ := h
  obtain ⟨its, rv, hl, hz⟩ := I.list hs
  obtain ⟨u, rfl, ru⟩ := vals1 r
  obtain rfl : u = Value.ref a := ru
  obtain ⟨e1, e2⟩ := refs_back rv fun x m => by
    obtain ⟨t, e, _⟩ := hx x m
    exact ⟨t, e⟩
  refine sorted_t3 (k := fun u => k (backV u)) hl.isList (by rw [← rv.length]; exact hz) (fun v hv => ?_) fun h' d out h1 h2 kp hd hn => ?_
  · obtain ⟨t, rfl⟩ := e2 v hv
    have hm : V.ref t ∈ xs := by rw [e1]; exact List.mem_map.mpr ⟨_, hv, rfl⟩
    obtain ⟨t', e, ht⟩ := hx _ hm
    cases e
    obtain ⟨its2, r2, ⟨o, ho, hc, n, hd⟩, _⟩ := I.tuple ht
    cases r2 with
    | cons ri r2 =>
      obtain ⟨u1, u2, rfl, rj, rk⟩ := vals2 r2
      obtain ⟨t1, rfl⟩ := ri
      obtain ⟨t2, rfl⟩ := rj
      obtain ⟨t3, rfl⟩ := rk
      exact ⟨t, o, t1, t2, t3, n, rfl, ho, hc, hd⟩
  · have h3 : ∀ u ∈ out, ∃ a, u = Value.ref a := fun u hu => e2 u (h2.perm.mem_iff.mp hu)
    obtain ⟨n, hn⟩ := hn
    have hb : SrtO.Stb (fun x y => ltB3 (k x) (k y)) (out.map backV) xs := by
      rw [e1]
      exact SrtO.Stb.map (swo_t3 k) backV h2
    refine ⟨.ref d, upd H d (.lst (out.map backV)), I.laid (t' := s.toks) kp hd ⟨?_, out, n, vals_back h3, hn⟩, rfl, q _ d (SrtO.srtd_map h1) hb (I.hok.fresh hd)⟩
    rw [hb.len]
    exact hz
theorem triplesOf_eq : ∀ {ds : List PyData} {ps : List (Int × Int × Int)}, triplesOf ds = some ps → ds = ps.map encT3 := by
  intro ds
  induction ds with
  | nil => intro ps h; cases h; rfl
  | cons d r ih =>
    intro ps h
    unfold triplesOf at h
    split at h
    · rename_i e; cases e
    · rename_i e
      cases e
      obtain ⟨q, h1, rfl⟩ := mpd h
      rw [ih h1]
      rfl
    · cases h
open Classical in
noncomputable def keyO3 (K : PySem.W.Frag) (H : Hp) (x : V) : Int × Int × Int := if h : ∃ p : Int × Int × Int, ∃ t, x = .ref t ∧ SqT K H t [.int p.1, .int p.2.1, .int p.2.2] then h.choose else (0, 0, 0)
theorem keyO3_eq {pins : List (Addr × Obj)} {s : Shared} {σ : L2.St} {H : Hp} (I : Inv X pins σ H s) {t : Addr} {p : Int × Int × Int} (h : SqT X.K H t [.int p.1, .int p.2.1, .int p.2.2]) : keyO3 X.K H (.ref t) = p := by
  unfold keyO3
  have e : ∃ p : Int × Int × Int, ∃ t', V.ref t = .ref t' ∧ SqT X.K H t' [.int p.1, .int p.2.1, .int p.2.2] := ⟨p, t, rfl, h⟩
  rw [dif_pos e]
  obtain ⟨t', e1, e2⟩ := e.choose_spec
  cases e1
  have := I.tuple_inj e2 h
  generalize e.choose = z at this
  obtain ⟨a, b, c⟩ := z
  cases this
  rfl
theorem keysOf_eq : ∀ {ds : List PyData} {ks : List (Int × PyData)}, keysOf ds = some ks → ds = ks.map encK := by
  intro ds
  induction ds with
  | nil => intro ps h; cases h; rfl
  | cons d r ih =>
    intro ps h
    unfold keysOf at h
    split at h
    · rename_i e; cases e
    · rename_i e
      cases e
      obtain ⟨q, h1, rfl⟩ := mpd h
      rw [ih h1]
      rfl
    · cases h
open Classical in
noncomputable def keyO1 (K : PySem.W.Frag) (H : Hp) (x : V) : Int := if h : ∃ k : Int, ∃ t y, x = .ref t ∧ SqT K H t [.int k, y] then h.choose else 0
theorem keyO1_eq {pins : List (Addr × Obj)} {s : Shared} {σ : L2.St} {H : Hp} (I : Inv X pins σ H s) {t : Addr} {k : Int} {y : V} (h : SqT X.K H t [.int k, y]) : keyO1 X.K H (.ref t) = k := by
  unfold keyO1
  have e : ∃ k : Int, ∃ t' y', V.ref t = .ref t' ∧ SqT X.K H t' [.int k, y'] := ⟨k, t, y, rfl, h⟩
  rw [dif_pos e]
  obtain ⟨t', y', e1, e2⟩ := e.choose_spec
  cases e1
  have := I.tuple_inj e2 h
  generalize e.choose = z at this
  cases this
  rfl
theorem leK_iff {p q : Int × PyData} : leK p q = true ↔ p.1 ≤ q.1 := by simp [leK]
theorem isortK_eq {l m : List (Int × PyData)} (nd : (m.map Prod.fst).Nodup) (h : l.Pairwise (fun a b => leK a b = true)) (p : l.Perm m) : l = isort leK m := by
  have inj : ∀ a ∈ m, ∀ b ∈ m, a.1 = b.1 → a = b := fun a ha b hb e => by
    obtain ⟨i, hi, rfl⟩ := List.getElem_of_mem ha
    obtain ⟨j, hj, rfl⟩ := List.getElem_of_mem hb
    have := (List.getElem_inj (h₀ := by rw [List.length_map]; exact hi) (h₁ := by rw [List.length_map]; exact hj) nd).mp (by rw [List.getElem_map, List.getElem_map]; exact e)
    subst this
    rfl
  have pm := isort_perm leK m
  refine List.Perm.eq_of_pairwise (le := fun a b => leK a b = true) (fun a b ha hb x y => inj a (p.mem_iff.mp ha) b (pm.mem_iff.mp hb) (by rw [leK_iff] at x y; omega)) h (isort_srt (fun a b e => ?_) (fun a b c x y => ?_) m) (p.trans pm.symm)
  · have : ¬ leK a b = true := by rw [e]; exact Bool.false_ne_true
    rw [leK_iff] at this ⊢
    omega
  · rw [leK_iff] at *
    omega
theorem perm_keys {ms ks : List (Int × PyData)} (nd : (ks.map Prod.fst).Nodup) (nm : (ms.map Prod.fst).Nodup) (p : (ms.map Prod.fst).Perm (ks.map Prod.fst)) (h : ∀ m ∈ ms, m ∈ ks) : ms.Perm ks := by
  have nd' : ks.Nodup := (List.pairwise_map.mp nd).imp fun {a b} h e => h (by rw [e])
  have nm' : ms.Nodup := (List.pairwise_map.mp nm).imp fun {a b} h e => h (by rw [e])
  refine (List.perm_ext_iff_of_nodup nm' nd').mpr fun a => ⟨h a, fun ha => ?_⟩
  have : a.1 ∈ ms.map Prod.fst := p.mem_iff.mpr (List.mem_map.mpr ⟨a, ha, rfl⟩)
  obtain ⟨b, hb, e⟩ := List.mem_map.mp this
  have hk := h b hb
  obtain ⟨i, hi, rfl⟩ := List.getElem_of_mem ha
  obtain ⟨j, hj, q⟩ := List.getElem_of_mem hk
  have := (List.getElem_inj (h₀ := by rw [List.length_map]; exact hj) (h₁ := by rw [List.length_map]; exact hi) nd).mp (by rw [List.getElem_map, List.getElem_map, q]; exact e)
  subst this
  rw [q]
  exact hb
theorem call_sortedX (hc : X.calm = true) : CallR X (.builtin "sorted") (fun xs H Q => ∃ d o ks vs, ∃ k : V → Int × Int, xs = [V.ref d] ∧ DxAt d o ks vs H ∧ ks.length ≤ sizeLine ∧ (∀ x ∈ ks, ∃ t, x = V.ref t ∧ SqT X.K H t [.int (k x).1, .int (k x).2]) ∧
    ∀ ys q, SrtO.Srtd (ltP k) ys → SrtO.Stb (ltP k) ys ks → H q = none → Q (.ref q) (upd H q (.lst ys))) := by
  intro pins s σ H xs us Q I r h
  obtain ⟨d, o, ks, vs, k, rfl, hdx, hz, hx, q⟩ := h
  obtain ⟨u, rfl, rx⟩ := vals1 r
  obtain rfl : u = Value.ref d := rx
  have hd := hdx.atO
  have rr := hdx.rows I
  obtain ⟨hs, hgd⟩ := hd.get I
  obtain ⟨hx0, es, ep, hdt, l1, l2, ent⟩ := id rr
  have pairs : ∀ (kx : V) (v : Value), kx ∈ ks → RelV kx v → Srt.IsPair s.heap v (k (backV v)).1 (k (backV v)).2 := fun kx v hm rv => by
    obtain ⟨t, e, ht⟩ := hx kx hm
    subst e
    obtain rfl : v = Value.ref t := rv
    obtain ⟨its2, r2, ⟨o, ho, hc, n, hd⟩, _⟩ := I.tuple ht
    obtain ⟨u1, u2, rfl, ri, rj⟩ := vals2 r2
    obtain ⟨t1, rfl⟩ := ri
    obtain ⟨t2, rfl⟩ := rj
    exact ⟨t, o, t1, t2, n, rfl, ho, hc, hd⟩
  refine SrtO.sorted_pairsD (k := fun u => k (backV u)) (kdl_raw hs hx0 hdt) (I.ok.hd hc) hgd (by omega) (fun j v hv => ?_) fun h' tk D out its hl hP h1 h2 kp hD hn => ?_
  · obtain ⟨en, hen, hv⟩ := hv
    obtain ⟨hj, ej⟩ := Array.getElem?_eq_some_iff.mp hen
    obtain ⟨kx, _, e1, _, r1, _⟩ := ent j hj
    rw [hv, ← ej]
    exact pairs kx _ (List.mem_of_getElem? e1) r1
  · have rv : Vals ks its := vals_of_at (by rw [hl, l1]) fun j x w h1 h2 => by
      obtain ⟨en, hen, hv⟩ := hP j w h2
      obtain ⟨hj, ej⟩ := Array.getElem?_eq_some_iff.mp hen
      obtain ⟨kx, _, e1, _, r1, _⟩ := ent j hj
      rw [h1] at e1
      cases e1
      rw [hv, ← ej]
      exact r1
    obtain ⟨e1, e2⟩ := refs_back rv fun x m => by
      obtain ⟨t, e, _⟩ := hx x m
      exact ⟨t, e⟩
    have h3 : ∀ u ∈ out, ∃ a, u = Value.ref a := fun u hu => e2 u (h2.perm.mem_iff.mp hu)
    obtain ⟨n, hn⟩ := hn
    have hb : SrtO.Stb (ltP k) (out.map backV) ks := by
      rw [e1]
      exact SrtO.Stb.map (ltP_swo k) backV h2
    refine ⟨.ref D, upd H D (.lst (out.map backV)), I.laid (t' := tk) kp hD ⟨?_, out, n, vals_back h3, hn⟩, rfl, q _ D (SrtO.srtd_map h1) hb (I.hok.fresh hD)⟩
    rw [hb.len]
    exact hz
theorem pairs_keys {F H : Hp} {pins : List (Addr × Obj)} {s : Shared} {σ : L2.St} (I : Inv X pins σ H s) (sf : Same F H) : ∀ {vs : List V} {ps : List (Int × Int)}, RpAll X.K F vs (ps.map encP) → vs.map (keyOf X.K H) = ps ∧ ∀ x ∈ vs, (∃ t, x = V.ref t ∧ SqT X.K H t [.int (keyOf X.K H x).1, .int (keyOf X.K H x).2]) ∧ Rp X.K F x (encP (keyOf X.K H x)) := by
  intro vs
  induction vs with
  | nil =>
    intro ps h
    cases ps with
    | nil => exact ⟨rfl, fun x hx => absurd hx (by simp)⟩
    | cons _ _ => cases h
  | cons x r ih =>
    intro ps h
    cases ps with
    | nil => cases h
    | cons q qs =>
      cases h with
      | cons a t =>
        obtain ⟨i1, i2⟩ := ih t
        cases a with
        | tup ht hr =>
          have e2 := RpAll.ints (ns := [q.1, q.2]) hr
          subst e2
          have hk : keyOf X.K H _ = q := keyOf_eq I (Same.sqT sf ht.sqT)
          refine ⟨by rw [List.map_cons, i1, hk], fun y hy => ?_⟩
          rcases List.mem_cons.mp hy with rfl | hy
          · rw [hk]
            exact ⟨⟨_, rfl, Same.sqT sf ht.sqT⟩, .tup ht hr⟩
          · exact i2 y hy
theorem b_sorted (hc : X.calm = true) : CallR X (.builtin "sorted") (rnS X.K (biD .sorted)) := by
  intro pins s σ H xs us Q I rs h
  obtain ⟨F, rv, r, sf, ws, h, k⟩ := h
  unfold biD at h
  split at h <;> try (first | contradiction | (cases h; done) | (rename_i e; cases e; done))
  rcases sortedR_cases h with ⟨ds, hd, h⟩ | ⟨rest, ps, hd, hp, rfl⟩
  rotate_left
  · obtain ⟨x, rfl, w⟩ := views1 ws
    obtain ⟨a, o, kvs, ds, rfl, ha, kn, ra, rfl⟩ := w.dt sf hd
    have l1 := ra.length
    rw [List.length_map] at l1
    have e1 : (((kvs.map fun x => x.1).map keyT).zip ds).map (fun p => p.1) = (kvs.map fun x => x.1).map keyT := List.map_fst_zip (by rw [List.length_map, List.length_map]; omega)
    rw [e1] at hp
    have rk : ∀ {zs : TK}, KeysN X.K F zs → RpAll X.K F (zs.map fun x => V.ref x.2.1) ((zs.map fun x => x.1).map keyT) := by
      intro zs
      induction zs with
      | nil => intro _; exact .nil
      | cons z zs ih => intro hz; exact .cons (.tup (hz z (by simp)) (.ofInts _)) (ih fun y hy => hz y (by simp [hy]))
    have rp := rk kn
    rw [pairsOf_eq hp] at rp
    obtain ⟨e2, e3⟩ := pairs_keys I sf rp
    refine call_sortedX hc pins s σ H _ us Q I rs ⟨a, o, _, _, keyOf X.K H, rfl, .inr ⟨kvs, ha, rfl, rfl⟩, by rw [List.length_map]; exact dt_small I ha, fun x hx => (e3 x hx).1, fun ys q srt stb n => ?_⟩
    have pm : ys.Perm (kvs.map fun x => V.ref x.2.1) := stb.perm
    have ry : ∀ zs : List V, (∀ z ∈ zs, z ∈ kvs.map fun x => V.ref x.2.1) → RpAll X.K F zs ((zs.map (keyOf X.K H)).map encP) := by
      intro zs
      induction zs with
      | nil => intro _; exact .nil
      | cons z r ih => intro hz; exact .cons (e3 z (hz z (by simp))).2 (ih fun y hy => hz y (by simp [hy]))
    have r2 := ry ys fun z hz => pm.mem_iff.mp hz
    have srt2 : (ys.map (keyOf X.K H)).Pairwise (fun a b => leP a b = true) := by
      rw [List.pairwise_map]
      refine List.Pairwise.imp ?_ srt
      intro a b hab
      have := SrtO.lexB_no.mp hab
      rw [leP_iff]
      omega
    have pm2 : (ys.map (keyOf X.K H)).Perm ps := by
      have := pm.map (keyOf X.K H)
      rw [e2] at this
      exact this
    rw [isortP_eq srt2 pm2] at r2
    obtain ⟨x1, w1⟩ := viewNew (K := X.K) sf n r2
    exact k _ _ _ x1 w1 (newOl n)
  obtain ⟨x, rfl, w⟩ := views1 ws
  obtain ⟨p, vs, rfl, hp, rp⟩ := w.lstv sf hd
  unfold sortedD at h
  split at h
  · rename_i ps e
    cases h
    obtain rfl := pairsOf_eq e
    have key : ∀ {vs : List V} {ps : List (Int × Int)}, RpAll X.K F vs (ps.map encP) → vs.map (keyOf X.K H) = ps ∧ ∀ x ∈ vs, (∃ t, x = V.ref t ∧ SqT X.K H t [.int (keyOf X.K H x).1, .int (keyOf X.K H x).2]) ∧ Rp X.K F x (encP (keyOf X.K H x)) := by
      intro vs
      induction vs with
      | nil =>
        intro ps h
        cases ps with
        | nil => exact ⟨rfl, fun x hx => absurd hx (by simp)⟩
        | cons _ _ => cases h
      | cons x r ih =>
        intro ps h
        cases ps with
        | nil => cases h
        | cons q qs =>
          cases h with
          | cons a t =>
            obtain ⟨i1, i2⟩ := ih t
            cases a with
            | tup ht hr =>
              have e2 := RpAll.ints (ns := [q.1, q.2]) hr
              subst e2
              have hk : keyOf X.K H _ = q := keyOf_eq I (Same.sqT sf ht.sqT)
              refine ⟨by rw [List.map_cons, i1, hk], fun y hy => ?_⟩
              rcases List.mem_cons.mp hy with rfl | hy
              · rw [hk]
                exact ⟨⟨_, rfl, Same.sqT sf ht.sqT⟩, .tup ht hr⟩
              · exact i2 y hy
    obtain ⟨e1, e2⟩ := key rp
    refine cr_sortedQ pins s σ H _ us Q I rs ⟨p, vs, keyOf X.K H, rfl, SqL.of hp, fun x hx => (e2 x hx).1, fun ys a srt stb n => ?_⟩
    have pm : ys.Perm vs := stb.perm
    have ry : ∀ zs : List V, (∀ z ∈ zs, z ∈ vs) → RpAll X.K F zs ((zs.map (keyOf X.K H)).map encP) := by
      intro zs
      induction zs with
      | nil => intro _; exact .nil
      | cons z r ih => intro hz; exact .cons (e2 z (hz z (by simp))).2 (ih fun y hy => hz y (by simp [hy]))
    have r2 := ry ys fun z hz => pm.mem_iff.mp hz
    have srt2 : (ys.map (keyOf X.K H)).Pairwise (fun a b => leP a b = true) := by
      rw [List.pairwise_map]
      refine List.Pairwise.imp ?_ srt
      intro a b hab
      have := SrtO.lexB_no.mp hab
      rw [leP_iff]
      omega
    have pm2 : (ys.map (keyOf X.K H)).Perm ps := by
      have := pm.map (keyOf X.K H)
      rw [e1] at this
      exact this
    rw [isortP_eq srt2 pm2] at r2
    obtain ⟨x1, w1⟩ := viewNew (K := X.K) sf n r2
    exact k _ _ _ x1 w1 (newOl n)
  · split at h
    · rename_i ns hn
      cases h
      obtain rfl := intsOf_eq hn
      obtain rfl := rp.ints
      refine cr_sortedI pins s σ H _ us Q I rs ⟨p, ns, rfl, SqL.of hp, fun ms a pm srt n => ?_⟩
      rw [isortI_eq srt pm]
      obtain ⟨x1, w1⟩ := viewNew (K := X.K) sf n (RpAll.ofInts (K := X.K) (F := F) (isort leI ns))
      exact k _ _ _ x1 w1 (newOl n)
    · split at h
      · rename_i ts e
        cases h
        obtain rfl := triplesOf_eq e
        have key : ∀ {vs : List V} {ps : List (Int × Int × Int)}, RpAll X.K F vs (ps.map encT3) → vs.map (keyO3 X.K H) = ps ∧ ∀ x ∈ vs, (∃ t, x = V.ref t ∧ SqT X.K H t [.int (keyO3 X.K H x).1, .int (keyO3 X.K H x).2.1, .int (keyO3 X.K H x).2.2]) ∧ Rp X.K F x (encT3 (keyO3 X.K H x)) := by
          intro vs
          induction vs with
          | nil =>
            intro ps h
            cases ps with
            | nil => exact ⟨rfl, fun x hx => absurd hx (by simp)⟩
            | cons _ _ => cases h
          | cons x r ih =>
            intro ps h
            cases ps with
            | nil => cases h
            | cons q qs =>
              cases h with
              | cons a t =>
                obtain ⟨i1, i2⟩ := ih t
                cases a with
                | tup ht hr =>
                  have e2 := RpAll.ints (ns := [q.1, q.2.1, q.2.2]) hr
                  subst e2
                  have hk : keyO3 X.K H _ = q := keyO3_eq I (Same.sqT sf ht.sqT)
                  refine ⟨by rw [List.map_cons, i1, hk], fun y hy => ?_⟩
                  rcases List.mem_cons.mp hy with rfl | hy
                  · rw [hk]
                    exact ⟨⟨_, rfl, Same.sqT sf ht.sqT⟩, .tup ht hr⟩
                  · exact i2 y hy
        obtain ⟨e1, e2⟩ := key rp
        refine cr_sortedT3 pins s σ H _ us Q I rs ⟨p, vs, keyO3 X.K H, rfl, SqL.of hp, fun x hx => (e2 x hx).1, fun ys a srt stb n => ?_⟩
        have pm : ys.Perm vs := stb.perm
        have ry : ∀ zs : List V, (∀ z ∈ zs, z ∈ vs) → RpAll X.K F zs ((zs.map (keyO3 X.K H)).map encT3) := by
          intro zs
          induction zs with
          | nil => intro _; exact .nil
          | cons z r ih => intro hz; exact .cons (e2 z (hz z (by simp))).2 (ih fun y hy => hz y (by simp [hy]))
        have r2 := ry ys fun z hz => pm.mem_iff.mp hz
        have srt2 : (ys.map (keyO3 X.K H)).Pairwise (fun a b => leT a b = true) := by
          rw [List.pairwise_map]
          refine List.Pairwise.imp ?_ srt
          intro a b hab
          have := ltB3_no.mp hab
          rw [leT_iff]
          omega
        have pm2 : (ys.map (keyO3 X.K H)).Perm ts := by
          have := pm.map (keyO3 X.K H)
          rw [e1] at this
          exact this
        rw [isortT_eq srt2 pm2] at r2
        obtain ⟨x1, w1⟩ := viewNew (K := X.K) sf n r2
        exact k _ _ _ x1 w1 (newOl n)
      obtain ⟨ks, e, h⟩ := bnd h
      split at h
      · rename_i nd
        cases h
        obtain rfl := keysOf_eq e
        have key : ∀ {vs : List V} {ks : List (Int × PyData)}, RpAll X.K F vs (ks.map encK) → vs.map (keyO1 X.K H) = ks.map Prod.fst ∧ ∀ (i : Nat) (x : V) (q : Int × PyData), vs[i]? = some x → ks[i]? = some q → (∃ t y, x = V.ref t ∧ SqT X.K H t [.int (keyO1 X.K H x), y]) ∧ keyO1 X.K H x = q.1 ∧ Rp X.K F x (encK q) := by
          intro vs
          induction vs with
          | nil =>
            intro ks h
            cases ks with
            | nil => exact ⟨rfl, fun i x q hx => by simp at hx⟩
            | cons _ _ => cases h
          | cons x r ih =>
            intro ks h
            cases ks with
            | nil => cases h
            | cons q qs =>
              cases h with
              | cons a t =>
                obtain ⟨i1, i2⟩ := ih t
                cases a with
                | tup ht hr =>
                  cases hr with
                  | cons hr1 hr2 =>
                    cases hr1
                    cases hr2 with
                    | cons hr3 hr4 =>
                      cases hr4
                      have hk : keyO1 X.K H _ = q.1 := keyO1_eq I (Same.sqT sf ht.sqT)
                      refine ⟨by rw [List.map_cons, List.map_cons, i1, hk], fun i y z hy hz => ?_⟩
                      cases i with
                      | zero =>
                        simp only [List.getElem?_cons_zero, Option.some.injEq] at hy hz
                        subst hy; subst hz
                        rw [hk]
                        exact ⟨⟨_, _, rfl, Same.sqT sf ht.sqT⟩, rfl, .tup ht (.cons (.int _) (.cons hr3 .nil))⟩
                      | succ i => exact i2 i y z (by simpa using hy) (by simpa using hz)
        obtain ⟨e1, e2⟩ := key rp
        have len : vs.length = ks.length := by rw [← List.length_map (f := keyO1 X.K H), e1, List.length_map]
        have at2 : ∀ x ∈ vs, ∃ (i : Nat) (q : Int × PyData), vs[i]? = some x ∧ ks[i]? = some q := fun x hx => by
          obtain ⟨i, hi, rfl⟩ := List.getElem_of_mem hx
          exact ⟨i, ks[i]'(by omega), List.getElem?_eq_getElem hi, List.getElem?_eq_getElem (by omega)⟩
        have ndv : (vs.map (keyO1 X.K H)).Nodup := by rw [e1]; exact nd
        refine cr_sortedKd pins s σ H _ us Q I rs ⟨p, vs, keyO1 X.K H, rfl, SqL.of hp, fun x hx => ?_, fun x hx y hy e => ?_, fun ys a srt stb n => ?_⟩
        · obtain ⟨i, q, h1, h2⟩ := at2 x hx
          exact (e2 i x q h1 h2).1
        · obtain ⟨i, hi, rfl⟩ := List.getElem_of_mem hx
          obtain ⟨j, hj, rfl⟩ := List.getElem_of_mem hy
          have := (List.getElem_inj (h₀ := by rw [List.length_map]; exact hi) (h₁ := by rw [List.length_map]; exact hj) ndv).mp (by rw [List.getElem_map, List.getElem_map]; exact e)
          subst this
          rfl
        · have pm : ys.Perm vs := stb.perm
          -- what each sorted thing stands for
          have ry : ∀ zs : List V, (∀ z ∈ zs, z ∈ vs) → ∃ ms : List (Int × PyData), RpAll X.K F zs (ms.map encK) ∧ ms.map Prod.fst = zs.map (keyO1 X.K H) ∧ ∀ m ∈ ms, m ∈ ks := by
            intro zs
            induction zs with
            | nil => intro _; exact ⟨[], .nil, rfl, fun m hm => absurd hm (by simp)⟩
            | cons z r ih =>
              intro hz
              obtain ⟨ms, r1, r2, r3⟩ := ih fun y hy => hz y (by simp [hy])
              obtain ⟨i, q, h1, h2⟩ := at2 z (hz z (by simp))
              obtain ⟨_, g2, g3⟩ := e2 i z q h1 h2
              refine ⟨q :: ms, .cons g3 r1, by rw [List.map_cons, List.map_cons, r2, g2], fun m hm => ?_⟩
              rcases List.mem_cons.mp hm with rfl | hm
              · exact List.mem_of_getElem? h2
              · exact r3 m hm
          obtain ⟨ms, r1, r2, r3⟩ := ry ys fun z hz => pm.mem_iff.mp hz
          have pk : (ms.map Prod.fst).Perm (ks.map Prod.fst) := by
            rw [r2, ← e1]
            exact pm.map _
          have pm2 : ms.Perm ks := perm_keys nd (pk.symm.nodup nd) pk r3
          have srt2 : ms.Pairwise (fun a b => leK a b = true) := by
            have : (ms.map Prod.fst).Pairwise (· ≤ ·) := by
              rw [r2, List.pairwise_map]
              refine List.Pairwise.imp ?_ srt
              intro a b hab
              have := of_decide_eq_false hab
              omega
            rw [List.pairwise_map] at this
            exact this.imp fun {a b} x => leK_iff.mpr x
          rw [isortK_eq nd srt2 pm2] at r1
          obtain ⟨x1, w1⟩ := viewNew (K := X.K) sf n r1
          exact k _ _ _ x1 w1 (newOl n)
      · cases h
def isIsI : Bi → Bool
  | .isI _ => true
  | _ => false
theorem r_bi (hc : X.calm = true) : ∀ b : Bi, isIsI b = false → CallR X (biV b) (rnS X.K (biD b))
  | .len, _ => b_len
  | .sum, _ => b_sum hc
  | .min2, _ => b_min2 hc
  | .max2, _ => b_max2 hc
  | .minL, _ => b_minL hc
  | .maxL, _ => b_maxL hc
  | .any, _ => b_any hc
  | .all, _ => b_all hc
  | .int, _ => b_int
  | .str, _ => b_str
  | .tup, _ => b_tup
  | .list, _ => b_list hc
  | .sorted, _ => b_sorted hc
  | .isI t, h => by cases h
def rIS (K : PySem.W.Frag) (t : Ty) : List V → Hp → VK → Prop := fun xs H Q => ∃ x d, xs = [x, .ty (tyN t)] ∧ Rp K H x d ∧ notScr d = true ∧ Q (.bl (isD t d)) H
theorem r_isI (t : Ty) : CallR X (.builtin "isinstance") (rIS X.K t) := by
  refine CallR.imp (CallR.or call_isi call_isiX) fun xs H Q ⟨x, d, e, h, n, q⟩ => ?_
  cases hr : dRows d with
  | none => exact .inl ⟨x, .ty (tyN t), _, _, isD t d, e, .ty _, rp_ty h n hr, kit_ty (kit_isD d t), q⟩
  | some r =>
    refine .inr ?_
    cases h with
    | dK ha ra => exact ⟨_, .ty (tyN t), _, isD t _, e, .ty _, .inl ⟨_, _, ha⟩, kit_ty (kit_isD (.dict _) t), q⟩
    | dT ha kn ra => exact ⟨_, .ty (tyN t), _, isD t _, e, .ty _, .inr ⟨_, _, ha⟩, kit_ty (kit_isD (.dict _) t), q⟩
    | _ => cases hr
theorem m_join : MtR X "str.join" (fun x xs H Q => ∃ F a rs r, Same F H ∧ View X.K F H x a ∧ Views X.K F H xs rs ∧ mtD .join a rs = some r ∧ ∀ v F' H', Ext F H F' H' → View X.K F' H' v r → New r v H H' → Q v H') := by
  intro pins s σ H x xs v us Q I rx rxs h
  obtain ⟨F, a, rs, r, sf, wa, ws, h, k⟩ := h
  obtain ⟨y', rfl, h⟩ := mt1_of h (fun e => nomatch e)
  obtain ⟨a', ys, rfl, hy, hl, rfl⟩ := join_eq h
  obtain ⟨ds, hd, hy⟩ := bnd hy
  obtain rfl := strsOf_eq hy
  obtain ⟨x', rfl, w⟩ := views1 ws
  obtain ⟨p, vs, rfl, hp, rp⟩ := w.seqv sf hd
  obtain rfl := rp.strs
  obtain rfl := wa.str
  exact mt_join pins s σ H _ _ v us Q I rx rxs ⟨_, p, ys, rfl, rfl, hp, hl, k _ F H (.refl sf) (.fz (.str _)) newFz⟩
end
end Mn
namespace Mn
open PySem PySem.Spec PyProof.Rows L2
section
variable {X : Cx} {pins : List (Addr × Obj)} {σ : L2.St} {H : Hp} {sI s : Shared} {a : Addr} {o : HO}
end
section
variable {X : Cx} {x n : Str} {c : Value} {i : Nat} {body rest : List Stmt} {st0 : Stmt} {q1 q2 q3 : Pos} {tb : WX → TS} {ts : TS} {W0 : WX}
end
end Mn
namespace Mn
open PySem PySem.Spec PyProof.Rows L2
inductive Xat (K : PySem.W.Frag) (F : Hp) : Value → Option Addr → PyData → Prop
  | x0 {C : Addr} {nm : Str} : ClsAt K nm C → Xat K F (.ref C) none (xd0 nm)
  | x1 {C dx : Addr} {nm f : Str} {v : V} {e : PyData} : ClsAt K nm C → F dx = some (.xd [(f, v)]) → Rp K F v e → Xat K F (.ref C) (some dx) (xd1 nm f e)
structure XcK (K : PySem.W.Frag) (C : Addr) : Prop where
  cl : PySem.W.isClsIn K C = true
  ga : PySem.W.findIn K (.ref C) "__getattribute__" = some (some (.builtin "BaseException.__getattribute__"))
  gt : PySem.W.findIn K (.ref C) "__getattr__" = some none
  sb : PySem.W.subIn K (.ref C) (.type "BaseException") = some true
  ca : PySem.W.findIn K (.ref C) "__class__" = some (some (.builtin "object.__class__"))
  mo : PySem.W.mroIn K C (.type "object") = some true
  hd : PySem.W.hasDictIn K C = true
  ty : PySem.W.typeIn K (.ref C) = some (.type "type")
  kp : PySem.W.keepIn K (.ref C) = true
  ve : PySem.W.subIn K (.ref C) (.type "ValueError") = some true
structure XcD (K : PySem.W.Frag) (C : Addr) : Prop where
  cl : PySem.W.isClsIn K C = true
  ty : PySem.W.typeIn K (.ref C) = some (.type "type")
  sb : PySem.W.subIn K (.ref C) (.type "BaseException") = some true
structure XcOk (K : PySem.W.Frag) (mg : Str → Option Value) (rzs cls fls m0s : List Str) : Prop where
  rz : ∀ nm ∈ rzs, ∃ C, ClsAt K nm C ∧ XcK K C ∧ ∀ f ∈ fls, PySem.W.findIn K (.ref C) f = some none
  ds : ∀ nm ∈ cls, ∃ C, ClsAt K nm C ∧ mg nm = some (.ref C) ∧ XcD K C
  pr : ∀ nm ∈ rzs, ∀ D ∈ cls, ∀ C E, ClsAt K nm C → ClsAt K D E → PySem.W.kitOne K (.ref C) (.ref E) = some (subX nm D) ∧ PySem.W.exmOne K (.ref C) (.ref E) = some (subX nm D)
  m0 : ∀ nm ∈ m0s, ∃ C, ClsAt K nm C ∧ mg nm = some (.ref C) ∧ XcK K C ∧ PySem.W.excIn K C [.type "ValueError", .type "Exception", .type "BaseException", .type "object"] "ValueError.__new__" = true
  nv : rzs ≠ [] → mg "ValueError" = none
  sp : rzs ≠ [] → PySem.W.specialIn K (.builtin "object.__class__") "__get__" = some (some (.builtin "getset_descriptor.__get__")) ∧ PySem.W.takesIn K (.builtin "object.__class__") = some true
theorem XcOk.none {K : PySem.W.Frag} {mg : Str → Option Value} : XcOk K mg [] [] [] [] :=
  ⟨fun _ h => by simp at h, fun _ h => by simp at h, fun _ h => by simp at h, fun _ h => by simp at h, fun h => absurd rfl h, fun h => absurd rfl h⟩
theorem ClsAt.eq {K : PySem.W.Frag} {nm : Str} {C E : Addr} (a : ClsAt K nm C) (b : ClsAt K nm E) : C = E := by
  have := a.symm.trans b
  cases this; rfl
section
variable {K : PySem.W.Frag} {F H : Hp} {v : V} {r : RV} {nm : Str}
theorem Rp.fld {d e : PyData} {f : Str} (h : Rp K F v d) (x : xfl f (.fz d) = some (nm, e)) : ∃ a C dx w, v = .ref a ∧ F a = some (ExC (.ref C) (some dx) a) ∧ ClsAt K nm C ∧ F dx = some (.xd [(f, w)]) ∧ Rp K F w e := by
  cases h with
  | xc1 h q g r =>
    unfold xfl at x
    dsimp only at x
    split at x
    · rename_i hf
      cases x
      subst hf
      exact ⟨_, _, _, _, rfl, h, q, g, r⟩
    · cases x
  | _ => simp [xfl] at x
theorem Xat.rp {cv : Value} {dd : Option Addr} {d : PyData} (x : Xat K F cv dd d) {a : Addr} (n : F a = none) : Rp K (upd F a (ExC cv dd a)) (.ref a) d := by
  cases x with
  | x0 q => exact .xc0 upd_same q
  | x1 q g r => exact .xc1 upd_same q (by rw [upd_ne (ne_of_none g n)]; exact g) (r.mono (Same.upd n))
theorem Xat.mono {F' : Hp} {cv : Value} {dd : Option Addr} {d : PyData} (e : Same F F') (x : Xat K F cv dd d) : Xat K F' cv dd d := by
  cases x with
  | x0 q => exact .x0 q
  | x1 q g r => exact .x1 q (e _ _ g) (r.mono e)
end
section
variable {X : Cx}
end
end Mn
namespace Mn
open PySem PySem.Spec PyProof.Rows L2
structure SeI (K : PySem.W.Frag) (mg : Str → Option Value) (S : Addr) : Prop where
  gS : mg "SplitError" = some (.ref S)
  rd : PySem.W.readsIn K S (.type "type") = true
  ga : PySem.W.specialIn K (.ref S) "__getattribute__" = some (some (.builtin "type.__getattribute__"))
  at_ : PySem.W.findCls K (.ref S) (.type "type") "__init__" = some (.val (.builtin "ValueError.__init__"))
section
variable {X : Cx} {S : Addr} {e : Expr} {es : List Expr} {ta : TA} {p1 p2 pos : Pos}
end
def spI (C : Addr) (f : Str) : Sp := fun vs H Q _ => ∃ a v, vs = [.ref a, v] ∧ H a = some (exo a C none) ∧ ∀ dx, H dx = none → dx ≠ a → Q .non (upd (upd H dx (exd dx [(f, v)])) a (exo a C (some dx)))
structure X1 (P : Program) (w : World) (K : PySem.W.Frag) (mg : Str → Option Value) (base : Heap) (nm f : Str) : Prop where
  ex : ∃ (C fI : Addr) (fd : FuncData) (ps : List Str), ClsAt K nm C ∧ mg nm = some (.ref C) ∧ OexC K C ∧ PySem.W.findIn K (.ref C) "__init__" = some (some (.ref fI)) ∧ PySem.W.typeIn K (.ref fI) = some (.type "function") ∧ Binds K fd ps [] ∧ FnOk P w K mg base CX0 1 fI fd ps (spI C f)
section
variable {X : Cx} {Wx : WX} {e : Expr} {te : TE} {nm f : Str} {p pos pos2 : Pos}
end
end Mn
namespace Mn
open PySem PySem.Spec PyProof.Rows L2
def KDcs (K : PySem.W.Frag) (w : World) (a : Addr) (x : Str) (r : Option V) : Prop :=
  (a == sysModules) = false ∧ ∃ es n u, K.lookup a = some ⟨.type "dict", none, .dict es n, #[]⟩ ∧ PySem.W.KeysLit w.params es.toList ∧ PySem.W.nsIn K a x = some u ∧ RelO r u
section
variable {X : Cx}
end
def GdAt (K : PySem.W.Frag) (mg : Str → Option Value) (w : World) (gds : List (Str × List (Str × PyData))) : Prop := ∀ x kvs, gds.lookup x = some kvs → ∃ a, mg x = some (.ref a) ∧ (∀ z d, kvs.lookup z = some d → ∃ v, KDct K w a z v ∧ ∀ F, Rp K F v d) ∧ (a == sysModules) = false ∧ ∀ z, kvs.lookup z = none → KDcs K w a z none
theorem GdAt.none {K : PySem.W.Frag} {mg : Str → Option Value} {w : World} : GdAt K mg w [] := fun _ _ h => by cases h
theorem KDct.some {K : PySem.W.Frag} {w : World} {a : Addr} {x : Str} {v : V} (h : KDct K w a x v) (n : (a == sysModules) = false) : KDcs K w a x (some v) := by
  obtain ⟨es, k, u, h1, h2, h3, h4⟩ := h
  exact ⟨n, es, k, _, h1, h2, h3, h4⟩
section
variable {X : Cx} {pins : List (Addr × Obj)} {σ : L2.St} {H : Hp} {s : Shared}
theorem laidP {x y z : Str} {t u v : Tok} {k : Nat} {Q : VK} (I : Inv X pins σ H s) (q : NewT Q H [.str x, .str y, .str z]) :
    EP X pins σ Q (.ref s.heap.objs.size) { s with toks := k, heap := s.heap.push { cls := .type "tuple", data := .seq [Value.str x t, .str y u, .str z v].toArray } } :=
  laidQ (xs := [.str x, .str y, .str z]) (its := [Value.str x t, .str y u, .str z v]) (s := s) (h0 := s.heap) (tk := k) (I.tok k) (by show 3 ≤ sizeLine; decide) (.cons ⟨t, rfl⟩ (.cons ⟨u, rfl⟩ (.cons ⟨v, rfl⟩ .nil))) q
theorem mt_partN : MtR X "str.partition" (fun x xs H Q => ∃ a b, x = .str a ∧ xs = [.str b] ∧ (b.length == 0) = false ∧ a.length ≤ sizeLine ∧ NewT Q H [.str (Txt.partition a b).1, .str (Txt.partition a b).2.1, .str (Txt.partition a b).2.2]) := by
  intro pins s σ H x xs v us Q I rx rs h
  obtain ⟨a, b, rfl, rfl, hb, hz, h⟩ := h
  obtain ⟨t, rfl⟩ := rx
  cases rs with
  | cons r1 rs =>
    cases rs
    obtain ⟨u, rfl⟩ := r1
    refine call_meets F.slot_str_partition (typeIs_str _ _ _) F.entry_str_partition (F.args_str_partition_2 _ _) (meets_str_partition a b t u hb hz) ?_
    unfold Txt.partition at h
    revert h
    cases Builtin.Str.occurrences a b 0 a.length 1 with
    | nil => intro h; exact laidP I h
    | cons i r => intro h; exact laidP I h
end
end Mn
namespace Mn
open PySem PySem.Spec PyProof.Rows L2
inductive HdM (X : Cx) : List ExceptHandler → List (Value × Option Nat × TS) → Prop
  | nil : HdM X [] []
  | named {x n : Str} {c : Value} {i : Nat} {ts : TS} {st0 : Stmt} {rest : List Stmt} {q1 q2 : Pos} {hds : List ExceptHandler} {l : List (Value × Option Nat × TS)} (nm : Names X x c) (hi : X.N[i]? = some n) (hl : X.env.kindOf n = some .local) (hz : ∀ (a : Addr) (pn : List (Addr × Obj)), PSs (X.suite a pn) (st0 :: rest) ts) (r : HdM X hds l) :
      HdM X (.ExceptHandler (some (.Name x q1)) (some n) (st0 :: rest) q2 :: hds) ((c, some i, ts) :: l)
  | plain {x : Str} {c : Value} {ts : TS} {st0 : Stmt} {rest : List Stmt} {q1 q2 : Pos} {hds : List ExceptHandler} {l : List (Value × Option Nat × TS)} (nm : Names X x c) (hz : ∀ (a : Addr) (pn : List (Addr × Obj)), PSs (X.suite a pn) (st0 :: rest) ts) (r : HdM X hds l) :
      HdM X (.ExceptHandler (some (.Name x q1)) none (st0 :: rest) q2 :: hds) ((c, none, ts) :: l)
section
variable {X : Cx} {body : List Stmt} {h₀ : ExceptHandler} {hds : List ExceptHandler} {l : List (Value × Option Nat × TS)} {q3 : Pos} {tb : WX → TS} {W0 : WX}
end
end Mn
namespace Mn
open PySem PySem.Spec PyProof.Rows L2
structure FnN (P : Program) (w : World) (K : PySem.W.Frag) (mg : Str → Option Value) (base : Heap) (k : Nat) (f : Addr) (fd : FuncData) (ps : List Str) (sp : Sp) : Prop where
  len : ∀ vs H Q E, sp vs H Q E → vs.length = ps.length
  run : ∀ (A : Around) (outer : List Env) (s : Shared) (H : Hp) (args : Args) (us : List Value) (vs : List V) (Q : VK) (E : XK), L2H.RoomH k A → Env0 P w K mg base A outer s H → BindsTo s fd args (ps.zip us) → Vals vs us → sp vs H Q E →
    codeAny (model P w) A (.call (.ref f) args) (CR CX0 outer P w H s Q E) s
section
variable {P : Program} {w : World} {K : PySem.W.Frag} {mg : Str → Option Value} {base : Heap}
end
section
variable {X : Cx} {k : Nat} {f : Addr} {fd : FuncData} {ps : List Str} {sp : Sp} {x : Str} {q pos : Pos} {e : Expr} {es : List Expr} {t : TA}
end
def AskAt (K : PySem.W.Frag) (cs : List Str) (v : V) (H : Hp) (nm : Str) : Prop := ∃ a C dd, v = .ref a ∧ H a = some (ExC (.ref C) dd a) ∧ (∀ d, dd = some d → ∃ fs, H d = some (.xd fs)) ∧ XcK K C ∧ ∀ D ∈ cs, ∀ E, ClsAt K D E → PySem.W.kitOne K (.ref C) (.ref E) = some (subX nm D)
def spAl (K : PySem.W.Frag) (d : AlD) : Sp := fun vs H Q _ => ∃ v nm, vs = [v] ∧ AskAt K d.cl v H nm ∧ Q (.bl (d.ask nm)) H
structure AlOk (P : Program) (w : World) (K : PySem.W.Frag) (mg : Str → Option Value) (base : Heap) (g : Str) (d : AlD) : Prop where
  ex : ∃ (f : Addr) (fd : FuncData) (ps : List Str), mg g = some (.ref f) ∧ PySem.W.keepIn K (.ref f) = true ∧ Binds K fd ps [] ∧ FnN P w K mg base 1 f fd ps (spAl K d)
def gloS (sc : Scope) (x : Str) : Bool := decide (sc.names.lookup x = some NameKind.globalImplicit)
section
variable {X : Cx} {en kn : Str} {cs : List Str} {sc : Scope}
structure AlX (X : Cx) (sc : Scope) (en kn : Str) (cs : List Str) : Prop where
  hs : X.env.scope = sc
  n0 : X.N[0]? = some en
  n1 : X.N[1]? = some kn
  nd : X.N.Nodup
  l0 : sc.names.lookup en = some .local
  l1 : sc.names.lookup kn = some .local
  e0 : (en == ("__debug__" : Str)) = false ∧ (en == ("__classdict__" : Str)) = false
  e1 : (kn == ("__debug__" : Str)) = false ∧ (kn == ("__classdict__" : Str)) = false
  bi : X.mg "int" = none
  bs : X.mg "isinstance" = none
  bv : X.mg "ValueError" = none
  sp : PySem.W.specialIn X.K (.builtin "object.__class__") "__get__" = some (some (.builtin "getset_descriptor.__get__")) ∧ PySem.W.takesIn X.K (.builtin "object.__class__") = some true
  ds : ∀ D ∈ cs, ∃ C, ClsAt X.K D C ∧ X.mg D = some (.ref C)
theorem AlX.gl (C : AlX X sc en kn cs) {x : Str} (h : gloS sc x = true) : Gl X x := by
  show X.env.scope.names.lookup x = some .globalImplicit
  rw [C.hs]
  exact of_decide_eq_true h
end
end Mn
namespace Mn
open PySem PySem.Spec PyProof.Rows L2
abbrev X1HC (P : Program) (w : World) (K : PySem.W.Frag) (mg : Str → Option Value) (base : Heap) (nm f : Str) (C : Addr) : Prop := ∃ (fI : Addr) (fd : FuncData) (ps : List Str), ClsAt K nm C ∧ mg nm = some (.ref C) ∧ OexC K C ∧ PySem.W.findIn K (.ref C) "__init__" = some (some (.ref fI)) ∧ PySem.W.typeIn K (.ref fI) = some (.type "function") ∧ Binds K fd ps [] ∧ L2H.FnH P w K mg base CX0 1 fI fd ps (spI C f)
structure X1H (P : Program) (w : World) (K : PySem.W.Frag) (mg : Str → Option Value) (base : Heap) (nm f : Str) : Prop where
  ex : ∃ C, X1HC P w K mg base nm f C
section
variable {X : Cx} {Wx : WX} {e : Expr} {te : TE} {nm f : Str} {p pos pos2 : Pos}
end
end Mn
namespace Mn
open PySem PySem.Spec PyProof.Rows L2
structure Sx where
  sc : Scope
  N : List Str
  fn : Str → Bool
  fns : List Str
  gls : List Str
  /-- defs that may raise -/
  xns : List Str := []
  /-- defs and methods that change a tree; defs that give one back -/
  tns : List (Option Str × Str × Nat) := []
  rns : List Str := []
  /-- classes that are made, by their __init__ -/
  cns : List (Nat × Str) := []
def Sx.vis (s : Sx) (x : Str) : Bool := match s.sc.names.lookup x with
  | some .local => true
  | some .cell => true
  | some .free => true
  | _ => false
def Sx.glo (s : Sx) (x : Str) : Bool := decide (s.sc.names.lookup x = some .globalImplicit)
def Sx.loc (s : Sx) (x : Str) : Bool := match s.sc.names.lookup x with
  | some .local => true
  | some .cell => s.fn x
  | _ => false
def okN (x : Str) : Bool := !(x == ("__debug__" : Str)) && !(x == ("__classdict__" : Str))
def boIs : Bo → Operator → Bool
  | .add, .Add => true
  | .sub, .Sub => true
  | .mul, .Mult => true
  | .fdiv, .FloorDiv => true
  | .mod, .Mod => true
  | .pow, .Pow => true
  | _, _ => false
def coIs : Co → CmpOp → Bool
  | .eq, .Eq => true
  | .ne, .NotEq => true
  | .lt, .Lt => true
  | .le, .LtE => true
  | .gt, .Gt => true
  | .ge, .GtE => true
  | .isN, .Is => true
  | .noN, .IsNot => true
  | .inn, .In => true
  | .nin, .NotIn => true
  | _, _ => false
def biN : Bi → Str
  | .len => "len"
  | .sum => "sum"
  | .min2 => "min"
  | .max2 => "max"
  | .minL => "min"
  | .maxL => "max"
  | .any => "any"
  | .all => "all"
  | .int => "int"
  | .str => "str"
  | .tup => "tuple"
  | .list => "list"
  | .sorted => "sorted"
  | .isI _ => "isinstance"
def tyS (t : Ty) : Str := (tyN t : String)
def biT : Bi → Ty
  | .isI t => t
  | _ => .int
def bnames : List Str := ["len", "sum", "min", "max", "any", "all", "int", "str", "tuple", "list", "sorted", "isinstance", "bool", "dict", "range", "zip", "enumerate", "reversed"]
def baseOk : Expr → Bool
  | .Call (.Name _ _) [] [] _ => false
  | _ => true
def Sx.blk (s : Sx) (scope : Scope) : Sx := { s with sc := relS scope s.sc, fn := fun x => scope.names.lookup x == some .cell }
def tgIn : Tg → List Nat → Bool
  | .nm i, own => own.contains i
  | .tp is, own => is.all own.contains
def chkNs (s : Sx) : List Nat → List Expr → Bool
  | [], [] => true
  | i :: is, .Name x _ :: es => decide (s.N[i]? = some x) && s.loc x && chkNs s is es
  | _, _ => false
def chkTg (s : Sx) : Tg → Expr → Bool
  | .nm i, .Name x _ => decide (s.N[i]? = some x) && s.loc x
  | .tp is, .Tuple es _ _ => chkNs s is es
  | _, _ => false
def isTup : Expr → Bool
  | .Tuple _ _ _ => true
  | _ => false
def ownN (s : Sx) (own : List Nat) : List (Str × Nat) := own.map fun i => (s.N.getD i ⟨#[]⟩, i)
def chkV (s : Sx) (i : Nat) : Expr → Bool
  | .Name x _ => decide (s.N[i]? = some x) && s.vis x && okN x
  | _ => false
def chkP : Pth → Sx → Expr → Bool
  | .nm i, s, e => chkV s i e
  | .iv p i, s, e => match e with
    | .Subscript x y _ => chkP p s x && chkV s i y
    | _ => false
  | .ic p n, s, e => match e with
    | .Subscript x (.Constant (.int m) _ _) _ => chkP p s x && decide (m = n)
    | _ => false
  | .ia p i n, s, e => match e with
    | .Subscript x (.BinOp y .Add (.Constant (.int m) _ _) _) _ => chkP p s x && chkV s i y && decide (m = n)
    | _ => false
  | .fl p f, s, e => match e with
    | .Attribute o nm _ => decide (nm = f) && baseOk o && chkP p s o
    | _ => false
mutual
def chkE : Ex → Sx → Expr → Bool
  | .var i, s, e => match e with
    | .Name x _ => decide (s.N[i]? = some x) && s.vis x && okN x
    | _ => false
  | .int i, s, e => match e with
    | .Constant (.int j) _ _ => decide (i = j)
    | _ => false
  | .str x, s, e => match e with
    | .Constant (.str y) _ _ => decide (x = y)
    | _ => false
  | .bl x, s, e => match e with
    | .Constant (.bool y) _ _ => decide (x = y)
    | _ => false
  | .non, s, e => false
  | .glb g, s, e => match e with
    | .Name x _ => decide (s.gls[g]? = some x) && s.glo x && okN x
    | _ => false
  | .bin o a b, s, e => match e with
    | .BinOp l op r _ => boIs o op && chkE a s l && chkE b s r
    | _ => false
  | .neg a, s, e => false
  | .not a, s, e => match e with
    | .UnaryOp .Not x _ => chkE a s x
    | _ => false
  | .one a, s, e => match e with
    | .BoolOp _ [x] _ => chkE a s x
    | _ => false
  | .and a b, s, e => match e with
    | .BoolOp .And (x :: y :: r) pos => chkE a s x && chkE b s (.BoolOp .And (y :: r) pos)
    | _ => false
  | .or a b, s, e => match e with
    | .BoolOp .Or (x :: y :: r) pos => chkE a s x && chkE b s (.BoolOp .Or (y :: r) pos)
    | _ => false
  | .cmp o a b, s, e => match e with
    | .Compare l [op] [r] _ => coIs o op && chkE a s l && chkE b s r && !behindInMarks op r
    | _ => false
  | .chn o o' a b c, s, e => match e with
    | .Compare l [op, op'] [m, r] _ => coIs o op && coIs o' op' && chkE a s l && chkE b s m && chkE c s r && !lastMarks [op, op'] [m, r]
    | _ => false
  | .chn3 o o' o2 a b c d, s, e => false
  | .dsx kvs k, s, e => false
  | .dsv k1 k2 a b k, s, e => false
  | .isx a D, s, e => false
  | .fld a f, s, e => false
  | .mkx C a, s, e => false
  | .gdx g k, s, e => false
  | .gin g k neg, s, e => false
  | .lenD i, s, e => false
  | .lenI i k, s, e => false
  | .rvt a, s, e => false
  | .jrv a b, s, e => false
  | .rvl a, s, e => false
  | .sls a lo st, s, e => false
  | .ite t a b, s, e => false
  | .tup es, s, e => match e with
    | .Tuple xs _ _ => chkEs es s xs
    | _ => false
  | .lst es, s, e => match e with
    | .List xs _ => chkEs es s xs
    | _ => false
  | .call f es, s, e => match e with
    | .Call (.Name x _) xs [] _ => decide (s.fns[f]? = some x) && s.glo x && okN x && chkEs es s xs
    | _ => false
  | .bi b es, s, e => match e with
    | .Call (.Name x _) xs [] _ => decide (x = biN b) && s.glo x && (if isIsI b then (match xs with
      | [y, .Name z _] => decide (z = tyS (biT b)) && s.glo z && chkEs es s [y]
      | _ => false) else !xs.isEmpty && chkEs es s xs)
    | _ => false
  | .mt m a es, s, e => match e with
    | .Call (.Attribute o nm apos) [x] [] cpos => (match m with
      | .join => decide (nm = "join")
      | .index => decide (nm = "index")
      | .count => decide (nm = "count")
      | .split => decide (nm = "split")
      | .partition => decide (nm = "partition")
      | _ => false) && (apos.endLine == cpos.line) && baseOk o && chkE a s o && chkEs es s [x]
    | .Call (.Attribute o nm apos) [x, y] [] cpos => (match m with
      | .get => decide (nm = "get")
      | _ => false) && (apos.endLine == cpos.line) && baseOk o && chkE a s o && chkEs es s [x, y]
    | _ => false
  | .idx a i, s, e => match e with
    | .Subscript x y _ => chkE a s x && chkE i s y
    | _ => false
  | .slc a lo hi, s, e => match e with
    | .Subscript x (.Slice l h none _) _ => chkE a s x && chkO lo s l && chkO hi s h
    | _ => false
  | .emp, s, e => false
  | .pth p, s, e => chkP p s e
  | .lnd i, s, e => chkV s i e
  | .isj a D, s, e => match e with
    | .Call (.Name x _) [y, .Name z _] [] _ => decide (x = "isinstance") && s.glo x && decide (z = D) && s.glo z && okN z && chkE a s y
    | _ => false
  | .fjd a f, s, e => match e with
    | .Attribute o nm _ => decide (nm = f) && baseOk o && chkE a s o
    | _ => false
  | .mtj a m es, s, e => match e with
    | .Call (.Attribute o nm apos) xs [] cpos => decide (nm = m) && (apos.endLine == cpos.line) && decide (xs.length < 30) && baseOk o && chkE a s o && chkEs es s xs
    | _ => false
  | .mkj f es, s, e => match e with
    | .Call (.Name y _) xs [] _ => decide ((f, y) ∈ s.cns) && s.glo y && okN y && chkEs es s xs
    | _ => false
  | .dT1 k v, s, e => match e with
    | .Dict [some x] [y] _ => chkE k s x && chkE v s y
    | _ => false
  | .lenP p, s, e => false
  | .dnK, s, e => false
  | .dnT, s, e => false
  | .dzp a b, s, e => false
  | .sumv a, s, e => false
  | .comp e tg it t own, s, p => match p with
    | .ListComp elt [⟨tg', iter, ifs, k⟩] scope _ => decide (k = 0) && blkC s.N s.sc scope (ownN s own) && tgIn tg own && chkI it s tg' iter && chkTg (s.blk scope) tg tg' && chkE e (s.blk scope) elt && chkT t (s.blk scope) ifs
    | _ => false
def chkO : Ex → Sx → Option Expr → Bool
  | .emp, _, e => match e with
    | none => true
    | _ => false
  | .one a, s, e => match e with
    | some x => chkE a s x
    | _ => false
  | _, _, _ => false
def chkT : Ex → Sx → List Expr → Bool
  | .emp, _, e => match e with
    | [] => true
    | _ => false
  | .one a, s, e => match e with
    | [x] => chkE a s x
    | _ => false
  | _, _, _ => false
def chkEs : Exs → Sx → List Expr → Bool
  | .nil, _, e => match e with
    | [] => true
    | _ => false
  | .cons a as, s, e => match e with
    | x :: xs => chkE a s x && chkEs as s xs
    | _ => false
def chkI : Itr → Sx → Expr → Expr → Bool
  | .ex a, s, _, e => chkE a s e
  | .r1 a, s, _, e => match e with
    | .Call (.Name x _) [y] [] _ => decide (x = "range") && s.glo x && chkE a s y
    | _ => false
  | .r2 a b, s, _, e => false
  | .r3 a b c, s, _, e => false
  | .zip a b, s, tg, e => match e with
    | .Call (.Name x _) [y, z] [] _ => decide (x = "zip") && s.glo x && isTup tg && chkE a s y && chkE b s z
    | _ => false
  | .zip3 a b c, s, tg, e => false
  | .en a, s, tg, e => match e with
    | .Call (.Name x _) [y] [] _ => decide (x = "enumerate") && s.glo x && isTup tg && chkE a s y
    | _ => false
  | .rv a, s, tg, e => false
  | .its a, s, tg, e => false
  | .vals a, s, tg, e => false
  | .exD i k, s, tg, e => false
  | .zipD i k j l, s, tg, e => false
end
def plainX : Expr → Bool
  | .Starred _ _ => false
  | .Slice _ _ _ _ => false
  | .Set _ _ _ => false
  | _ => true
theorem chkP_plain {a : Pth} {s : Sx} {e : Expr} (h : chkP a s e = true) : plainX e = true := by
  cases e with
  | Starred _ _ => cases a <;> simp [chkP, chkV] at h
  | Slice _ _ _ _ => cases a <;> simp [chkP, chkV] at h
  | Set _ _ _ => cases a <;> simp [chkP, chkV] at h
  | _ => rfl
theorem chk_plain {a : Ex} {s : Sx} {e : Expr} (h : chkE a s e = true) : plainX e = true := by
  cases e with
  | Starred _ _ => cases a <;> first | (simp [chkE] at h; done) | (simp [chkE, chkV] at h; done) | (rename_i p; exact chkP_plain (a := p) (by simpa [chkE] using h))
  | Slice _ _ _ _ => cases a <;> first | (simp [chkE] at h; done) | (simp [chkE, chkV] at h; done) | (rename_i p; exact chkP_plain (a := p) (by simpa [chkE] using h))
  | Set _ _ _ => cases a <;> first | (simp [chkE] at h; done) | (simp [chkE, chkV] at h; done) | (rename_i p; exact chkP_plain (a := p) (by simpa [chkE] using h))
  | _ => rfl
theorem star_of {e : Expr} (h : plainX e = true) (es : List Expr) (env : Env) : starEach (e :: es) env = (false, eval e env) :: starEach es env := by
  cases e with
  | Starred _ _ => cases h
  | _ => rfl
theorem set_of {e : Expr} (h : plainX e = true) (env : Env) (x : Value) : foldedSetIterable e env x = pure x := by
  cases e with
  | Set _ _ _ => cases h
  | _ => rfl
theorem ix_of {e : Expr} (h : plainX e = true) : PlainIx e := by
  intro o i
  cases e with
  | Slice _ _ _ _ => cases h
  | _ => rfl
theorem chks_plain : ∀ {as : Exs} {s : Sx} {es : List Expr}, chkEs as s es = true → ∀ e ∈ es, plainX e = true
  | .nil, s, [], _, e, he => by simp at he
  | .nil, s, _ :: _, h, _, _ => by simp [chkEs] at h
  | .cons a as, s, [], h, _, _ => by simp [chkEs] at h
  | .cons a as, s, x :: xs, h, e, he => by
    simp only [chkEs, Bool.and_eq_true] at h
    rcases List.mem_cons.mp he with rfl | he
    · exact chk_plain h.1
    · exact chks_plain h.2 e he
theorem plain_any {env : Env} {pos : Pos} : ∀ {es : List Expr}, (∀ e ∈ es, plainX e = true) → (backTo pos (starEach es env)).any (·.1) = false
  | [], _ => rfl
  | e :: es, h => by
    rw [star_of (h e (by simp)) es env]
    show (false || (backTo pos (starEach es env)).any (·.1)) = false
    rw [plain_any fun x hx => h x (List.mem_cons_of_mem _ hx)]
    rfl
theorem base_of {o : Expr} (h : baseOk o = true) (nm : Str) (env : Env) (w : Sem Value) : attributeBase o nm env w = w := by
  unfold attributeBase
  split
  · cases h
  · rfl
structure Callee (X : Cx) (nm : Str) (np : Nat) (sem : List PyData → Option RV) : Prop where
  ex : ∃ (CX : CXT) (k : Nat) (f : Addr) (fd : FuncData) (ps : List Str), Room k X.A ∧ X.mg nm = some (.ref f) ∧ PySem.W.keepIn X.K (.ref f) = true ∧ Binds X.K fd ps [] ∧
    FnOk X.prog X.w X.K X.mg X.base CX k f fd ps (fun vs H Q _ => ∃ F ds r, Same F H ∧ RpAll X.K F vs ds ∧ ds.length = np ∧ sem ds = some r ∧ ∀ v F' H', Ext F H F' H' → View X.K F' H' v r → New r v H H' → Q v H') ∧
    ∀ outer H s e s', CX outer H s E0 e s' → False
structure CalleeX (X : Cx) (nm : Str) (np : Nat) (sem : List PyData → Option RV) : Prop where
  ex : ∃ (k : Nat) (f : Addr) (fd : FuncData) (ps : List Str), Room k X.A ∧ X.mg nm = some (.ref f) ∧ PySem.W.keepIn X.K (.ref f) = true ∧ Binds X.K fd ps [] ∧
    FnOk X.prog X.w X.K X.mg X.base (L2.CX X.prog X.w) k f fd ps (fun vs H Q E => ∃ F ds r, Same F H ∧ RpAll X.K F vs ds ∧ ds.length = np ∧ sem ds = some r ∧ (∀ v F' H', Ext F H F' H' → View X.K F' H' v r → New r v H H' → Q v H') ∧
      ∀ d, r = .xr d → ∀ F' H' cv dd, Ext F H F' H' → Xat X.K F' cv dd d → E cv dd H')
def restT (H : Hp) (ps : List Addr) : Hp := fun b => if b ∈ ps then none else H b
def PinsAt (H : Hp) (v : V) (t : OT) (pw : List (List Stp)) (ls : List V) : Prop := ∀ (n : Nat) w, pw[n]? = some w → ∃ a u, ls[n]? = some a ∧ t.sub w = some u ∧ u.isNd = true ∧ walkH H v w = some a
def spT (K : PySem.W.Frag) (q np : Nat) (fit : OT → Bool) (sem : List (List Stp) → OT → List PyData → Option (RV × OT)) : Sp := fun vs H Q E => ∃ F v t ps pw ls vs1 vs2 ds r u,
  vs = vs1 ++ v :: vs2 ∧ vs1.length = q ∧ Same F H ∧ Tr K F H v t ps ∧ ps.Nodup ∧ t.isNd = true ∧ fit t = true ∧ PinsAt H v t pw ls ∧ RpAll K F (vs1 ++ vs2) ds ∧ ds.length + 1 = np ∧ sem pw t ds = some (r, u) ∧
  (∀ rv F' H' qs, Ext F (restT H ps) F' H' → View K F' H' rv r → Tr K F' H' v u qs → qs.Nodup → (∀ b ∈ qs, b ∈ ps ∨ H b = none) → PinsAt H' v u pw ls → (∀ b, Foot H' r rv b → (b ∈ ps ∨ H b = none) ∧ b ∉ qs) → Q rv H') ∧
  ∀ d, r = .xr d → ∀ F' H' qs cv dd, Ext F (restT H ps) F' H' → Tr K F' H' v u qs → qs.Nodup → (∀ b ∈ qs, b ∈ ps ∨ H b = none) → PinsAt H' v u pw ls → Xat K F' cv dd d → E cv dd H'
def fitC : Option (Str × Str) → OT → Bool
  | none, _ => true
  | some nm, .nd (.ob nm' fs) _ => decide (nm.1 = nm') && !fs.contains nm.2
  | _, _ => false
structure CalleeT (X : Cx) (cn : Option Str) (nm : Str) (q np : Nat) (sem : List (List Stp) → OT → List PyData → Option (RV × OT)) : Prop where
  ex : ∃ (k : Nat) (f : Addr) (fd : FuncData) (ps : List Str), Room k X.A ∧ PySem.W.keepIn X.K (.ref f) = true ∧ Binds X.K fd ps [] ∧ FnOk X.prog X.w X.K X.mg X.base (L2.CX X.prog X.w) k f fd ps (spT X.K q np (fitC (cn.map fun x => (x, nm))) sem) ∧
    match cn with
    | none => X.mg nm = some (.ref f)
    | some cl => q = 0 ∧ ∀ C, ClsAt X.K cl C → L2.Cls X.K C ∧ L2.Meth X.K C nm f
structure MakeT (X : Cx) (nm : Str) (np : Nat) (sem : List (List Stp) → OT → List PyData → Option (RV × OT)) : Prop where
  ex : ∃ (k : Nat) (C f : Addr) (fd : FuncData) (ps : List Str), Room (k + 1) X.A ∧ X.mg nm = some (.ref C) ∧ ClsAt X.K nm C ∧ L2.Mk X.K C f ∧ Binds X.K fd ps [] ∧ FnOk X.prog X.w X.K X.mg X.base (L2.CX X.prog X.w) k f fd ps (spT X.K 0 np (fitC (some (nm, ("__init__" : Str)))) sem)
structure CalleeR (X : Cx) (nm : Str) (np : Nat) (sem : List PyData → Option OT) : Prop where
  ex : ∃ (CX : CXT) (k : Nat) (f : Addr) (fd : FuncData) (ps : List Str), Room k X.A ∧ X.mg nm = some (.ref f) ∧ PySem.W.keepIn X.K (.ref f) = true ∧ Binds X.K fd ps [] ∧
    FnOk X.prog X.w X.K X.mg X.base CX k f fd ps (fun vs H Q _ => ∃ F ds t, Same F H ∧ RpAll X.K F vs ds ∧ ds.length = np ∧ sem ds = some t ∧ ∀ v F' H' qs, Ext F H F' H' → Tr X.K F' H' v t qs → qs.Nodup → (∀ b ∈ qs, H b = none) → Q v H') ∧
    ∀ outer H s e s', CX outer H s E0 e s' → False
structure CalleeI (X : Cx) (cl m : Str) (sem : List PyData → Option RV) : Prop where
  ex : ∃ (CX : CXT) (k : Nat) (f : Addr) (fd : FuncData) (ps : List Str) (np : Nat), Room k X.A ∧ PySem.W.keepIn X.K (.ref f) = true ∧ Binds X.K fd ps [] ∧ (∀ C, ClsAt X.K cl C → L2.Cls X.K C ∧ L2.Meth X.K C m f) ∧ (∀ ds r, sem ds = some r → ds.length = np) ∧
    FnOk X.prog X.w X.K X.mg X.base CX k f fd ps (fun vs H Q _ => ∃ F ds r, Same F H ∧ RpAll X.K F vs ds ∧ ds.length = np ∧ sem ds = some r ∧ ∀ v F' H', Ext F H F' H' → View X.K F' H' v r → New r v H H' → Q v H') ∧
    ∀ outer H s e s', CX outer H s E0 e s' → False
structure CalleeN (X : Cx) (nm : Str) (np : Nat) (sem : List PyData → Option RV) : Prop where
  ex : ∃ (k : Nat) (f : Addr) (fd : FuncData) (ps : List Str), Room k X.A ∧ X.mg nm = some (.ref f) ∧ PySem.W.keepIn X.K (.ref f) = true ∧ Binds X.K fd ps [] ∧
    FnOk X.prog X.w X.K X.mg X.base (L2N.CX X.prog X.w) k f fd ps (fun vs H Q E => ∃ F ds r, Same F H ∧ RpAll X.K F vs ds ∧ ds.length = np ∧ sem ds = some r ∧ (∀ v F' H', Ext F H F' H' → View X.K F' H' v r → New r v H H' → Q v H') ∧
      ∀ d, r = .xr d → ∀ F' H' cv dd, Ext F H F' H' → Xat X.K F' cv dd d → E cv dd H')
structure IsJ (K : PySem.W.Frag) (C E : Addr) (b : Bool) : Prop where
  cl : L2.Cls K C
  ha : PySem.W.findIn K (.ref C) "__class__" = some (some (.builtin "object.__class__"))
  hn : PySem.W.specialIn K (.builtin "object.__class__") "__get__" = some (some (.builtin "getset_descriptor.__get__"))
  htk : PySem.W.takesIn K (.builtin "object.__class__") = some true
  hm : PySem.W.mroIn K C (.type "object") = some true
  one : PySem.W.kitOne K (.ref C) (.ref E) = some b
structure CO (X : Cx) (s : Sx) (c : Cl) : Prop where
  sc : X.env.scope = s.sc
  N : X.N = s.N
  nd : X.N.Nodup
  fn : X.fn = s.fn
  calm : X.calm = true
  un : X.A.units + 200 < cLine
  bn : ∀ x ∈ bnames, X.mg x = none
  fns : ∀ f x, s.fns[f]? = some x → ∃ np, (∀ ds r, c.call f ds = some r → ds.length = np) ∧ Callee X x np (c.call f)
  gls : ∀ g x d, s.gls[g]? = some x → c.glb g = some d → ∃ u v, X.mg x = some u ∧ RelV v u ∧ ∀ F, Rp X.K F v d
  xfn : ∀ f x, s.xns[f]? = some x → ∃ np, (∀ ds r, c.callx f ds = some r → ds.length = np) ∧ CalleeX X x np (c.callx f)
  xc : XcOk X.K X.mg c.rzs c.cls c.fls c.m0s
  x1 : ∀ nm f, c.m1s.lookup nm = some f → X1 X.prog X.w X.K X.mg X.base nm f ∧ Room 2 X.A
  gd : GdAt X.K X.mg X.w c.gds
  /-- classes and their fields -/
  ofs : ∀ nm f, (nm, f) ∈ c.ofs → ∀ C, ClsAt X.K nm C → L2.Cls X.K C ∧ L2.NoAttr X.K C f
  tfn : ∀ f cn x q, s.tns[f]? = some (cn, x, q) → c.tcs f = (cn.map fun y => (y, x)) ∧ ∃ np, (∀ pw t ds z, c.callt f pw t ds = some z → ds.length + 1 = np) ∧ CalleeT X cn x q np (c.callt f)
  mkc : ∀ f x, (f, x) ∈ s.cns → c.tcs f = some (x, ("__init__" : Str)) ∧ ∃ np, (∀ pw t ds z, c.callt f pw t ds = some z → ds.length + 1 = np) ∧ MakeT X x np (c.callt f)
  rfn : ∀ f x, s.rns[f]? = some x → ∃ np, (∀ ds t, c.callr f ds = some t → ds.length = np) ∧ CalleeR X x np (c.callr f)
  /-- defs that a clause may call -/
  al : ∀ g d, c.als.lookup g = some d → AlOk X.prog X.w X.K X.mg X.base g d ∧ L2H.RoomH 1 X.A
  im : ∀ cl m sm, c.ims.lookup (cl, m) = some sm → CalleeI X cl m sm
  ja : ∀ nm D b, c.jas.lookup (nm, D) = some b → ∃ E, X.mg D = some (.ref E) ∧ ∀ C, ClsAt X.K nm C → IsJ X.K C E b
  en : ∀ g sm, c.ens.lookup g = some sm → ∃ np, (∀ ds r, sm ds = some r → ds.length = np) ∧ CalleeN X g np sm
  hm : ∀ nm f, c.hms.lookup nm = some f → X1H X.prog X.w X.K X.mg X.base nm f ∧ L2H.RoomH 2 X.A
structure TrOk (K : PySem.W.Frag) (F H : Hp) (env : Ev) (σ : L2.St) : Prop where
  tr : ∀ (i : Nat) pw t, env[i]? = some (some (.tr pw t)) → ∃ v ps, σ[i]? = some (some v) ∧ Tr K F H v t ps ∧ ps.Nodup
  al : ∀ (j i : Nat) w pw t, env[j]? = some (some (.al i w)) → env[i]? = some (some (.tr pw t)) → ∃ v x u, σ[i]? = some (some v) ∧ σ[j]? = some (some x) ∧ t.sub w = some u ∧ u.isNd = true ∧ walkH H v w = some x
def Keeps (env env' : Ev) (σ σ' : L2.St) : Prop := ∀ (i : Nat) r, env'[i]? = some (some r) → r.pl = false → env[i]? = some (some r) ∧ σ'[i]? = σ[i]?
structure EnvOk (K : PySem.W.Frag) (F H : Hp) (env : Ev) (σ : L2.St) : Prop where
  sub : Same F H
  len : env.length = σ.length
  at_ : ∀ (i : Nat) r, env[i]? = some (some r) → r.pl = true → ∃ v, σ[i]? = some (some v) ∧ View K F H v r
  tr_ : TrOk K F H env σ
theorem TrOk.keeps {K : PySem.W.Frag} {F H : Hp} {env env' : Ev} {σ σ' : L2.St} (ok : TrOk K F H env σ) (k : Keeps env env' σ σ') : TrOk K F H env' σ' where
  tr := fun i pw t h => by
    obtain ⟨h1, h2⟩ := k i _ h rfl
    rw [h2]
    exact ok.tr i pw t h1
  al := fun j i w pw t h h' => by
    obtain ⟨h1, h2⟩ := k j _ h rfl
    obtain ⟨h3, h4⟩ := k i _ h' rfl
    rw [h2, h4]
    exact ok.al j i w pw t h1 h3
theorem Keeps.refl (env : Ev) (σ : L2.St) : Keeps env env σ σ := fun i r h _ => ⟨h, rfl⟩
theorem Keeps.trans {env env' env2 : Ev} {σ σ' σ2 : L2.St} (a : Keeps env env' σ σ') (b : Keeps env' env2 σ' σ2) : Keeps env env2 σ σ2 := fun i r h p => by
  obtain ⟨h1, h2⟩ := b i r h p
  obtain ⟨h3, h4⟩ := a i r h1 p
  exact ⟨h3, h2.trans h4⟩
theorem Keeps.set {env : Ev} {σ : L2.St} {i : Nat} {r : Option RV} {v : Option V} (h : ∀ q, r = some q → q.pl = true) : Keeps env (env.set i r) σ (σ.set i v) := fun j q hj p => by
  by_cases e : i = j
  · subst e
    by_cases hi : i < env.length
    · rw [List.getElem?_set_self hi] at hj
      cases hj
      rw [h q rfl] at p
      cases p
    · rw [List.getElem?_eq_none (by simpa using hi)] at hj; cases hj
  · rw [List.getElem?_set_ne e] at hj ⊢
    exact ⟨hj, rfl⟩
theorem Keeps.set0 {env : Ev} {σ : L2.St} {i : Nat} {r : Option RV} (h : ∀ q, r = some q → q.pl = true) : Keeps env (env.set i r) σ σ := fun j q hj p => by
  by_cases e : i = j
  · subst e
    by_cases hi : i < env.length
    · rw [List.getElem?_set_self hi] at hj
      cases hj
      rw [h q rfl] at p
      cases p
    · rw [List.getElem?_eq_none (by simpa using hi)] at hj; cases hj
  · rw [List.getElem?_set_ne e] at hj
    exact ⟨hj, rfl⟩
theorem stepH_mono {H H' : Hp} (e : Same H H') {v x : V} {s : Stp} (h : stepH H v s = some x) : stepH H' v s = some x := by
  cases v with
  | ref p =>
    cases s with
    | ix k =>
      have h : (match H p with | some (.lst vs) => vs[k]? | some (.frz _ (.tup vs)) => vs[k]? | _ => none) = some x := h
      show (match H' p with | some (.lst vs) => vs[k]? | some (.frz _ (.tup vs)) => vs[k]? | _ => none) = some x
      cases q : H p with
      | none => rw [q] at h; cases h
      | some o => rw [q] at h; rw [e _ _ q]; exact h
    | fl f =>
      have h : (match H p with | some (.ins _ _ fs) => fs.lookup f | _ => none) = some x := h
      show (match H' p with | some (.ins _ _ fs) => fs.lookup f | _ => none) = some x
      cases q : H p with
      | none => rw [q] at h; cases h
      | some o => rw [q] at h; rw [e _ _ q]; exact h
  | _ => cases s <;> cases h
theorem walkH_mono {H H' : Hp} (e : Same H H') : ∀ {w : List Stp} {v x : V}, walkH H v w = some x → walkH H' v w = some x
  | [], v, x, h => h
  | s :: r, v, x, h => by
    obtain ⟨y, h1, h2⟩ := Option.bind_eq_some_iff.mp (show (stepH H v s).bind _ = some x from h)
    show (stepH H' v s).bind _ = some x
    rw [stepH_mono e h1]
    exact walkH_mono e h2
theorem TrOk.ext {K : PySem.W.Frag} {F H F' H' : Hp} {env : Ev} {σ : L2.St} (ok : TrOk K F H env σ) (x : Ext F H F' H') : TrOk K F' H' env σ where
  tr := fun i pw t h => by
    obtain ⟨v, ps, h1, h2, h3⟩ := ok.tr i pw t h
    exact ⟨v, ps, h1, h2.ext x, h3⟩
  al := fun j i w pw t h h' => by
    obtain ⟨v, y, u, h1, h2, h3, h4, h5⟩ := ok.al j i w pw t h h'
    exact ⟨v, y, u, h1, h2, h3, h4, walkH_mono x.same h5⟩
theorem EnvOk.ext {K : PySem.W.Frag} {F H F' H' : Hp} {env : Ev} {σ : L2.St} (ok : EnvOk K F H env σ) (x : Ext F H F' H') : EnvOk K F' H' env σ :=
  ⟨x.sub, ok.len, fun i r h hp => let ⟨v, h1, h2⟩ := ok.at_ i r h hp; ⟨v, h1, h2.ext x⟩, ok.tr_.ext x⟩
def tE (K : PySem.W.Frag) (c : Cl) (e : Ex) : TE := fun σ H Q => ∃ F env r, EnvOk K F H env σ ∧ ev c env e = some r ∧ ∀ v F' H', Ext F H F' H' → View K F' H' v r → (isVar e = false → New r v H H') → Q v H'
def tT (K : PySem.W.Frag) (c : Cl) (e : Ex) : TT := fun σ H Q => ∃ F env b, EnvOk K F H env σ ∧ ev c env e = some (.fz (.bool b)) ∧ ∀ F' H', Ext F H F' H' → Q b H'
def tA (K : PySem.W.Frag) (c : Cl) (es : Exs) : TA := fun σ H Q => ∃ F env rs, EnvOk K F H env σ ∧ evr c env es = some rs ∧ ∀ vs F' H', Ext F H F' H' → Views K F' H' vs rs → Q vs H'
section
variable {X : Cx} {s : Sx} {c : Cl}
theorem CO.glo (C : CO X s c) {x : Str} (h : s.glo x = true) : Gl X x := by
  show X.env.scope.names.lookup x = some .globalImplicit
  rw [C.sc]
  exact of_decide_eq_true h
theorem CO.vis (C : CO X s c) {x : Str} (h : s.vis x = true) : Vis X.env.scope x := by
  unfold Vis
  rw [C.sc]
  unfold Sx.vis at h
  split at h <;> first | (cases h; done) | simp [*]
theorem okN1 {x : Str} (h : okN x = true) : (x == ("__debug__" : Str)) = false ∧ (x == ("__classdict__" : Str)) = false := by
  simp only [okN, Bool.and_eq_true, Bool.not_eq_true'] at h
  exact h
theorem CO.blk (C : CO X s c) {s1 : Shared} {H : Hp} {scope : Scope} {cl : List (Str × Addr)} {a : Addr} {fp : List Addr} : CO (X.blk s1 H scope (compEnvC scope cl a X.env) fp) (s.blk scope) c where
  sc := by
    show relabel scope X.env = relS scope s.sc
    rw [← C.sc]
    rfl
  N := C.N
  nd := C.nd
  fn := rfl
  calm := C.calm
  un := C.un
  bn := C.bn
  fns := fun f x h => by
    obtain ⟨np, h1, h2⟩ := C.fns f x h
    exact ⟨np, h1, ⟨h2.ex⟩⟩
  gls := C.gls
  xfn := fun f x h => by
    obtain ⟨np, h1, h2⟩ := C.xfn f x h
    exact ⟨np, h1, ⟨h2.ex⟩⟩
  xc := C.xc
  x1 := C.x1
  gd := C.gd
  ofs := C.ofs
  al := C.al
  im := fun cl m sm h => ⟨(C.im cl m sm h).ex⟩
  ja := C.ja
  en := fun g sm h => by
    obtain ⟨np, h1, h2⟩ := C.en g sm h
    exact ⟨np, h1, ⟨h2.ex⟩⟩
  hm := C.hm
  tfn := fun f cn x q h => by
    obtain ⟨h0, np, h1, h2⟩ := C.tfn f cn x q h
    exact ⟨h0, np, h1, ⟨h2.ex⟩⟩
  mkc := fun f x h => by
    obtain ⟨h0, np, h1, h2⟩ := C.mkc f x h
    exact ⟨h0, np, h1, ⟨h2.ex⟩⟩
  rfn := fun f x h => by
    obtain ⟨np, h1, h2⟩ := C.rfn f x h
    exact ⟨np, h1, ⟨h2.ex⟩⟩
end
end Mn
namespace Mn
open PySem PySem.Spec PyProof.Rows L2
def tAs (K : PySem.W.Frag) (c : Cl) (es : Exs) : TA := fun σ H Q => ∃ F env ds, EnvOk K F H env σ ∧ evs c env es = some ds ∧ ∀ vs F' H', Ext F H F' H' → RpAll K F' vs ds → Q vs H'
def tAb (K : PySem.W.Frag) (c : Cl) (es : Exs) : TA := fun σ H Q => ∃ F env ds b, EnvOk K F H env σ ∧ evb c env es = some (ds, b) ∧ ∀ vs F' H', Ext F H F' H' → (∃ F1, Same F' F1 ∧ Same F1 H' ∧ (tpE env es = false → NoTu F' F1) ∧ RpAll K F1 vs ds) → (b = false → RpAll K F' vs ds) → Q vs H'
def WalkD (K : PySem.W.Frag) (F Fg : Hp) (J : It) (items : List PyData) : Prop :=
  ∀ H2 F2, Same Fg H2 → Same F F2 → Same F2 H2 → J.stop items.length H2 ∧ ∀ (i : Nat) d, items[i]? = some d → J.go i H2 ∧ ∀ x H3, J.yld i H2 x H3 → ∃ F3, Ext F2 H2 F3 H3 ∧ Rp K F3 x d
def tI (K : PySem.W.Frag) (c : Cl) (it : Itr) : TI := fun σ H R => ∃ F env items, EnvOk K F H env σ ∧ evi c env it = some items ∧ ∀ J F' H', Ext F H F' H' → WalkD K F' H' J items → (borI c env it = false → ∃ F2, Ext F H F2 H' ∧ WalkD K F2 F2 J items) → R J H'
theorem own_rp {K : PySem.W.Frag} {F H F1 H1 : Hp} {e : Ex} {r : RV} {d : PyData} {v : V} (h : ownD e r = some d) (x : Ext F H F1 H1) (w : View K F1 H1 v r) (n : isVar e = false → New r v H H1) : d = r.d ∧ ∃ F2, Ext F H F2 H1 ∧ Rp K F2 v d := by
  unfold ownD at h
  split at h
  · cases h
  · rename_i hb
    cases h
    refine ⟨rfl, ?_⟩
    by_cases hv : isVar e = true
    · rw [hv, Bool.true_and] at hb
      cases w with
      | fz q => exact ⟨F1, x, q⟩
      | own f h2 q => exact absurd q.isOwn hb
    · exact w.freeze x (n (by simpa using hv))
theorem asInt_eq {r : RV} {i : Int} (h : asInt r = some i) : r = .fz (.int i) := by
  unfold asInt at h
  split at h
  · cases h; rfl
  · cases h
theorem asBool_eq {r : RV} {i : Bool} (h : asBool r = some i) : r = .fz (.bool i) := by
  unfold asBool at h
  split at h
  · cases h; rfl
  · cases h
theorem cmpIs {o : Co} {op : CmpOp} (h : coIs o op = true) : op = coO o := by cases o <;> cases op <;> first | rfl | cases h
theorem boEq {o : Bo} {op : Operator} (h : boIs o op = true) : op = boO o := by cases o <;> cases op <;> first | rfl | cases h
def plainT : Expr → Bool
  | .UnaryOp .Not _ _ => false
  | .BoolOp _ _ _ => false
  | .IfExp _ _ _ _ => false
  | .Compare _ _ _ _ => false
  | _ => true
theorem true_of {e : Expr} (h : plainT e = true) (env : Env) : ∀ whole, isTrue e env whole = (do let v ← whole; standAt e.pos; holding [v] (truthy v)) := by
  intro whole
  cases e with
  | UnaryOp op x pos => cases op <;> first | (cases h; done) | rfl
  | BoolOp _ _ _ => cases h
  | IfExp _ _ _ _ => cases h
  | Compare _ _ _ _ => cases h
  | _ => rfl
theorem biB (b : Bi) (h : isIsI b = false) : (∃ id, biV b = .builtin id ∧ bootBuiltins (biN b) = some (.builtin id)) ∨ ∃ T, biV b = .type T ∧ bootBuiltins (biN b) = some (.type T) := by
  cases b with
  | isI t => cases h
  | len => exact .inl ⟨_, rfl, by decide +kernel⟩
  | sum => exact .inl ⟨_, rfl, by decide +kernel⟩
  | min2 => exact .inl ⟨_, rfl, by decide +kernel⟩
  | max2 => exact .inl ⟨_, rfl, by decide +kernel⟩
  | minL => exact .inl ⟨_, rfl, by decide +kernel⟩
  | maxL => exact .inl ⟨_, rfl, by decide +kernel⟩
  | any => exact .inl ⟨_, rfl, by decide +kernel⟩
  | all => exact .inl ⟨_, rfl, by decide +kernel⟩
  | int => exact .inr ⟨_, rfl, by decide +kernel⟩
  | str => exact .inr ⟨_, rfl, by decide +kernel⟩
  | tup => exact .inr ⟨_, rfl, by decide +kernel⟩
  | list => exact .inr ⟨_, rfl, by decide +kernel⟩
  | sorted => exact .inl ⟨_, rfl, by decide +kernel⟩
theorem bi_mem (b : Bi) : biN b ∈ bnames := by cases b <;> first | decide +kernel | exact (by decide +kernel : ("isinstance" : Str) ∈ bnames)
theorem biN_ok (b : Bi) : biN b ≠ "__name__" ∧ (biN b == ("__debug__" : Str)) = false := by cases b <;> first | decide +kernel | exact (by decide +kernel : ("isinstance" : Str) ≠ "__name__" ∧ (("isinstance" : Str) == ("__debug__" : Str)) = false)
theorem ty_mem (t : Ty) : tyS t ∈ bnames := by cases t <;> decide +kernel
theorem ty_boot (t : Ty) : bootBuiltins (tyS t) = some (.type (tyN t)) := by cases t <;> decide +kernel
theorem tyS_ok (t : Ty) : tyS t ≠ "__name__" ∧ (tyS t == ("__debug__" : Str)) = false := by cases t <;> decide +kernel
theorem callD_eq {r : Option RV} {b tp : Bool} {v : RV} (h : callD r b tp = some v) : r = some v ∧ (b = true → ∃ d, v = .fz d ∧ flatD d = true ∧ (tp = false ∨ scalD d = true)) := by
  unfold callD at h
  obtain ⟨w, rfl, h2⟩ := bnd h
  cases b with
  | false => cases h2; exact ⟨rfl, fun e => by cases e⟩
  | true =>
    rw [if_pos rfl] at h2
    split at h2
    · obtain ⟨h1, rfl⟩ := itd h2
      simp only [Bool.and_eq_true, Bool.or_eq_true, Bool.not_eq_true'] at h1
      exact ⟨rfl, fun _ => ⟨_, rfl, h1.1, h1.2⟩⟩
    · cases h2
theorem scal_back {K : PySem.W.Frag} {F H F' H' F1 F2 H2 : Hp} {v : V} {d : PyData} (x : Ext F H F' H') (s1 : Same F' F1) (y : Ext F1 H' F2 H2) (r : Rp K F2 v d) (e : scalD d = true) : ∃ F3, Ext F H F3 H2 ∧ Rp K F3 v d := by
  classical
  let F3 : Hp := fun b => if F' b ≠ none ∨ H' b = none then F2 b else none
  have g : ∀ b, (F' b ≠ none ∨ H' b = none) → F3 b = F2 b := fun b h => if_pos h
  have k : ∀ b o, F3 b = some o → (F' b ≠ none ∨ H' b = none) ∧ F2 b = some o := fun b o h => by
    by_cases q : F' b ≠ none ∨ H' b = none
    · exact ⟨q, by rw [← g b q]; exact h⟩
    · have : F3 b = none := if_neg q
      rw [this] at h; cases h
  refine ⟨F3, ⟨fun b o h => ?_, fun b o h => y.sub _ _ (k b o h).2, x.same.trans y.same, fun b o h => ?_⟩, ?_⟩
  · have h1 := x.fr _ _ h
    rw [g b (.inl (by rw [h1]; exact fun z => nomatch z))]
    exact y.fr _ _ (s1 _ _ h1)
  · obtain ⟨q, h2⟩ := k b o h
    rcases q with q | q
    · cases e1 : F' b with
      | none => exact absurd e1 q
      | some u =>
        have := y.fr _ _ (s1 _ _ e1)
        rw [h2] at this
        cases this
        exact x.new _ _ e1
    · exact .inr (x.same.free q)
  · cases r <;> first | (cases e; done) | constructor
section
variable {X : Cx} {s : Sx} {c : Cl}
theorem EnvOk.set {K : PySem.W.Frag} {F H : Hp} {env : Ev} {σ : L2.St} (ok : EnvOk K F H env σ) {i : Nat} {v : V} {r : RV} (hi : i < env.length) (w : View K F H v r) : EnvOk K F H (env.set i (some r)) (σ.set i (some v)) := by
  refine ⟨ok.sub, by rw [List.length_set, List.length_set]; exact ok.len, fun j r' h hp => ?_, ok.tr_.keeps (Keeps.set fun q e => by cases e; exact w.pl)⟩
  by_cases e : i = j
  · subst e
    rw [List.getElem?_set_self hi] at h
    cases h
    exact ⟨v, List.getElem?_set_self (by rw [← ok.len]; exact hi), w⟩
  · rw [List.getElem?_set_ne e] at h
    obtain ⟨u, h1, h2⟩ := ok.at_ j r' h hp
    exact ⟨u, by rw [List.getElem?_set_ne e]; exact h1, h2⟩
def OwnAt (H : Hp) (env : Ev) (σ : L2.St) (i : Nat) (p : Addr) : Prop := ∃ r v, env[i]? = some (some r) ∧ σ[i]? = some (some v) ∧ Foot H r v p
theorem ownAt_fz {H : Hp} {env : Ev} {σ : L2.St} {i : Nat} {d : PyData} {v : V} {j : Nat} {p : Addr} (h : OwnAt H (env.set i (some (.fz d))) (σ.set i (some v)) j p) : OwnAt H env σ j p := by
  obtain ⟨r, u, h1, h2, h3⟩ := h
  by_cases e : i = j
  · subst e
    by_cases hi : i < env.length
    · rw [List.getElem?_set_self hi] at h1
      cases h1
      exact h3.elim
    · rw [List.getElem?_eq_none (by simpa using hi)] at h1; cases h1
  · rw [List.getElem?_set_ne e] at h1 h2
    exact ⟨r, u, h1, h2, h3⟩
theorem EnvOk.wipe {K : PySem.W.Frag} {F H : Hp} {env : Ev} {σ : L2.St} (ok : EnvOk K F H env σ) : ∀ own : List Nat, EnvOk K F H (wipeE env own) (wipe σ own)
  | [] => ok
  | i :: is => by
    have q := EnvOk.wipe ok is
    refine ⟨q.sub, by unfold wipeE L2.wipe; rw [List.length_set, List.length_set]; exact q.len, fun j r' h hp => ?_, q.tr_.keeps (Keeps.set fun q e => nomatch e)⟩
    unfold wipeE at h
    unfold L2.wipe
    by_cases e : i = j
    · subst e
      by_cases hi : i < (wipeE env is).length
      · rw [List.getElem?_set_self hi] at h; cases h
      · rw [List.getElem?_eq_none (by simpa using hi)] at h; cases h
    · rw [List.getElem?_set_ne e] at h ⊢
      exact q.at_ j r' h hp
def gS (K : PySem.W.Frag) (tg : Tg) : TG := fun v σ H Q => ∃ F env d env', EnvOk K F H env σ ∧ Rp K F v d ∧ bindT tg env d = some env' ∧ ∀ σ', (∀ own, tgIn tg own = true → wipe σ' own = wipe σ own) → EnvOk K F H env' σ' → (∀ j p, OwnAt H env' σ' j p → OwnAt H env σ j p) → Keeps env env' σ σ' → Q σ' H
theorem PG.imp {e : Expr} {t t' : TG} (h : PG X e t) (f : ∀ v σ H Q, t' v σ H Q → t v σ H Q) : PG X e t' := ⟨fun pins s σ H v u Q I r q => h.run pins s σ H v u Q I r (f v σ H Q q)⟩
theorem CO.locv (C : CO X s c) {x : Str} (h : s.loc x = true) : L2.Loc X.env.scope x ∧ (X.fn x = true ∨ X.env.scope.names.lookup x = some .local) := by
  unfold L2.Loc
  rw [C.sc, C.fn]
  unfold Sx.loc at h
  split at h
  · exact ⟨.inl (by assumption), .inr (by assumption)⟩
  · exact ⟨.inr (by assumption), .inl h⟩
  · cases h
theorem wipe_set {i : Nat} {v : Option V} : ∀ {own : List Nat} {σ : L2.St}, own.contains i = true → wipe (σ.set i v) own = wipe σ own
  | [], σ, h => by simp at h
  | j :: r, σ, h => by
    unfold L2.wipe
    by_cases e : i = j
    · subst e
      by_cases hr : r.contains i = true
      · rw [wipe_set hr]
      · have q : wipe (σ.set i v) r = (wipe σ r).set i v := by
          clear h
          induction r with
          | nil => rfl
          | cons k r ih =>
            simp only [List.contains_cons, Bool.or_eq_true, beq_iff_eq, not_or] at hr
            unfold L2.wipe
            rw [ih (by simpa using hr.2), List.set_comm _ _ hr.1]
        rw [q, List.set_set]
    · have hr : r.contains i = true := by
        simp only [List.contains_cons, Bool.or_eq_true, beq_iff_eq] at h
        exact h.resolve_left e
      rw [wipe_set hr]
def gNs (K : PySem.W.Frag) (is : List Nat) : TGs := fun vs σ H Q => ∃ F env ds, EnvOk K F H env σ ∧ RpAll K F vs ds ∧ ds.length = is.length ∧ ∀ σ', (∀ own : List Nat, is.all own.contains = true → wipe σ' own = wipe σ own) → EnvOk K F H (setAll env is ds) σ' → (∀ j p, OwnAt H (setAll env is ds) σ' j p → OwnAt H env σ j p) → Keeps env (setAll env is ds) σ σ' → Q σ' H
theorem pgs_ns (C : CO X s c) : ∀ {is : List Nat} {es : List Expr}, chkNs s is es = true → PGs X es (gNs X.K is) ∧ (assignEach es X.env).length = is.length ∧ (assignEach es X.env).findIdx? (·.1) = none
  | [], [], _ => by
    refine ⟨⟨fun pins s' σ H vs us Q I rv h => ?_⟩, rfl, rfl⟩
    obtain ⟨F, env, ds, ok, rp, hl, k⟩ := h
    cases ds with
    | cons _ _ => simp at hl
    | nil =>
      cases rp
      exact pgs_nil.run pins s' σ H _ us Q I rv ⟨rfl, k σ (fun _ _ => rfl) (by simpa [setAll] using ok) (fun j p h => by simpa [setAll] using h) (by simpa [setAll] using Keeps.refl env σ)⟩
  | [], _ :: _, h => by simp [chkNs] at h
  | _ :: _, [], h => by simp [chkNs] at h
  | i :: is, e :: es, h => by
    cases e with
    | Name x pos =>
      simp only [chkNs, Bool.and_eq_true, decide_eq_true_eq] at h
      obtain ⟨⟨h1, h2⟩, h3⟩ := h
      obtain ⟨q1, q2, q3⟩ := pgs_ns C h3
      obtain ⟨l1, l2⟩ := C.locv h2
      have hi : X.N[i]? = some x := by rw [C.N]; exact h1
      have base := pgs_cons (es := es) (pg_name (pos := pos) C.nd hi l1 l2) q1 (by rfl)
      refine ⟨⟨fun pins s' σ H vs us Q I rv h => ?_⟩, by show (assignEach es X.env).length + 1 = is.length + 1; rw [q2], ?_⟩
      · obtain ⟨F, env, ds, ok, rp, hl, k⟩ := h
        cases rp with
        | nil => simp at hl
        | cons r t =>
          rename_i v vs d ds
          refine base.run pins s' σ H _ us Q I rv ⟨_, _, rfl, ?_⟩
          have hlt : i < env.length := by
            rw [ok.len, I.len]
            exact (List.getElem?_eq_some_iff.mp hi).1
          refine ⟨F, _, ds, ok.set hlt (.fz r), t, by simpa using hl, fun σ' hw ok' ho' kp => k σ' (fun own ho => ?_) ok' (fun j p h => ownAt_fz (ho' j p h)) ((Keeps.set fun q e => by cases e; rfl).trans kp)⟩
          rw [List.all_cons, Bool.and_eq_true] at ho
          rw [hw own ho.2, wipe_set ho.1]
      · show List.findIdx? _ ((false, assign (.Name x pos) X.env) :: assignEach es X.env) = none
        rw [List.findIdx?_cons, if_neg (by simp), q3]
        rfl
    | _ => simp [chkNs] at h
theorem pg_tg (C : CO X s c) {tg : Tg} {e : Expr} (h : chkTg s tg e = true) : PG X e (gS X.K tg) := by
  cases tg with
  | nm i =>
    cases e with
    | Name x pos =>
      simp only [chkTg, Bool.and_eq_true, decide_eq_true_eq] at h
      obtain ⟨l1, l2⟩ := C.locv h.2
      have hi : X.N[i]? = some x := by rw [C.N]; exact h.1
      refine ⟨fun pins s' σ H v u Q I rv q => ?_⟩
      obtain ⟨F, env, d, env', ok, rp, hb, k⟩ := q
      cases hb
      have hlt : i < env.length := by
        rw [ok.len, I.len]
        exact (List.getElem?_eq_some_iff.mp hi).1
      exact (pg_name (pos := pos) C.nd hi l1 l2).run pins s' σ H v u Q I rv (k _ (fun own ho => wipe_set ho) (ok.set hlt (.fz rp)) (fun j p h => ownAt_fz h) (Keeps.set fun q e => by cases e; rfl))
    | _ => simp [chkTg] at h
  | tp is =>
    cases e with
    | Tuple es kk pos =>
      have h : chkNs s is es = true := h
      obtain ⟨q1, q2, q3⟩ := pgs_ns C h
      refine ⟨fun pins s' σ H v u Q I rv q => ?_⟩
      obtain ⟨F, env, d, env', ok, rp, hb, k⟩ := q
      cases rp with
      | tup ta ra =>
        obtain ⟨hl, rfl⟩ := itd (show (if _ then some (setAll env is _) else none) = some env' from hb)
        exact (pg_tup C.calm q1 rfl q3).run pins s' σ H _ u Q I rv ⟨_, _, rfl, Same.sqT ok.sub ta.sqT, by rw [q2, ra.length, hl], F, env, _, ok, ra, hl, fun σ' hw ok' ho => k σ' hw ok' ho⟩
      | lst ta ra =>
        obtain ⟨hl, rfl⟩ := itd (show (if _ then some (setAll env is _) else none) = some env' from hb)
        exact (pg_lst C.calm q1 rfl q3).run pins s' σ H _ u Q I rv ⟨_, _, rfl, SqL.of (ok.sub _ _ ta), by rw [q2, ra.length, hl], F, env, _, ok, ra, hl, fun σ' hw ok' ho => k σ' hw ok' ho⟩
      | _ => cases hb
    | _ => simp [chkTg] at h
end
end Mn
namespace Mn
open PySem PySem.Spec PyProof.Rows L2
def Sq (K : PySem.W.Frag) (k : Bool) (H : Hp) (a : Addr) (xs : List V) : Prop := match k with
  | true => SqL K H a xs
  | false => SqT K H a xs
def IsIt (h : Heap) (k : Bool) (it a : Addr) (i : Nat) : Prop := match k with
  | true => h.IsListIter it a i
  | false => h.IsTupleIter it a i
def IsSq (h : Heap) (k : Bool) (a : Addr) (its : Array Value) : Prop := match k with
  | true => h.IsList a its
  | false => h.IsTuple a its
def itObj (k : Bool) (a : Addr) : Obj := match k with
  | true => { cls := .type "list_iterator", data := .fields #[.ref a, .int 0 0] }
  | false => { cls := .type "tuple_iterator", data := .fields #[.ref a, .int 0 0] }
theorem begins (k : Bool) (a : Addr) (its : Array Value) : Begins (.ref a) (itObj k a) (fun h => IsSq h k a its) := by
  cases k
  · exact begins_tuple a its
  · exact begins_list a its
theorem isIt0 {h : Heap} {k : Bool} {it a : Addr} (e : h.get? it = some (itObj k a)) : IsIt h k it a 0 := by
  cases k
  · exact ⟨_, e, rfl, rfl⟩
  · exact ⟨_, e, rfl, rfl⟩
theorem IsIt.obj {h : Heap} {k : Bool} {it a : Addr} {i : Nat} (x : IsIt h k it a i) : ∃ o, h.get? it = some o ∧ ∀ v, o.data ≠ .cell v := by
  cases k
  · obtain ⟨o, e, _, d⟩ := x
    exact ⟨o, e, fun v q => by rw [d] at q; cases q⟩
  · obtain ⟨o, e, _, d⟩ := x
    exact ⟨o, e, fun v q => by rw [d] at q; cases q⟩
theorem IsIt.at_ {h h' : Heap} {k : Bool} {it a : Addr} {i : Nat} (x : IsIt h k it a i) (q : ∀ o, h.get? it = some o → h'.get? it = some o) : IsIt h' k it a i := by
  cases k
  · exact Heap.IsTupleIter.at x q
  · exact Heap.IsListIter.at x q
theorem draws {prog : Program} {w : World} {A : Around} (hh : A.handled = none) (k : Bool) (it a : Addr) (hne : a ≠ it) (its : Array Value) :
    Draws prog w A it [it, a] its.size (fun i v => its[i]? = some v) (fun i h => IsIt h k it a i ∧ IsSq h k a its) := by
  cases k
  · exact Draws.tuple hh it a hne its
  · exact Draws.list hh it a hne its
section
variable {X : Cx} {pins : List (Addr × Obj)} {σ : L2.St} {H : Hp} {s : Shared} {a : Addr} {xs ys : List V} {k : Bool}
theorem sq_is (I : Inv X pins σ H s) (h : Sq X.K k H a xs) : ∃ its : List Value, Vals xs its ∧ IsSq s.heap k a its.toArray ∧ a < s.heap.objs.size := by
  cases k
  · obtain ⟨its, r, p, _⟩ := I.tuple h
    obtain ⟨o, e, _⟩ := id p
    exact ⟨its, r, p, Heap.lt_size e⟩
  · obtain ⟨its, r, p, _⟩ := I.list h
    exact ⟨its, r, p.isList, p.lt⟩
theorem sq_inj (I : Inv X pins σ H s) (h : Sq X.K k H a xs) (h' : Sq X.K k H a ys) : xs = ys := by
  cases k
  · exact I.tuple_inj h h'
  · exact I.list_inj h h'
end
def NewP (H : Hp) (v : V) (H' : Hp) (T : Addr) (xs : List V) : Prop := ∃ o, TupO o ∧ v = .ref T ∧ H T = none ∧ H' = upd H T (.frz o (.tup xs))
def YPairN (f g : Nat → Option V) : Nat → Hp → V → Hp → Prop := fun i H v H' => ∃ T x y, NewP H v H' T [x, y] ∧ f i = some x ∧ g i = some y
def IteQ (K : PySem.W.Frag) (k : Bool) (a : Addr) : It :=
  ⟨fun i H => ∃ (xs : List V) (x : V), Sq K k H a xs ∧ xs[i]? = some x, fun i H v H' => ∃ T x, NewP H v H' T [.int (i : Nat), x] ∧ ∀ xs, Sq K k H a xs → xs[i]? = some x, fun i H => ∃ xs : List V, Sq K k H a xs ∧ xs.length = i⟩
theorem turn_enumQ {P : Program} {w : World} {K : PySem.W.Frag} {elts : List Expr} {kk : Nat} {tpos : Pos} (k : Bool) (a e it : Addr) :
    Turn P w K (.Tuple elts kk tpos) (IteQ K k a) [e, it] e (fun i h => (∃ old, IsEnum h e it ((i : Nat) : Int) old) ∧ IsIt h k it a i ∧ e ≠ it ∧ a ≠ it ∧ a ≠ e) where
  mem := by simp
  obj := fun i h st b hb => by
    obtain ⟨⟨old, he⟩, hi, _⟩ := st
    have e' : b = e ∨ b = it := by simpa using hb
    rcases e' with z | z
    · rw [z]; exact ⟨_, he, fun v q => nomatch q⟩
    · rw [z]; exact hi.obj
  keep := fun i h h' st q => let ⟨⟨old, he⟩, hi, hne⟩ := st; ⟨⟨old, q e (by simp) _ he⟩, hi.at_ fun o z => q it (by simp) o z, hne⟩
  item := by
    intro X hP hw hK hc i pins s σ H E I hf st hg
    subst hP hw hK
    obtain ⟨⟨old, he⟩, hit, hne, hai, hae⟩ := st
    obtain ⟨xs, x, hq, hx⟩ := hg
    obtain ⟨its, rv, p, _⟩ := sq_is I hq
    obtain ⟨u, hu, ru⟩ := rv.get hx
    have hel : e < s.heap.objs.size := Heap.lt_size he
    have hil : it < s.heap.objs.size := by obtain ⟨_, q, _⟩ := hit.obj; exact Heap.lt_size q
    have D := draws (prog := X.prog) (w := X.w) (A := X.A.in1) (I.ok.hd hc) k it a hai its.toArray
    have hi : i < its.toArray.size := by
      have := (List.getElem?_eq_some_iff.mp hu).1
      simpa using this
    refine wpAny_pyNext_enum_itemD D he ⟨hit, p⟩ hi hne (by simp [hne, Ne.symm hae]) fun u' h' tk hP ho hst hT hsz hk => ?_
    obtain rfl : u' = u := by
      have : its.toArray[i]? = some u := by simpa using hu
      rw [this] at hP
      exact (Option.some.inj hP).symm
    refine ⟨_, rfl, wpAny_letOwnedTupleGo_enum (s := { s with heap := h', toks := tk + 1 }) ho fun h'' he' sb => ?_⟩
    have hT2 : h''.get? s.heap.objs.size = some { cls := .type "tuple", data := .seq #[.int i tk, u'] } := (sb.2 _ (Nat.ne_of_gt hel)).trans hT
    obtain ⟨ob, hob, hT3, n3, hd3⟩ : ∃ ob : Obj, TupO ob ∧ h''.get? s.heap.objs.size = some ob ∧ ∃ n, ob.data = .seq #[.int i tk, u'] n := ⟨_, ⟨rfl, rfl⟩, hT2, _, rfl⟩
    have new : ObjOk X.prog X.w (upd H s.heap.objs.size (.frz ob (.tup [.int (i : Nat), x]))) h'' s.heap.objs.size (.frz ob (.tup [.int (i : Nat), x])) :=
      ⟨hT3, by show 2 ≤ sizeLine; decide, [.int i tk, u'], .cons ⟨_, rfl⟩ (.cons ru .nil), ⟨ob, hT3, hob.1, n3, hd3⟩⟩
    have I1 : Inv X pins σ (upd H s.heap.objs.size (.frz ob (.tup [.int (i : Nat), x]))) { s with heap := h'', toks := tk + 1 } :=
      I.turnedNew (ch := [e, it]) (fun b ob hb q => (sb.2 b (fun z => hb (by simp [z]))).trans (hk b ob (fun z => hb (by simp [z])) (fun z => hb (by simp [z])) q)) hf (Nat.le_refl _) new
    refine ⟨.ref s.heap.objs.size, _, I1, rfl, ⟨_, x, ⟨ob, hob, rfl, I.hok.fresh (Nat.le_refl _), rfl⟩, fun ys hy => by rw [sq_inj I hy hq]; exact hx⟩, ⟨⟨u', ?_⟩, hst.1.at_ fun o q => (sb.2 it (Ne.symm hne)).trans q, hne, hai, hae⟩, fun b hb => ?_⟩
    · have e1 : ((i + 1 : Nat) : Int) = (i : Int) + 1 := by omega
      rw [e1]; exact he'
    · have hb' : b < s.heap.objs.size := by
        have e' : b = e ∨ b = it := by simpa using hb
        rcases e' with z | z
        · rw [z]; exact hel
        · rw [z]; exact hil
      rw [upd_ne (Nat.ne_of_lt hb')]
      exact (hf b hb).1
  done := by
    intro X hP hw hK hc i pins s σ H E I hf st hg
    subst hP hw hK
    obtain ⟨⟨old, he⟩, hit, hne, hai, hae⟩ := st
    obtain ⟨xs, hq, hx⟩ := hg
    obtain ⟨its, rv, p, _⟩ := sq_is I hq
    obtain ⟨f0, f1, f2, f3, f4, f5⟩ := hf it (by simp)
    have hl := rv.length
    have D := draws (prog := X.prog) (w := X.w) (A := X.A.in1) (I.ok.hd hc) k it a hai its.toArray
    have hi : its.toArray.size = i := by simp; omega
    exact wpAny_pyNext_enum_endD D he (by rw [hi]; exact ⟨hit, p⟩) fun h' eb => ⟨rfl, I.turned (t' := s.toks) (fun b o hb q => eb b o hb q) f0 f1 f3 f4 f5⟩
  self := fun A i s Q E st h => let ⟨⟨_, he⟩, _⟩ := st; wpAny_pyIter_enum he h
def IteT (z : Str) : It :=
  ⟨fun i _ => i < z.cps.size, fun i H v H' => ∃ T c, NewP H v H' T [.int (i : Nat), .str ⟨#[c]⟩] ∧ z.cps[i]? = some c, fun i _ => i = z.cps.size⟩
theorem turn_enumT {P : Program} {w : World} {K : PySem.W.Frag} {elts : List Expr} {kk : Nat} {tpos : Pos} (z : Str) (t : Tok) (e it : Addr) :
    Turn P w K (.Tuple elts kk tpos) (IteT z) [e, it] e (fun i h => (∃ old, IsEnum h e it ((i : Nat) : Int) old) ∧ h.IsStrIter it (strIterType z) z t i ∧ e ≠ it) where
  mem := by simp
  obj := fun i h st b hb => by
    obtain ⟨⟨old, he⟩, hi, _⟩ := st
    have e' : b = e ∨ b = it := by simpa using hb
    rcases e' with z | z
    · rw [z]; exact ⟨_, he, fun v q => nomatch q⟩
    · rw [z]
      obtain ⟨o, h1, _, h3⟩ := hi
      exact ⟨o, h1, fun v q => by rw [h3] at q; cases q⟩
  keep := fun i h h' st q => let ⟨⟨old, he⟩, ⟨o, h1, h2⟩, hne⟩ := st; ⟨⟨old, q e (by simp) _ he⟩, ⟨o, q it (by simp) o h1, h2⟩, hne⟩
  item := by
    intro X hP hw hK hc i pins s σ H E I hf st hg
    subst hP hw hK
    obtain ⟨⟨old, he⟩, hit, hne⟩ := st
    have hi : i < z.cps.size := hg
    have hel : e < s.heap.objs.size := Heap.lt_size he
    have hil : it < s.heap.objs.size := by obtain ⟨_, q, _⟩ := hit; exact Heap.lt_size q
    have D := Draws.text (prog := X.prog) (w := X.w) (A := X.A.in1) (I.ok.hd hc) it z t
    refine wpAny_pyNext_enum_itemD D he hit hi hne (by simp [hne, Ne.symm hne]) fun u' h' tk hP ho hst hT hsz hk => ?_
    obtain ⟨c, tu, hcz, rfl⟩ := hP
    refine ⟨_, rfl, wpAny_letOwnedTupleGo_enum (s := { s with heap := h', toks := tk + 1 }) ho fun h'' he' sb => ?_⟩
    have hT2 : h''.get? s.heap.objs.size = some { cls := .type "tuple", data := .seq #[.int i tk, .str ⟨#[c]⟩ tu] } := (sb.2 _ (Nat.ne_of_gt hel)).trans hT
    obtain ⟨ob, hob, hT3, n3, hd3⟩ : ∃ ob : Obj, TupO ob ∧ h''.get? s.heap.objs.size = some ob ∧ ∃ n, ob.data = .seq #[.int i tk, .str ⟨#[c]⟩ tu] n := ⟨_, ⟨rfl, rfl⟩, hT2, _, rfl⟩
    have new : ObjOk X.prog X.w (upd H s.heap.objs.size (.frz ob (.tup [.int (i : Nat), .str ⟨#[c]⟩]))) h'' s.heap.objs.size (.frz ob (.tup [.int (i : Nat), .str ⟨#[c]⟩])) :=
      ⟨hT3, by show 2 ≤ sizeLine; decide, [.int i tk, .str ⟨#[c]⟩ tu], .cons ⟨_, rfl⟩ (.cons ⟨_, rfl⟩ .nil), ⟨ob, hT3, hob.1, n3, hd3⟩⟩
    have I1 : Inv X pins σ (upd H s.heap.objs.size (.frz ob (.tup [.int (i : Nat), .str ⟨#[c]⟩]))) { s with heap := h'', toks := tk + 1 } :=
      I.turnedNew (ch := [e, it]) (fun b ob hb q => (sb.2 b (fun z => hb (by simp [z]))).trans (hk b ob (fun z => hb (by simp [z])) (fun z => hb (by simp [z])) q)) hf (Nat.le_refl _) new
    refine ⟨.ref s.heap.objs.size, _, I1, rfl, ⟨_, c, ⟨ob, hob, rfl, I.hok.fresh (Nat.le_refl _), rfl⟩, hcz⟩, ⟨⟨.str ⟨#[c]⟩ tu, ?_⟩, ?_, hne⟩, fun b hb => ?_⟩
    · have e1 : ((i + 1 : Nat) : Int) = (i : Int) + 1 := by omega
      rw [e1]; exact he'
    · obtain ⟨o, h1, h2⟩ := hst
      exact ⟨o, (sb.2 it (Ne.symm hne)).trans h1, h2⟩
    · have hb' : b < s.heap.objs.size := by
        have e' : b = e ∨ b = it := by simpa using hb
        rcases e' with z | z
        · rw [z]; exact hel
        · rw [z]; exact hil
      rw [upd_ne (Nat.ne_of_lt hb')]
      exact (hf b hb).1
  done := by
    intro X hP hw hK hc i pins s σ H E I hf st hg
    subst hP hw hK
    obtain ⟨⟨old, he⟩, hit, hne⟩ := st
    obtain ⟨f0, f1, f2, f3, f4, f5⟩ := hf it (by simp)
    have D := Draws.text (prog := X.prog) (w := X.w) (A := X.A.in1) (I.ok.hd hc) it z t
    have hi : z.cps.size = i := Eq.symm hg
    exact wpAny_pyNext_enum_endD D he (by rw [hi]; exact hit) fun h' eb => ⟨rfl, I.turned (t' := s.toks) (fun b o hb q => eb b o hb q) f0 f1 f3 f4 f5⟩
  self := fun A i s Q E st h => let ⟨⟨_, he⟩, _⟩ := st; wpAny_pyIter_enum he h
set_option maxHeartbeats 1000000 in
theorem meets_enum1 {v : Value} {o : Obj} {H : Heap → Prop} (B : Begins v o H) :
    Meets (Builtin.«enumerate.__new__» ⟨[.type "enumerate", v], []⟩) (fun _ R s => H s.heap ∧
      R (.ok (.ret (.ref (s.heap.push o).objs.size))) { s with heap := (s.heap.push o).push { cls := .type "enumerate", data := .fields #[.none, .bool false, .ref s.heap.objs.size, rawInt 0, .none, .none] } }) :=
  .of_wp fun prog w A R s h => by
    obtain ⟨hp, g, d, tk, os⟩ := s; obtain ⟨h1, h⟩ := h
    have hsub := sub_enumerate
    have q1 : ∀ {A' : Around} {E : Value → Shared → Prop} {Q : Value → Shared → Prop}, Q (.ref hp.objs.size) ⟨hp.push o, g, d, tk, os⟩ → wpAny (model prog w) A' (pyIter v) Q E ⟨hp, g, d, tk, os⟩ :=
      fun q => B.iter prog w _ _ ⟨hp, g, d, tk, os⟩ _ h1 q
    wp_walk using q1
    refine wpAny_stack_any fun st => wpAny_pure ?_
    split
    · rename_i c _ _ _ _ _
      cases (c == Value.type "enumerate")
      · wp_walk using q1
        exact ⟨_, rfl, h⟩
      · wp_walk using q1
        exact ⟨_, rfl, h⟩
    · wp_walk using q1
      exact ⟨_, rfl, h⟩
theorem call_enum1 {prog : Program} {w : World} {A : Around} {E : Value → Shared → Prop} {s : Shared} {v : Value} {o : Obj} {H : Heap → Prop} {Q : Value → Shared → Prop} (B : Begins v o H) (h1 : H s.heap)
    (h : ∀ h', IsEnum h' (s.heap.objs.size + 1) s.heap.objs.size 0 .none → h'.get? s.heap.objs.size = some o → h'.objs.size = s.heap.objs.size + 2 →
      (∀ b o, s.heap.get? b = some o → h'.get? b = some o) → Q (.ref (s.heap.objs.size + 1)) { s with heap := h' }) :
    wpAny (model prog w) A (call (.type "enumerate") [v]) Q E s := by
  refine callType_new F.called_enumerate (by decide) (F.typeCall_enumerate_1 _) (F.newCall_enumerate_1 _) (fun obj => F.args_object_init_2 obj _) F.entry_enumerate_new
    (meets_enum1 B) ⟨h1, ?_⟩
  have hz : (s.heap.push o).objs.size = s.heap.objs.size + 1 := Heap.size_push ..
  show _ ∧ _
  rw [hz]
  have he : IsEnum ((s.heap.push o).push { cls := .type "enumerate", data := .fields #[.none, .bool false, .ref s.heap.objs.size, rawInt 0, .none, .none] }) (s.heap.objs.size + 1) s.heap.objs.size 0 .none := by
    have := Heap.get?_push_size (s.heap.push o) (o := { cls := .type "enumerate", data := .fields #[.none, .bool false, .ref s.heap.objs.size, rawInt 0, .none, .none] }) rfl
    rw [hz] at this; exact this
  refine ⟨⟨_, he, rfl⟩, h _ he (Heap.get?_push_of_some _ (Heap.get?_push_size _ B.free)) (by rw [Heap.size_push, hz]) fun b o x => Heap.get?_push_of_some _ (Heap.get?_push_of_some _ x)⟩
def iEnumQ (K : PySem.W.Frag) (te : TE) : TI := fun σ H R => te σ H fun v H1 => ∃ (k : Bool) (a : Addr) (xs : List V), v = .ref a ∧ Sq K k H1 a xs ∧ R (IteQ K k a) H1
theorem pi_enumQ {X : Cx} {e : Expr} {te : TE} {p pos tpos : Pos} {elts : List Expr} {kk : Nat} (hg : Gl X "enumerate") (hm : X.mg "enumerate" = none) (he : PE X e te) (hs : starEach [e] X.env = (false, eval e X.env) :: starEach [] X.env) :
    PI X (.Tuple elts kk tpos) (.Call (.Name "enumerate" p) [e] [] pos) (iEnumQ X.K te) := by
  refine ⟨fun pins s σ H R I h => ?_⟩
  refine Call_ (ld_blt I hg hm boot_enumerate (PyProof.Rows.callWith_type1 (args_cons (thn (he.run pins s σ H _ I h) fun u s1 ⟨v, H1, I1, r1, q1⟩ => args_nil ?_) hs) hs rfl))
  obtain ⟨k, a, xs, rfl, hq, q⟩ := q1
  cases r1
  obtain ⟨its, rv, p', hlt⟩ := sq_is I1 hq
  refine call_enum1 (begins k a its.toArray) p' fun h' he' hit hsz hk => wpAny_pyIter_enum he' ?_
  have I2 : Inv X pins σ H1 { s1 with heap := h' } := I1.kept (t' := s1.toks) hk
  refine ⟨s1.heap.objs.size + 1, [s1.heap.objs.size + 1, s1.heap.objs.size], _, _, H1, rfl, I2, turn_enumQ k a (s1.heap.objs.size + 1) s1.heap.objs.size, ⟨⟨.none, he'⟩, isIt0 hit, Nat.succ_ne_self _, Nat.ne_of_lt hlt, Nat.ne_of_lt (Nat.lt_succ_of_lt hlt)⟩, fun b hb => ?_, q⟩
  have e' : b = s1.heap.objs.size + 1 ∨ b = s1.heap.objs.size := by simpa using hb
  have hle : s1.heap.objs.size ≤ b := by
    rcases e' with z | z
    · rw [z]; exact Nat.le_add_right _ _
    · rw [z]; exact Nat.le_refl _
  exact I1.fpOk hle (I1.hok.fresh hle)
def iEnumT (te : TE) : TI := fun σ H R => te σ H fun v H1 => ∃ (z : Str), v = .str z ∧ R (IteT z) H1
theorem pi_enumT {X : Cx} {e : Expr} {te : TE} {p pos tpos : Pos} {elts : List Expr} {kk : Nat} (hg : Gl X "enumerate") (hm : X.mg "enumerate" = none) (he : PE X e te) (hs : starEach [e] X.env = (false, eval e X.env) :: starEach [] X.env) :
    PI X (.Tuple elts kk tpos) (.Call (.Name "enumerate" p) [e] [] pos) (iEnumT te) := by
  refine ⟨fun pins s σ H R I h => ?_⟩
  refine Call_ (ld_blt I hg hm boot_enumerate (PyProof.Rows.callWith_type1 (args_cons (thn (he.run pins s σ H _ I h) fun u s1 ⟨v, H1, I1, r1, q1⟩ => args_nil ?_) hs) hs rfl))
  obtain ⟨z, rfl, q⟩ := q1
  obtain ⟨t, rfl⟩ := r1
  refine call_enum1 (begins_text z t) trivial fun h' he' hit hsz hk => wpAny_pyIter_enum he' ?_
  have I2 : Inv X pins σ H1 { s1 with heap := h' } := I1.kept (t' := s1.toks) hk
  refine ⟨s1.heap.objs.size + 1, [s1.heap.objs.size + 1, s1.heap.objs.size], _, _, H1, rfl, I2, turn_enumT z t (s1.heap.objs.size + 1) s1.heap.objs.size, ⟨⟨.none, he'⟩, ⟨_, hit, rfl, rfl⟩, Nat.succ_ne_self _⟩, fun b hb => ?_, q⟩
  have e' : b = s1.heap.objs.size + 1 ∨ b = s1.heap.objs.size := by simpa using hb
  have hle : s1.heap.objs.size ≤ b := by
    rcases e' with z | z
    · rw [z]; exact Nat.le_add_right _ _
    · rw [z]; exact Nat.le_refl _
  exact I1.fpOk hle (I1.hok.fresh hle)
theorem walk_enumT {z : Str} : Walk (IteT z) z.cps.size (fun _ => True) (YPairN (fun i => some (.int (i : Nat))) (fun i => z.cps[i]?.map fun c => .str ⟨#[c]⟩)) := by
  refine ⟨fun _ _ hi _ => hi, fun _ _ => rfl, fun i H v H' _ _ y => ?_⟩
  obtain ⟨T, c, h1, h4⟩ := y
  exact ⟨T, .int (i : Nat), .str ⟨#[c]⟩, h1, rfl, by
    show Option.map _ z.cps[i]? = _
    rw [h4]
    rfl⟩
def ItzQ (K : PySem.W.Frag) (k1 k2 : Bool) (a b : Addr) : It :=
  ⟨fun i H => ∃ (xs ys : List V) (x y : V), Sq K k1 H a xs ∧ Sq K k2 H b ys ∧ xs[i]? = some x ∧ ys[i]? = some y,
    fun i H v H' => ∃ T x y, NewP H v H' T [x, y] ∧ (∀ xs, Sq K k1 H a xs → xs[i]? = some x) ∧ ∀ ys, Sq K k2 H b ys → ys[i]? = some y,
    fun i H => ∃ xs ys : List V, Sq K k1 H a xs ∧ Sq K k2 H b ys ∧ i ≤ xs.length ∧ i ≤ ys.length ∧ (i = xs.length ∨ i = ys.length)⟩
theorem turn_zipQ {P : Program} {w : World} {K : PySem.W.Frag} {elts : List Expr} {kk : Nat} {tpos : Pos} (k1 k2 : Bool) {a b z TI TO i1 i2 : Addr} (S : ZipSep2 z TI TO i1 i2 [i1, a] [i2, b]) (n1 : a ≠ i1) (n2 : b ≠ i2) :
    Turn P w K (.Tuple elts kk tpos) (ItzQ K k1 k2 a b) [z, TI, TO, i1, i2] z (fun i h => IsZip h z TI TO .none ∧ IsTupOf2 h TI (.ref i1) (.ref i2) ∧ (∃ x y, IsTupOf2 h TO x y) ∧ IsIt h k1 i1 a i ∧ IsIt h k2 i2 b i) where
  mem := by simp
  obj := fun i h st c hc => by
    obtain ⟨hz, hTI, ⟨x, y, hTO⟩, h1, h2⟩ := st
    have e' : c = z ∨ c = TI ∨ c = TO ∨ c = i1 ∨ c = i2 := by simpa using hc
    rcases e' with q | q | q | q | q
    · rw [q]; exact ⟨_, hz, fun v q => nomatch q⟩
    · rw [q]; exact ⟨_, hTI, fun v q => nomatch q⟩
    · rw [q]; exact ⟨_, hTO, fun v q => nomatch q⟩
    · rw [q]; exact h1.obj
    · rw [q]; exact h2.obj
  keep := fun i h h' st k => by
    obtain ⟨hz, hTI, ⟨x, y, hTO⟩, h1, h2⟩ := st
    exact ⟨k z (by simp) _ hz, k TI (by simp) _ hTI, ⟨x, y, k TO (by simp) _ hTO⟩, h1.at_ fun o q => k i1 (by simp) o q, h2.at_ fun o q => k i2 (by simp) o q⟩
  item := by
    intro X hP hw hK hc i pins s σ H E I hf st hg
    subst hP hw hK
    obtain ⟨hz, hTI, ⟨x0, y0, hTO⟩, h1, h2⟩ := st
    obtain ⟨xs, ys, x, y, hqx, hqy, hx, hy⟩ := hg
    obtain ⟨its, rv, p, _⟩ := sq_is I hqx
    obtain ⟨its2, rv2, p2, _⟩ := sq_is I hqy
    obtain ⟨u, hu, ru⟩ := rv.get hx
    obtain ⟨u2, hu2, ru2⟩ := rv2.get hy
    have hzl : z < s.heap.objs.size := Heap.lt_size hz
    have D1 := draws (prog := X.prog) (w := X.w) (A := X.A.in1) (I.ok.hd hc) k1 i1 a n1 its.toArray
    have D2 := draws (prog := X.prog) (w := X.w) (A := X.A.in1) (I.ok.hd hc) k2 i2 b n2 its2.toArray
    have l1 : i < its.toArray.size := by
      have := (List.getElem?_eq_some_iff.mp hu).1
      simpa using this
    have l2 : i < its2.toArray.size := by
      have := (List.getElem?_eq_some_iff.mp hu2).1
      simpa using this
    refine wpAny_pyNext_zipD2_item S D1 D2 hz hTI hTO ⟨h1, p⟩ ⟨h2, p2⟩ l1 l2 fun v1 v2 h' tk hP1 hP2 z' TO' st1 st2 hT hsz hk => ?_
    obtain rfl : v1 = u := by
      have : its.toArray[i]? = some u := by simpa using hu
      rw [this] at hP1
      exact (Option.some.inj hP1).symm
    obtain rfl : v2 = u2 := by
      have : its2.toArray[i]? = some u2 := by simpa using hu2
      rw [this] at hP2
      exact (Option.some.inj hP2).symm
    refine ⟨_, rfl, wpAny_letOwnedTupleGo_zip (s := { s with heap := h', toks := tk }) z' fun h'' z'' sb => ?_⟩
    have hT2 : h''.get? s.heap.objs.size = some { cls := .type "tuple", data := .seq #[v1, v2] } := (sb.2 _ (Nat.ne_of_gt hzl)).trans hT
    obtain ⟨ob, hob, hT3, n3, hd3⟩ : ∃ ob : Obj, TupO ob ∧ h''.get? s.heap.objs.size = some ob ∧ ∃ n, ob.data = .seq #[v1, v2] n := ⟨_, ⟨rfl, rfl⟩, hT2, _, rfl⟩
    have new : ObjOk X.prog X.w (upd H s.heap.objs.size (.frz ob (.tup [x, y]))) h'' s.heap.objs.size (.frz ob (.tup [x, y])) :=
      ⟨hT3, by show 2 ≤ sizeLine; decide, [v1, v2], .cons ru (.cons ru2 .nil), ⟨ob, hT3, hob.1, n3, hd3⟩⟩
    have I1 : Inv X pins σ (upd H s.heap.objs.size (.frz ob (.tup [x, y]))) { s with heap := h'', toks := tk } :=
      I.turnedNew (t' := tk) (ch := [z, TI, TO, i1, i2]) (fun c o hb q => (sb.2 c (fun q' => hb (by simp [q']))).trans (hk c o (fun q' => hb (by simp [q'])) (fun q' => hb (by simp [q'])) (fun q' => hb (by simp [q'])) (fun q' => hb (by simp [q'])) q)) hf (Nat.le_refl _) new
    refine ⟨.ref s.heap.objs.size, _, I1, rfl, ⟨_, x, y, ⟨ob, hob, rfl, I.hok.fresh (Nat.le_refl _), rfl⟩, fun l hl => by rw [sq_inj I hl hqx]; exact hx, fun l hl => by rw [sq_inj I hl hqy]; exact hy⟩, ⟨z'', ?_, ⟨v1, v2, ?_⟩, ?_, ?_⟩, fun c hcm => ?_⟩
    · exact (sb.2 _ S.TIz).trans (hk _ _ S.TIz S.TITO S.TIi1 S.TIi2 hTI)
    · exact (sb.2 _ S.TOz).trans TO'
    · exact st1.1.at_ fun o q => (sb.2 _ S.zi1.symm).trans q
    · exact st2.1.at_ fun o q => (sb.2 _ S.zi2.symm).trans q
    · have hlt : c < s.heap.objs.size := by
        have e' : c = z ∨ c = TI ∨ c = TO ∨ c = i1 ∨ c = i2 := by simpa using hcm
        rcases e' with q | q | q | q | q
        · rw [q]; exact hzl
        · rw [q]; exact Heap.lt_size hTI
        · rw [q]; exact Heap.lt_size hTO
        · rw [q]; obtain ⟨_, e1, _⟩ := h1.obj; exact Heap.lt_size e1
        · rw [q]; obtain ⟨_, e2, _⟩ := h2.obj; exact Heap.lt_size e2
      rw [upd_ne (Nat.ne_of_lt hlt)]
      exact (hf c hcm).1
  done := by
    intro X hP hw hK hc i pins s σ H E I hf st hg
    subst hP hw hK
    obtain ⟨hz, hTI, ⟨x0, y0, hTO⟩, h1, h2⟩ := st
    obtain ⟨xs, ys, hqx, hqy, l1, l2, hend⟩ := hg
    obtain ⟨its, rv, p, _⟩ := sq_is I hqx
    obtain ⟨its2, rv2, p2, _⟩ := sq_is I hqy
    have e1 := rv.length
    have e2 := rv2.length
    have D1 := draws (prog := X.prog) (w := X.w) (A := X.A.in1) (I.ok.hd hc) k1 i1 a n1 its.toArray
    have D2 := draws (prog := X.prog) (w := X.w) (A := X.A.in1) (I.ok.hd hc) k2 i2 b n2 its2.toArray
    exact wpAny_pyNext_zipD2_end S D1 D2 hz hTI hTO ⟨h1, p⟩ ⟨h2, p2⟩ (by simp; omega) (by simp; omega) (by simp; omega) fun h' tk hk => ⟨rfl, I.turnedL (t' := tk) (ch := [z, TI, TO, i1, i2]) (fun c o hb q =>
      hk c o (fun q' => hb (by simp [q'])) (fun q' => hb (by simp [q'])) (fun q' => hb (by simp [q'])) (fun q' => hb (by simp [q'])) q) hf⟩
  self := fun A i s Q E st h => wpAny_pyIter_zip st.1 h
def iZipQ (K : PySem.W.Frag) (ta : TA) : TI := fun σ H R => ta σ H fun vs H1 => ∃ k1 k2 a b xs ys, vs = [.ref a, .ref b] ∧ Sq K k1 H1 a xs ∧ Sq K k2 H1 b ys ∧ R (ItzQ K k1 k2 a b) H1
theorem pi_zipQ {X : Cx} {e e2 : Expr} {ta : TA} {p pos tpos : Pos} {elts : List Expr} {kk : Nat} (hg : Gl X "zip") (hm : X.mg "zip" = none) (ha : PA X [e, e2] ta)
    (hs : starEach [e, e2] X.env = (false, eval e X.env) :: starEach [e2] X.env) (hpl : (backTo pos (starEach [e2] X.env)).any (·.1) = false) :
    PI X (.Tuple elts kk tpos) (.Call (.Name "zip" p) [e, e2] [] pos) (iZipQ X.K ta) := by
  refine ⟨fun pins s σ H R I h => ?_⟩
  refine Call_ (ld_blt I hg hm PyProof.Rows.boot_zip (PyProof.Rows.callWith_type1 (thn (ha.run pos pins s σ H _ I h) fun us s1 ⟨vs, H1, I1, r1, q1⟩ => ?_) hs hpl))
  obtain ⟨k1, k2, a, b, xs, ys, ex, hqx, hqy, q⟩ := q1
  subst ex
  cases r1 with
  | cons r rr =>
    cases rr with
    | cons r' rr =>
      cases rr
      cases r
      cases r'
      obtain ⟨its, rv, p1, la⟩ := sq_is I1 hqx
      obtain ⟨its2, rv2, p2, lb⟩ := sq_is I1 hqy
      refine zip_begins2 (begins k1 a its.toArray) (begins k2 b its2.toArray) p1 p2 fun h' hz hTI hTO h1 h2 hsz hk => wpAny_pyIter_zip hz ?_
      have I2 : Inv X pins σ H1 { s1 with heap := h' } := I1.kept (t' := s1.toks) hk
      have S : ZipSep2 (s1.heap.objs.size + 4) (s1.heap.objs.size + 2) (s1.heap.objs.size + 3) s1.heap.objs.size (s1.heap.objs.size + 1) [s1.heap.objs.size, a] [s1.heap.objs.size + 1, b] :=
        zip_sep2 (fp1 := [a]) (fp2 := [b]) (fun c hc => by simpa using (by simpa using hc : c = a) ▸ la) (fun c hc => by simpa using (by simpa using hc : c = b) ▸ lb)
      refine ⟨s1.heap.objs.size + 4, [s1.heap.objs.size + 4, s1.heap.objs.size + 2, s1.heap.objs.size + 3, s1.heap.objs.size, s1.heap.objs.size + 1], _, _, H1, rfl, I2, turn_zipQ k1 k2 S (Nat.ne_of_lt la) (Nat.ne_of_lt (Nat.lt_succ_of_lt lb)), ⟨hz, hTI, ⟨_, _, hTO⟩, isIt0 h1, isIt0 h2⟩, fun c hcm => ?_, q⟩
      have e' : c = s1.heap.objs.size + 4 ∨ c = s1.heap.objs.size + 2 ∨ c = s1.heap.objs.size + 3 ∨ c = s1.heap.objs.size ∨ c = s1.heap.objs.size + 1 := by simpa using hcm
      have hle : s1.heap.objs.size ≤ c := by
        rcases e' with z | z | z | z | z
        · rw [z]; exact Nat.le_add_right _ _
        · rw [z]; exact Nat.le_add_right _ _
        · rw [z]; exact Nat.le_add_right _ _
        · rw [z]; exact Nat.le_refl _
        · rw [z]; exact Nat.le_add_right _ _
      exact I1.fpOk hle (I1.hok.fresh hle)
end Mn
namespace Mn
open PySem PySem.Spec PyProof.Rows L2
end Mn
namespace Mn
open PySem PySem.Spec PyProof.Rows RT L2
end Mn
set_option maxHeartbeats 1000000
namespace Mn
open PySem PySem.Spec PyProof.Rows L2
end Mn
set_option maxHeartbeats 4000000
namespace Mr
open PySem PySem.Spec PyProof.Rows RT L2
section
variable {prog : Program} {w : World} {A : Around} {E : Value → Shared → Prop} {s : Shared} {R : Result → Shared → Prop}
variable {I : Addr} {fp wr : List Addr} {G : Array GenState → Array GenState → Prop} {n : Nat} {P : Nat → Value → Prop} {St : Nat → Shared → Prop}
end
section
variable {prog : Program} {w : World} {A : Around} {E : Value → Shared → Prop} {s : Shared}
variable {I : Addr} {fp wr : List Addr} {G : Array GenState → Array GenState → Prop} {n : Nat} {P : Nat → Value → Prop} {St : Nat → Shared → Prop}
end
section
variable {X : Cx} {e : Expr} {te : TE} {p p2 pos pos2 : Pos}
end
end Mr
namespace Mr
open PySem PySem.Spec PyProof.Rows RT L2
def IsRs (h : Heap) (a : Addr) (x : Str) (i : Int) : Prop := ∃ o t, h.get? a = some o ∧ o.cls = .type "reversed" ∧ o.data = .fields #[.str x t, rawInt i]
theorem IsRs.at {h h' : Heap} {a : Addr} {x : Str} {i : Int} (y : IsRs h a x i) (e : ∀ o, h.get? a = some o → h'.get? a = some o) : IsRs h' a x i := by
  obtain ⟨o, t, ho, r⟩ := y
  exact ⟨o, t, e _ ho, r⟩
section
variable {prog : Program} {w : World} {A : Around} {E : Value → Shared → Prop} {s : Shared}
theorem IsRs.typeIs {a : Addr} {x : Str} {i : Int} (y : IsRs s.heap a x i) : s.TypeIs (.ref a) "reversed" := by
  obtain ⟨o, t, ho, hc, _⟩ := y
  exact ⟨o, ho, hc⟩
end
section
variable {X : Cx} {o e : Expr} {to te : TE} {apos p pos pos2 : Pos}
end
end Mr
namespace Mn
open PySem PySem.Spec PyProof.Rows L2
def PlAt (σ : L2.St) (H : Hp) (q : Nat × List Stp) (v : V) : Prop := ∃ r, σ[q.1]? = some (some r) ∧ walkH H r q.2 = some v
def tP (K : PySem.W.Frag) (c : Cl) (p : Pth) : TE := fun σ H Q => ∃ F env q, EnvOk K F H env σ ∧ evP c env p = some q ∧ ∀ v F' H', Ext F H F' H' → PlAt σ H' q v → Q v H'
theorem joinE {env : Ev} {i : Nat} {r : RV} (h : (env[i]?).join = some r) : env[i]? = some (some r) := by
  cases q : env[i]? with
  | none => rw [q] at h; cases h
  | some o => rw [q] at h; exact congrArg some h
theorem rootAt_eq {env : Ev} {i : Nat} {t : OT} (h : rootAt env i = some t) : ∃ pw, env[i]? = some (some (.tr pw t)) := by
  unfold rootAt at h
  obtain ⟨r, h1, h2⟩ := bnd h
  cases r with
  | tr pw t' => cases h2; exact ⟨pw, joinE h1⟩
  | _ => cases h2
theorem EnvOk.place {K : PySem.W.Frag} {F H : Hp} {env : Ev} {σ : L2.St} (ok : EnvOk K F H env σ) {q : Nat × List Stp} {t : OT} (h : treeAt env q.1 q.2 = some t) {v : V} (pl : PlAt σ H q v) : ∃ ps, Tr K F H v t ps ∧ ps.Nodup := by
  unfold treeAt at h
  obtain ⟨t0, h1, h2⟩ := bnd h
  obtain ⟨pw, h3⟩ := rootAt_eq h1
  obtain ⟨r, ps, h4, h5, h6⟩ := ok.tr_.tr _ _ _ h3
  obtain ⟨r', h7, h8⟩ := pl
  rw [h4] at h7
  cases h7
  obtain ⟨x, ps1, ps', ps2, g1, g2, g3, _⟩ := h5.at_ h2
  rw [h8] at g1
  cases g1
  refine ⟨ps', g2, ?_⟩
  subst g3
  exact (List.nodup_append.mp (List.nodup_append.mp h6).1).2.1
theorem EnvOk.place2 {K : PySem.W.Frag} {F H : Hp} {env : Ev} {σ : L2.St} (ok : EnvOk K F H env σ) {q : Nat × List Stp} {t : OT} (h : treeAt env q.1 q.2 = some t) {v : V} (pl : PlAt σ H q v) : ∃ ps, Tr K F H v t ps ∧ ∀ b ∈ ps, OwnAt H env σ q.1 b := by
  unfold treeAt at h
  obtain ⟨t0, h1, h2⟩ := bnd h
  obtain ⟨pw, h3⟩ := rootAt_eq h1
  obtain ⟨r, ps, h4, h5, h6⟩ := ok.tr_.tr _ _ _ h3
  obtain ⟨r', h7, h8⟩ := pl
  rw [h4] at h7
  cases h7
  obtain ⟨x, ps1, ps', ps2, g1, g2, g3, _⟩ := h5.at_ h2
  rw [h8] at g1
  cases g1
  refine ⟨ps', g2, fun b hb => ⟨_, r, h3, h4, (foot_tr h5).mpr ?_⟩⟩
  subst g3
  simp [hb]
theorem Tr.viewF {K : PySem.W.Frag} {F H : Hp} {v : V} {t : OT} {ps : List Addr} {r : RV} (a : Tr K F H v t ps) (h : viewO t = some r) {b : Addr} (f : Foot H r v b) : b ∈ ps := by
  cases a with
  | lf q => cases h; exact f.elim
  | dk _ e q => cases h; cases (show V.ref _ = V.ref b from f); simp
  | ls _ e a =>
    obtain ⟨ds, h1, rfl⟩ := mpd (show (leaves _).map RV.ol = some r from h)
    cases (show V.ref _ = V.ref b from f); simp
  | tp _ _ _ _ => cases h
  | ob _ _ _ _ _ _ => cases h
theorem kids_eq {t : OT} {ts : List OT} (h : kids t = some ts) : t = .nd .ls ts := by
  unfold kids at h
  split at h
  · cases h; rfl
  · cases h
theorem kidsT_eq {t : OT} {ts : List OT} (h : kidsT t = some ts) : t = .nd .ls ts ∨ t = .nd .tp ts := by
  unfold kidsT at h
  split at h
  · cases h; exact .inl rfl
  · cases h; exact .inr rfl
  · cases h
theorem Tr.tpE {K : PySem.W.Frag} {F H : Hp} {v : V} {ts : List OT} {ps : List Addr} (a : Tr K F H v (.nd .tp ts) ps) : ∃ p o vs ps', v = .ref p ∧ F p = none ∧ H p = some (.frz o (.tup vs)) ∧ TupO o ∧ TrAll K F H vs ts ps' ∧ ps = p :: ps' := by
  cases a with
  | tp f h g a => exact ⟨_, _, _, _, rfl, f, h, g, a, rfl⟩
theorem Tr.lsE {K : PySem.W.Frag} {F H : Hp} {v : V} {ts : List OT} {ps : List Addr} (a : Tr K F H v (.nd .ls ts) ps) : ∃ p vs ps', v = .ref p ∧ F p = none ∧ H p = some (.lst vs) ∧ TrAll K F H vs ts ps' ∧ ps = p :: ps' := by
  cases a with
  | ls f h a => exact ⟨_, _, _, rfl, f, h, a, rfl⟩
theorem Tr.obE {K : PySem.W.Frag} {F H : Hp} {v : V} {nm : Str} {fs : List Str} {ts : List OT} {ps : List Addr} (a : Tr K F H v (.nd (.ob nm fs) ts) ps) : ∃ p C dx fvs ps', v = .ref p ∧ F p = none ∧ F dx = none ∧ H p = some (.ins C dx fvs) ∧ H dx = some (.own p) ∧ ClsAt K nm C ∧ TrAll K F H (fvs.map fun x => x.2) ts ps' ∧ fs = (fvs.map fun x => x.1) ∧ ps = p :: dx :: ps' := by
  generalize e : OT.nd (.ob nm fs) ts = t at a
  cases a with
  | ob f f2 h h2 c a => cases e; exact ⟨_, _, _, _, _, rfl, f, f2, h, h2, c, a, rfl, rfl⟩
  | _ => cases e
theorem leaves_rp {K : PySem.W.Frag} {F H : Hp} : ∀ {vs : List V} {ts : List OT} {ps : List Addr} {ds : List PyData}, TrAll K F H vs ts ps → leaves ts = some ds → RpAll K F vs ds
  | _, _, _, _, .nil, h => by cases h; exact .nil
  | _, _, _, _, .cons (.lf r) s, h => by
    obtain ⟨ds, h1, rfl⟩ := mpd (show (leaves _).map _ = some _ from h)
    exact .cons r (leaves_rp s h1)
  | _, _, _, _, .cons (.dk _ _ _) s, h => by cases h
  | _, _, _, _, .cons (.ls _ _ _) s, h => by cases h
  | _, _, _, _, .cons (.tp _ _ _ _) s, h => by cases h
  | _, _, _, _, .cons (.ob _ _ _ _ _ _) s, h => by cases h
theorem Tr.view {K : PySem.W.Frag} {F H : Hp} {v : V} {t : OT} {ps : List Addr} {r : RV} (a : Tr K F H v t ps) (h : viewO t = some r) : View K F H v r := by
  cases a with
  | lf q => cases h; exact .fz q
  | dk f e q => cases h; exact .own f e (.dK q)
  | ls f e a =>
    obtain ⟨ds, h1, rfl⟩ := mpd (show (leaves _).map RV.ol = some r from h)
    exact .own f e (.lst (leaves_rp a h1))
  | tp _ _ _ _ => cases h
  | ob _ _ _ _ _ _ => cases h
theorem fieldOf_eq {f nm : Str} {t : OT} (h : fieldOf f t = some nm) : ∃ fs ts, t = .nd (.ob nm fs) ts ∧ fs.contains f = true := by
  unfold fieldOf at h
  split at h
  · split at h
    · cases h; exact ⟨_, _, rfl, by assumption⟩
    · cases h
  · cases h
theorem lookup_some {f : Str} : ∀ {fvs : List (Str × V)}, (fvs.map fun x => x.1).contains f = true → ∃ v, fvs.lookup f = some v
  | [], h => by simp at h
  | (g, v) :: r, h => by
    cases e : f == g with
    | true => exact ⟨v, by rw [List.lookup_cons, e]⟩
    | false =>
      rw [List.map_cons, List.contains_cons, e, Bool.false_or] at h
      obtain ⟨w, h1⟩ := lookup_some h
      exact ⟨w, by rw [List.lookup_cons, e]; exact h1⟩
theorem plainT_P {p : Pth} {s : Sx} {e : Expr} (h : chkP p s e = true) : plainT e = true := by
  cases e with
  | Name _ _ => rfl
  | Subscript _ _ _ => rfl
  | Attribute _ _ _ => rfl
  | _ => cases p <;> simp [chkP, chkV] at h
theorem intAt_eq {env : Ev} {i : Nat} {n : Int} (h : intAt env i = some n) : env[i]? = some (some (.fz (.int n))) := by
  unfold intAt at h
  obtain ⟨r, h1, h2⟩ := bnd h
  obtain rfl := asInt_eq h2
  exact joinE h1
theorem EnvOk.int {K : PySem.W.Frag} {F H : Hp} {env : Ev} {σ : L2.St} (ok : EnvOk K F H env σ) {i : Nat} {n : Int} (h : intAt env i = some n) : σ[i]? = some (some (.int n)) := by
  obtain ⟨v, h1, w⟩ := ok.at_ i _ (intAt_eq h) rfl
  obtain rfl := w.int
  exact h1
theorem chkV_ok {X : Cx} {s : Sx} {c : Cl} (C : CO X s c) {i : Nat} {e : Expr} (h : chkV s i e = true) : PE X e (tVar i) ∧ PlainIx e := by
  unfold chkV at h
  split at h
  · simp only [Bool.and_eq_true, decide_eq_true_eq] at h
    obtain ⟨⟨h1, h2⟩, h3⟩ := h
    exact ⟨pe_var (i := i) (by rw [C.N]; exact h1) (C.vis h2) (okN1 h3).1 (okN1 h3).2, ix_of rfl⟩
  · cases h
theorem step_at {K : PySem.W.Frag} {F H : Hp} {env : Ev} {σ : L2.St} (ok : EnvOk K F H env σ) {q0 q : Nat × List Stp} {n : Int} (h : stepP env q0 n = some q) {v : V} (pl : PlAt σ H q0 v) :
    ∃ a xs x, v = .ref a ∧ (SqL K H a xs ∨ SqT K H a xs) ∧ L2.atI xs n = some x ∧ PlAt σ H q x := by
  unfold stepP at h
  obtain ⟨ts, h5, h⟩ := bnd h
  obtain ⟨j, h6, h7⟩ := mpd h
  subst h7
  obtain ⟨t0, h8, h9⟩ := bnd h5
  rcases kidsT_eq h9 with rfl | rfl
  · obtain ⟨ps, tr, _⟩ := ok.place h8 pl
    obtain ⟨a0, vs, ps', rfl, f, e, ta, _⟩ := tr.lsE
    have hl := ta.length
    have hj : j < vs.length := by rw [hl]; exact (ixN_seq h6).2.1
    refine ⟨a0, vs, vs[j], rfl, .inl (SqL.of e), ?_, ?_⟩
    · unfold L2.atI
      rw [hl, h6]
      exact List.getElem?_eq_getElem hj
    · obtain ⟨r, g1, g2⟩ := pl
      refine ⟨r, g1, ?_⟩
      show walkH H r (q0.2 ++ [.ix j]) = _
      rw [walkH_append, g2]
      show (stepH H (.ref a0) (.ix j)).bind _ = _
      have : stepH H (.ref a0) (.ix j) = vs[j]? := by
        show (match H a0 with | some (.lst vs) => vs[j]? | some (.frz _ (.tup vs)) => vs[j]? | _ => none) = _
        rw [e]
      rw [this, List.getElem?_eq_getElem hj]
      rfl
  · obtain ⟨ps, tr, _⟩ := ok.place h8 pl
    obtain ⟨a0, o, vs, ps', rfl, f, e, g, ta, _⟩ := tr.tpE
    have hl := ta.length
    have hj : j < vs.length := by rw [hl]; exact (ixN_seq h6).2.1
    refine ⟨a0, vs, vs[j], rfl, .inr (.inl (.inr ⟨o, e⟩)), ?_, ?_⟩
    · unfold L2.atI
      rw [hl, h6]
      exact List.getElem?_eq_getElem hj
    · obtain ⟨r, g1, g2⟩ := pl
      refine ⟨r, g1, ?_⟩
      show walkH H r (q0.2 ++ [.ix j]) = _
      rw [walkH_append, g2]
      show (stepH H (.ref a0) (.ix j)).bind _ = _
      have : stepH H (.ref a0) (.ix j) = vs[j]? := by
        show (match H a0 with | some (.lst vs) => vs[j]? | some (.frz _ (.tup vs)) => vs[j]? | _ => none) = _
        rw [e]
      rw [this, List.getElem?_eq_getElem hj]
      rfl
def rIxLT (K : PySem.W.Frag) : R2 := fun x y H Q => ∃ (p : Addr) (vs : List V) (n : Int) (w : V), x = .ref p ∧ y = .int n ∧ (SqL K H p vs ∨ SqT K H p vs) ∧ L2.atI vs n = some w ∧ Q w H
theorem ix_lt {X : Cx} : IxR X (rIxLT X.K) := by
  intro a b pins s σ H x y v u Q I rx ry ⟨p, vs, n, w, e1, e2, h, hw, q⟩
  rcases h with h | h
  · exact ix_list a b pins s σ H _ _ v u Q I rx ry ⟨p, vs, n, w, e1, e2, h, hw, q⟩
  · exact ix_tup a b pins s σ H _ _ v u Q I rx ry ⟨p, vs, n, w, e1, e2, h, hw, q⟩
theorem sndPth : ∀ (p : Pth) {X : Cx} {s : Sx} {c : Cl}, CO X s c → ∀ {e : Expr}, chkP p s e = true → PE X e (tP X.K c p)
  | .nm i, X, s, c, C, e, h => by
    refine PE.imp (chkV_ok C (show chkV s i e = true from h)).1 fun σ H Q ⟨F, env, q, ok, h, k⟩ => ?_
    obtain ⟨r, h4, h5⟩ := bnd (show ((env[i]?).join).bind _ = some q from h)
    have h6 := joinE h4
    cases r with
    | tr pw t =>
      cases h5
      obtain ⟨v, ps, g1, g2, g3⟩ := ok.tr_.tr _ _ _ h6
      exact ⟨v, g1, k v F H (.refl ok.sub) ⟨v, g1, rfl⟩⟩
    | al j w =>
      obtain ⟨t, h7, h8⟩ := mpd (show (rootAt env j).map _ = some q from h5)
      subst h8
      obtain ⟨pw, h9⟩ := rootAt_eq h7
      obtain ⟨v, x, u, g1, g2, g3, g4, g5⟩ := ok.tr_.al _ _ _ _ _ h6 h9
      exact ⟨x, g2, k x F H (.refl ok.sub) ⟨v, g1, g5⟩⟩
    | _ => cases h5
  | .iv p i, X, s, c, C, e, h => by
    unfold chkP at h
    split at h
    · simp only [Bool.and_eq_true] at h
      obtain ⟨p1, p2⟩ := chkV_ok C h.2
      refine PE.imp (pe_ix ix_lt (sndPth p C h.1) p1 p2) fun σ H Q ⟨F, env, q, ok, h, k⟩ => ?_
      obtain ⟨q0, h1, h⟩ := bnd (show (evP c env p).bind _ = some q from h)
      obtain ⟨n, h2, h⟩ := bnd h
      refine ⟨F, env, q0, ok, h1, fun v F1 H1 x1 pl => ?_⟩
      obtain ⟨a0, xs, x, rfl, e, hx, hp⟩ := step_at (ok.ext x1) h pl
      exact ⟨_, ok.int h2, a0, xs, n, x, rfl, rfl, e, hx, k x F1 H1 x1 hp⟩
    · cases h
  | .ic p n, X, s, c, C, e, h => by
    unfold chkP at h
    split at h
    · simp only [Bool.and_eq_true, decide_eq_true_eq] at h
      obtain ⟨h1, rfl⟩ := h
      refine PE.imp (pe_ix ix_lt (sndPth p C h1) pe_int (ix_of rfl)) fun σ H Q ⟨F, env, q, ok, h, k⟩ => ?_
      obtain ⟨q0, h1, h⟩ := bnd (show (evP c env p).bind _ = some q from h)
      refine ⟨F, env, q0, ok, h1, fun v F1 H1 x1 pl => ?_⟩
      obtain ⟨a0, xs, x, rfl, e, hx, hp⟩ := step_at (ok.ext x1) h pl
      exact ⟨a0, xs, _, x, rfl, rfl, e, hx, k x F1 H1 x1 hp⟩
    · cases h
  | .ia p i m, X, s, c, C, e, h => by
    unfold chkP at h
    split at h
    · simp only [Bool.and_eq_true, decide_eq_true_eq] at h
      obtain ⟨⟨h1, h2⟩, rfl⟩ := h
      refine PE.imp (pe_ix ix_lt (sndPth p C h1) (pe_op op_add (chkV_ok C h2).1 pe_int) (ix_of rfl)) fun σ H Q ⟨F, env, q, ok, h, k⟩ => ?_
      obtain ⟨q0, h1, h⟩ := bnd (show (evP c env p).bind _ = some q from h)
      obtain ⟨n, h2, h⟩ := bnd h
      refine ⟨F, env, q0, ok, h1, fun v F1 H1 x1 pl => ?_⟩
      obtain ⟨a0, xs, x, rfl, e, hx, hp⟩ := step_at (ok.ext x1) h pl
      exact ⟨_, ok.int h2, n, _, rfl, rfl, a0, xs, _, x, rfl, rfl, e, hx, k x F1 H1 x1 hp⟩
    · cases h
  | .fl p f, X, s, c, C, e, h => by
    unfold chkP at h
    split at h
    · rename_i o f' pos
      simp only [Bool.and_eq_true, decide_eq_true_eq] at h
      obtain ⟨⟨h1, h2⟩, h3⟩ := h
      subst h1
      refine PE.imp (pe_fld (sndPth p C h3) (base_of h2 _ _ _)) fun σ H Q ⟨F, env, q, ok, h, k⟩ => ?_
      obtain ⟨q0, h1, h⟩ := bnd (show (evP c env p).bind _ = some q from h)
      obtain ⟨nm, h4, h⟩ := bnd h
      obtain ⟨t0, h5, h6⟩ := bnd h4
      obtain ⟨fs, ts, rfl, h7⟩ := fieldOf_eq h6
      obtain ⟨hof, rfl⟩ := itd h
      refine ⟨F, env, q0, ok, h1, fun v F1 H1 x1 pl => ?_⟩
      obtain ⟨ps, tr, _⟩ := (ok.ext x1).place h5 pl
      obtain ⟨a0, C0, dx, fvs, ps', rfl, f1, f2, e1, e2, ca, ta, rfl, _⟩ := tr.obE
      obtain ⟨v, l⟩ := lookup_some h7
      obtain ⟨c1, c2⟩ := C.ofs _ _ (List.contains_iff_mem.mp hof) C0 ca
      refine ⟨a0, C0, dx, fvs, v, rfl, e1, c1, c2, l, k v F1 H1 x1 ?_⟩
      obtain ⟨r, g1, g2⟩ := pl
      refine ⟨r, g1, ?_⟩
      show walkH H1 r (q0.2 ++ [.fl f']) = _
      rw [walkH_append, g2]
      show (stepH H1 (.ref a0) (.fl f')).bind _ = _
      have : stepH H1 (.ref a0) (.fl f') = some v := by
        show (match H1 a0 with | some (.ins _ _ fs) => fs.lookup f' | _ => none) = _
        rw [e1]; exact l
      rw [this]
      rfl
    · cases h
mutual
theorem Tr.noTup {K : PySem.W.Frag} {F H : Hp} : ∀ {v : V} {t : OT} {ps : List Addr}, Tr K F H v t ps → t.noOb = true → t.noTp = true → ∀ b ∈ ps, ∀ o, H b = some o → ∀ ob xs, o ≠ .frz ob (.tup xs)
  | _, _, _, .lf _, _, _, b, hb => absurd hb (by simp)
  | _, _, _, .dk f h r, _, _, b, hb => fun o e ob xs z => by
    rw [List.mem_singleton] at hb
    subst hb
    rw [h] at e
    cases e
    cases z
  | _, _, _, .ls f h a, n, n', b, hb => fun o e ob xs z => by
    rcases List.mem_cons.mp hb with rfl | hb
    · rw [h] at e
      cases e
      cases z
    · simp only [OT.noOb, OT.noTp, Bool.and_eq_true] at n n'
      exact TrAll.noTup a n.2 n'.2 b hb o e ob xs z
  | _, _, _, .tp f h g a, _, n, b, hb => by simp [OT.noTp] at n
  | _, _, _, .ob _ _ _ _ _ _, n, _, b, hb => by simp [OT.noOb, Kd.isOb] at n
theorem TrAll.noTup {K : PySem.W.Frag} {F H : Hp} : ∀ {vs : List V} {ts : List OT} {ps : List Addr}, TrAll K F H vs ts ps → OT.noObs ts = true → OT.noTps ts = true → ∀ b ∈ ps, ∀ o, H b = some o → ∀ ob xs, o ≠ .frz ob (.tup xs)
  | _, _, _, .nil, _, _, b, hb => absurd hb (by simp)
  | _, _, _, .cons r s, n, n', b, hb => by
    simp only [OT.noObs, OT.noTps, Bool.and_eq_true] at n n'
    rcases List.mem_append.mp hb with hb | hb
    · exact Tr.noTup r n.1 n'.1 b hb
    · exact TrAll.noTup s n.2 n'.2 b hb
end
theorem Tr.lendP {K : PySem.W.Frag} {F F1 H : Hp} {v : V} {t : OT} {ps : List Addr} (a : Tr K F H v t ps) {Z : Prop} (n1 : t.noOb = true) (n2 : Z → t.noTp = true) (s1 : Same F F1) (s2 : Same F1 H) (n : Z → NoTu F F1) : ∃ F2, Same F1 F2 ∧ Same F2 H ∧ (Z → NoTu F F2) ∧ Rp K F2 v t.d := by
  classical
  let P : Addr → Prop := fun b => b ∈ ps
  have fr : Same F1 (coldF F1 H P) := fun b o e => by
    unfold coldF
    split
    · exact s2 _ _ e
    · exact e
  refine ⟨coldF F1 H P, fr, fun b o e => ?_, fun hz b o e => ?_, a.lend (s1.trans fr) n1 fun b hb => if_pos hb⟩
  · unfold coldF at e
    split at e
    · exact e
    · exact s2 _ _ e
  · unfold coldF at e
    split at e
    · rename_i hb
      exact .inr (a.noTup n1 (n2 hz) b hb o e)
    · exact n hz b o e
end Mn
namespace Mn
open PySem PySem.Spec PyProof.Rows L2
section
variable {X : Cx} {tk tv : TE}
def tDT1 (K : PySem.W.Frag) (tk tv : TE) : TE := fun σ H Q => ∀ p o, H p = none → tk σ (upd H p (dtO p o [])) fun x H1 => tv σ H1 fun y H2 => H2 p = some (dtO p o []) ∧ ∃ b k, x = V.ref b ∧ TupN K H2 b (k.map V.int) ∧ ∀ o', Q (.ref p) (upd H2 p (dtO p o' [(k, b, y)]))
theorem pe_dT1 {ek ev : Expr} {pos : Pos} (hu : X.A.units + 1 < cLine) (hk : PE X ek tk) (hv : PE X ev tv) : PE X (.Dict [some ek] [ev] pos) (tDT1 X.K tk tv) := by
  refine ⟨fun pins s σ H Q I h => ?_⟩
  have hn := I.hok.fresh (Nat.le_refl s.heap.objs.size)
  have hs : (s.heap.objs.size == sysModules) = false := beq_eq_false_iff_ne.mpr (Ne.symm (Nat.ne_of_lt I.big))
  have I1 := I.laid (a := s.heap.objs.size) (o := dtO s.heap.objs.size { cls := .type "dict", data := .dict #[] } []) (h' := s.heap.push { cls := .type "dict", data := .dict #[] }) (t' := s.toks) (fun _ _ q => Heap.get?_push_of_some _ q) (Nat.le_refl _)
    (dtO_ok hs (Nat.zero_le _) (Heap.get?_push_size _ rfl) ⟨⟨rfl, rfl, rfl⟩, #[], 0, [], rfl, .nil, rfl, List.nodup_nil⟩)
  have hsh := zip_pairTrees [some ek] [ev] X.env pos rfl rfl
  rw [arm_eval_Dict, hsh, dictDisplay_pairs _ (by simp [pairTrees]) (by simp [pairTrees])]
  refine wpAny_bind (wpAny_standAt (wpAny_bind ?_))
  unfold subDict
  refine wpAny_bind (wpAny_alloc ?_)
  refine wpAny_bind (wpAny_holding ?_)
  rw [if_pos (by simp [pairTrees])]
  refine wpAny_bind ?_
  refine pairTrees_cons_walk (thn (hk.run pins _ σ _ _ I1 (h _ _ hn)) fun u s1 ⟨x, H1, I2, rx, q1⟩ => thn (hv.run pins s1 σ H1 _ I2 q1) fun w2 s2 ⟨y, H2, I3, ry, q2⟩ => pairTrees_nil_walk ?_)
  obtain ⟨e, b, k, ex, tb, q⟩ := q2
  subst ex
  cases rx
  refine wpAny_holding ?_
  obtain ⟨hm, hz, xs, r, dd⟩ := dt_H I3 e (fun x hx => by simp at hx)
  cases r
  rw [List.forIn_cons]
  refine wpAny_bind (wpAny_bind (wpAny_bind (wpAny_dictSet_heap (hsz := by simp) (show X.A.units < cLine by omega) (keyN_is I3 tb) dd fun h' dd' hs' => wpAny_pure ?_)))
  show wpAny _ _ (forIn [] PUnit.unit _) _ _ _
  rw [List.forIn_nil]
  refine wpAny_pure (wpAny_pure (wpAny_pure (wpAny_pure ?_)))
  obtain ⟨o', es, ep, ho', hx, hd, he, _, nd⟩ := dd'
  refine ⟨.ref s.heap.objs.size, _, ?_, rfl, q o'⟩
  refine I3.write (x := s.heap.objs.size) (e := s.heap.objs.size) (by rw [e]; exact True.intro) (.inl rfl) (fun c w hc z => (hs'.2 c hc).trans z) ⟨o', ho'⟩ ?_
  exact dtO_ok hm (by rw [sizeLine_eq]; simp) ho' ⟨hx, es, ep, _, hd, KVx.put (kvs := []) .nil k b ry, he, nd⟩
end
end Mn
namespace Mn
open PySem PySem.Spec PyProof.Rows L2
section
variable {K : PySem.W.Frag} {F H : Hp} {v : V} {r : RV} {nm f : Str}
theorem inm_eq (h : inm r = some nm) : ∃ fs ds, r = .fz (.dict [(.bool true, .list [.str nm, .list fs, .list ds])]) := by
  unfold inm at h
  split at h
  · cases h; exact ⟨_, _, rfl⟩
  · cases h
theorem Rp.insE {fs ds : List PyData} (h : Rp K F v (.dict [(.bool true, .list [.str nm, .list fs, .list ds])])) : ∃ a C dx fvs, v = .ref a ∧ F a = some (.ins C dx fvs) ∧ F dx = some (.own a) ∧ ClsAt K nm C ∧ fs = (fvs.map fun x => x.1).map PyData.str ∧ RpAll K F (fvs.map fun x => x.2) ds := by
  cases h with
  | ins h g q r => exact ⟨_, _, _, _, rfl, h, g, q, rfl, r⟩
theorem lkF_at : ∀ {fvs : List (Str × V)} {ds : List PyData} {d : PyData}, RpAll K F (fvs.map fun x => x.2) ds → lkF ((fvs.map fun x => x.1).map PyData.str) ds f = some d → ∃ v, fvs.lookup f = some v ∧ Rp K F v d
  | [], _, _, _, h => by simp [lkF] at h
  | (g, x) :: r, _, d, .cons a t, h => by
    rw [List.map_cons, List.map_cons] at h
    unfold lkF at h
    rw [List.lookup_cons]
    by_cases e : f = g
    · rw [if_pos e] at h
      cases h
      subst e
      exact ⟨x, by rw [beq_self_eq_true], a⟩
    · rw [if_neg e] at h
      have e2 : (f == g) = false := by
        cases q : f == g with
        | false => rfl
        | true => exact absurd (eq_of_beq q) e
      rw [e2]
      exact lkF_at t h
theorem noF_at : ∀ {fvs : List (Str × V)}, noF f ((fvs.map fun x => x.1).map PyData.str) = true → fvs.lookup f = none
  | [], _ => rfl
  | (g, x) :: r, h => by
    rw [List.map_cons, List.map_cons] at h
    unfold noF at h
    simp only [Bool.and_eq_true, decide_eq_true_eq] at h
    rw [List.lookup_cons]
    have e2 : (f == g) = false := by
      cases q : f == g with
      | false => rfl
      | true => exact absurd (eq_of_beq q) h.1
    rw [e2]
    exact noF_at h.2
theorem lfsD_at : ∀ {vs : List V} {ts : List OT} {ps : List Addr} {ds : List PyData}, TrAll K F H vs ts ps → lfsD ts = some ds → ps = [] ∧ RpAll K F vs ds
  | _, _, _, _, .nil, h => by cases h; exact ⟨rfl, .nil⟩
  | _, t :: ts, _, ds, .cons a b, h => by
    cases t with
    | lf d =>
      obtain ⟨es, h1, rfl⟩ := Option.map_eq_some_iff.mp (show (lfsD ts).map _ = some ds from h)
      obtain ⟨e, r⟩ := lfsD_at b h1
      cases a with
      | lf q => exact ⟨by rw [e]; rfl, .cons q r⟩
    | _ => cases h
theorem mkjD_eq {z : RV × OT} (h : mkjD z = some r) : ∃ nm fs ts ds, z = (.fz .none, .nd (.ob nm fs) ts) ∧ lfsD ts = some ds ∧ r = .fz (insD nm fs ds) := by
  unfold mkjD at h
  split at h
  · obtain ⟨ds, h1, rfl⟩ := Option.map_eq_some_iff.mp h
    exact ⟨_, _, _, ds, rfl, h1, rfl⟩
  · cases h
theorem dT1D_eq {kd d : PyData} (h : dT1D kd d = some r) : ∃ ks, kd = .tuple (ks.map PyData.int) ∧ r = .od (dtD [ks] [d]) := by
  unfold dT1D at h
  split at h
  · rename_i ds d
    obtain ⟨ks, h1, rfl⟩ := Option.map_eq_some_iff.mp h
    obtain rfl := intsOf_eq h1
    exact ⟨ks, rfl, rfl⟩
  · cases h
end
theorem meth_htG {env : Env} {o : Expr} {m : Str} {apos pos : Pos} {es : List Expr} (hbo : baseOk o = true) (hl : (apos.endLine == pos.line) = true) (hn : es.length < 30) (hp : ∀ e ∈ es, plainX e = true) : eval (.Call (.Attribute o m apos) es [] pos) env = (do
      let ov ← eval o env
      standAt apos.atName
      let (f, first) ← holding [ov] (getMethod ov m (do return (← importBound o env).getD true))
      callWith pos f first (backTo pos (starEach es env)) (backToKw pos (keywordEach [] env))) := by
  have pa : ∀ {es : List Expr}, (∀ e ∈ es, plainX e = true) → (backTo pos (starEach es env)).all (fun x => !x.1) = true := fun {es} h => by
    induction es with
    | nil => rfl
    | cons e es ih =>
      rw [star_of (h e (by simp)) es env]
      show (!false && (backTo pos (starEach es env)).all (fun x => !x.1)) = true
      rw [ih fun x hx => h x (List.mem_cons_of_mem _ hx)]
      rfl
  have hf : methodCallForm (es.length + ([] : List Keyword).length) (backTo pos (starEach es env)) (backToKw pos (keywordEach [] env)) = true := by
    unfold methodCallForm
    rw [pa hp]
    have : (backToKw pos (keywordEach [] env)) = [] := rfl
    rw [this]
    simp [hn]
  rw [arm_eval_Call, base_of hbo]
  show (do
    let ov ← eval o env
    standAt apos.atName
    methodCall o m apos pos env ov (es.length + ([] : List Keyword).length) (backTo pos (starEach es env)) (backToKw pos (keywordEach [] env))) = _
  unfold methodCall methodCallPos calleeOf
  rw [hf]
  simp only [hl, Bool.not_true, Bool.false_or, if_true, pure_bind]
section
variable {X : Cx}
def tMthI (X : Cx) (m : Str) (ta : TE) (t : TA) : TE := fun σ H Q => ta σ H fun x H1 => ∃ a C dx fs g, x = .ref a ∧ H1 a = some (.ins C dx fs) ∧ L2.Cls X.K C ∧ L2.Meth X.K C m g ∧ fs.lookup m = none ∧
  ∃ (CX : CXT) (k : Nat) (fd : FuncData) (ps : List Str) (sp : Sp), Room k X.A ∧ Binds X.K fd ps [] ∧ FnOk X.prog X.w X.K X.mg X.base CX k g fd ps sp ∧ (∀ outer H s e s', CX outer H s E0 e s' → False) ∧ t σ H1 fun vs H2 => sp (x :: vs) H2 Q E0
theorem pe_mthI {o : Expr} {m : Str} {apos pos : Pos} {es : List Expr} {ta : TE} {t : TA} (he : PE X o ta) (hbo : baseOk o = true) (hl : (apos.endLine == pos.line) = true) (hn : es.length < 30) (hp : ∀ e ∈ es, plainX e = true) (ha : PA X es t) (h0 : es = [] → ∀ σ H Q, t σ H Q → Q [] H) :
    PE X (.Call (.Attribute o m apos) es [] pos) (tMthI X m ta t) := by
  have ht := meth_htG (env := X.env) (o := o) (m := m) hbo hl hn hp
  refine ⟨fun pins s σ H Q I h => ?_⟩
  cases es with
  | nil =>
    refine PySem.W.methodCall_KW (thn (he.run pins s σ H _ I h) fun u s1 ⟨x, H1, I1, rx, a, C, dx, fs, g, ex, ea, cl, hm, l, CX, k, fd, ps, sp, hr, hb, F, hx, q⟩ => ?_) ht
    subst ex
    obtain rfl : u = Value.ref a := rx
    refine getmeth_ok I1 ea cl hm l ?_
    exact PySem.W.callWith_K0 (first := [.ref a]) I1.kIn hm.kp (run_fn (us := [.ref a]) (vs := [.ref a]) (dvs := []) (ds := []) F hr hb .nil (fun _ _ _ _ _ _ _ h => (hx _ _ _ _ _ h).elim) I1 (.cons rfl .nil) (h0 rfl σ H1 _ q))
  | cons e es =>
    refine PySem.W.methodCall_KW (thn (he.run pins s σ H _ I h) fun u s1 ⟨x, H1, I1, rx, a, C, dx, fs, g, ex, ea, cl, hm, l, CX, k, fd, ps, sp, hr, hb, F, hx, q⟩ => ?_) ht
    subst ex
    obtain rfl : u = Value.ref a := rx
    refine getmeth_ok I1 ea cl hm l ?_
    refine PySem.W.callWith_K (first := [.ref a]) (h₀ := X.base) I1.ok.mod.kin hm.kp (thn (ha.run pos pins s1 σ H1 _ I1 q) fun us s2 ⟨vs, H2, I2, r, q2⟩ => ⟨I2.kIn, ?_⟩) (star_of (hp e (by simp)) es X.env) (plain_any fun x hx => hp x (List.mem_cons_of_mem _ hx))
    exact run_fn (us := .ref a :: us) (vs := .ref a :: vs) (dvs := []) (ds := []) F hr hb .nil (fun _ _ _ _ _ _ _ h => (hx _ _ _ _ _ h).elim) I2 (.cons rfl r) (by rw [List.append_nil]; exact q2)
def rIsj (K : PySem.W.Frag) : List V → Hp → VK → Prop := fun xs H Q => ∃ a C dx fs E b, xs = [V.ref a, .ref E] ∧ H a = some (.ins C dx fs) ∧ IsJ K C E b ∧ Q (.bl b) H
theorem call_isj : CallR X (.builtin "isinstance") (rIsj X.K) := by
  intro pins s σ H xs us Q I r h
  obtain ⟨a, C, dx, fs, E, b, rfl, ea, J, q⟩ := h
  obtain ⟨u1, u2, rfl, r1, r2⟩ := vals2 r
  obtain rfl : u2 = Value.ref E := r2
  exact isinst_ok I r1 (.ins ea J.cl J.ha J.hn J.htk J.hm) J.one fun tk => ⟨.bl b, H, I.tok tk, rfl, q⟩
end
end Mn
namespace Mn
open PySem PySem.Spec PyProof.Rows L2
section
variable {X : Cx} {s : Sx} {c : Cl}
theorem CO.gl (C : CO X s c) {x y : Str} (h : x = y) (g : s.glo x = true) (m : y ∈ bnames) : Gl X y ∧ X.mg y = none := by
  subst h
  exact ⟨C.glo g, C.bn _ m⟩
theorem tst_val {K : PySem.W.Frag} {c : Cl} {e : Ex} {σ : L2.St} {H : Hp} {Q : Bool → Hp → Prop} (h : tT K c e σ H Q) : tB (tE K c e) σ H Q := by
  obtain ⟨F, env, b, ok, h, k⟩ := h
  exact ⟨F, env, _, ok, h, fun v F' H' x w _ => by
    obtain rfl := w.bool
    exact ⟨b, rfl, k F' H' x⟩⟩
theorem pe_callS (C : CO X s c) {f : Nat} {x : Str} {es : Exs} {xs : List Expr} {p pos : Pos} (hf : s.fns[f]? = some x) (hg : s.glo x = true) (hk : okN x = true) (hp : ∀ e ∈ xs, plainX e = true) (ha : PA X xs (tAb X.K c es)) (hl : xs = [] → es = .nil) :
    PE X (.Call (.Name x p) xs [] pos) (tE X.K c (.call f es)) := by
  obtain ⟨np, hnp, ⟨CX, k, fa, fd, ps, hr, hm, hkp, hb, hF, hx⟩⟩ := C.fns f x hf
  have key : ∀ (t : TA), (∀ σ H Q, tAb X.K c es σ H Q → t σ H Q) → ∀ σ H Q, tE X.K c (.call f es) σ H Q →
      tCall (fun vs H Q _ => ∃ F ds r, Same F H ∧ RpAll X.K F vs ds ∧ ds.length = np ∧ c.call f ds = some r ∧ ∀ v F' H', Ext F H F' H' → View X.K F' H' v r → New r v H H' → Q v H') [] E0 t σ H Q := by
    intro t ht σ H Q ⟨F, env, r, ok, h, q⟩
    obtain ⟨⟨ds, b⟩, h1, h2⟩ := bnd (show (evb c env es).bind (fun p => callD (c.call f p.1) p.2 (tpE env es)) = some r from h)
    obtain ⟨h3, h4⟩ := callD_eq h2
    refine ht σ H _ ⟨F, env, ds, b, ok, h1, fun vs F' H' xt w1 w2 => ?_⟩
    simp only [List.append_nil]
    cases b with
    | false =>
      exact ⟨F', ds, r, xt.sub, w2 rfl, hnp ds r h3, h3, fun v F2 H2 x2 w n => q v F2 H2 (xt.trans x2) w fun _ => fun p hp => xt.same.free (n p hp)⟩
    | true =>
      obtain ⟨d, rfl, hs, htp⟩ := h4 rfl
      obtain ⟨F1, s1, s2, nt, w1⟩ := w1
      refine ⟨F1, ds, .fz d, s2, w1, hnp ds _ h3, h3, fun v F2 H2 x2 w n => ?_⟩
      rcases htp with htp | htp
      · obtain ⟨F3, x3, r3⟩ := flat_back xt s1 (nt htp) x2 w.rpF hs
        exact q v F3 H2 x3 (.fz r3) fun _ => newFz
      · obtain ⟨F3, x3, r3⟩ := scal_back xt s1 x2 w.rpF htp
        exact q v F3 H2 x3 (.fz r3) fun _ => newFz
  cases xs with
  | nil =>
    exact PE.imp (pe_call0 (dvs := []) (ds := []) (E := E0) hF hr (C.glo hg) hm hkp hb .nil (fun _ _ _ _ _ _ _ h => (hx _ _ _ _ _ h).elim) (okN1 hk).1) (key tNil fun σ H Q h => by
      obtain ⟨F, env, ds, b, ok, h, k⟩ := h
      obtain rfl := hl rfl
      cases h
      exact k [] F H (.refl ok.sub) ⟨F, Same.refl _, ok.sub, fun _ => NoTu.refl _, .nil⟩ fun _ => .nil)
  | cons e xs =>
    exact PE.imp (pe_call (dvs := []) (ds := []) (E := E0) hF hr (C.glo hg) hm hkp hb .nil (fun _ _ _ _ _ _ _ h => (hx _ _ _ _ _ h).elim) ha (okN1 hk).1 (star_of (hp e (by simp)) xs _) (plain_any fun x hx => hp x (List.mem_cons_of_mem _ hx))) (key _ fun σ H Q h => h)
theorem chks_nil {es : Exs} {s : Sx} (h : chkEs es s [] = true) : es = .nil := by
  cases es with
  | nil => rfl
  | cons _ _ => simp [chkEs] at h
theorem new_back {r : RV} {v : V} {H H' H2 : Hp} (x : Same H H') (n : New r v H' H2) : New r v H H2 := fun p h => x.free (n p h)
theorem two {K : PySem.W.Frag} {a b : Ex} {f : RV → RV → Option RV} {σ : L2.St} {H : Hp} {Q : VK} {F : Hp} {env : Ev} {r : RV} (ok : EnvOk K F H env σ) (h : ((ev c env a).bind fun x => (ev c env b).bind fun y => f x y) = some r)
    (k : ∀ v F' H', Ext F H F' H' → View K F' H' v r → New r v H H' → Q v H') : tOp (r2S K f) (tE K c a) (tE K c b) σ H Q := by
  obtain ⟨x, h1, h⟩ := bnd h
  obtain ⟨y, h2, h⟩ := bnd h
  exact ⟨F, env, x, ok, h1, fun v F1 H1 x1 w1 _ => ⟨F1, env, y, ok.ext x1, h2, fun u F2 H2 x2 w2 _ => ⟨F2, x, y, r, x2.sub, w1.ext x2, w2, h, fun v F3 H3 x3 w3 n => k v F3 H3 (x1.trans (x2.trans x3)) w3 (new_back (x1.trans x2).same n)⟩⟩⟩
theorem cmps {K : PySem.W.Frag} {o : Co} {a b : Ex} {σ : L2.St} {H : Hp} {Q : VK} {F : Hp} {env : Ev} {r : RV} (ok : EnvOk K F H env σ) (h : ((ev c env a).bind fun x => (ev c env b).bind fun y => (cmpD o x.d y.d).map fun k => RV.fz (.bool k)) = some r)
    (k : ∀ v F' H', Ext F H F' H' → View K F' H' v r → New r v H H' → Q v H') : tOp (r2C K (cmpD o)) (tE K c a) (tE K c b) σ H Q := by
  obtain ⟨x, h1, h⟩ := bnd h
  obtain ⟨y, h2, h⟩ := bnd h
  obtain ⟨z, h3, rfl⟩ := mpd h
  exact ⟨F, env, x, ok, h1, fun v F1 H1 x1 w1 _ => ⟨F1, env, y, ok.ext x1, h2, fun u F2 H2 x2 w2 _ => ⟨x.d, y.d, z, (w1.ext x2).rp x2.sub, w2.rp x2.sub, h3, k _ F2 H2 (x1.trans x2) (.fz (.bl z)) newFz⟩⟩⟩
theorem handed {K : PySem.W.Frag} {b : Ex} {σ : L2.St} {H : Hp} {Q : VK} {F : Hp} {env : Ev} {r' : RV} {d : PyData} (ok : EnvOk K F H env σ) (h : ev c env b = some r') (ho : ownD b r' = some d)
    (k : ∀ v F' H', Ext F H F' H' → View K F' H' v (.fz d) → Q v H') : tE K c b σ H Q :=
  ⟨F, env, r', ok, h, fun v F1 H1 x1 w1 n1 => by
    obtain ⟨rfl, F2, x2, w2⟩ := own_rp ho x1 w1 n1
    exact k v F2 H1 x2 (.fz w2)⟩
theorem chain {K : PySem.W.Frag} {o o' : Co} {a b d : Ex} {σ : L2.St} {H : Hp} {Q : VK} {F : Hp} {env : Ev} {r : RV} (ok : EnvOk K F H env σ)
    (h : ((ev c env a).bind fun x => (ev c env b).bind fun y => (cmpD o x.d y.d).bind fun k => if k then (ev c env d).bind fun z => (cmpD o' y.d z.d).map fun k => RV.fz (.bool k) else some (.fz (.bool false))) = some r)
    (k : ∀ v F' H', Ext F H F' H' → View K F' H' v r → New r v H H' → Q v H') : tChain (r2C K (cmpD o)) (r2C K (cmpD o')) (tE K c a) (tE K c b) (tE K c d) σ H Q := by
  obtain ⟨x, h1, h⟩ := bnd h
  obtain ⟨y, h2, h⟩ := bnd h
  obtain ⟨z, h3, h⟩ := bnd h
  refine ⟨F, env, x, ok, h1, fun v F1 H1 x1 w1 _ => ⟨F1, env, y, ok.ext x1, h2, fun u F2 H2 x2 w2 _ => ⟨x.d, y.d, z, (w1.ext x2).rp x2.sub, w2.rp x2.sub, h3, z, rfl, ?_⟩⟩⟩
  cases z with
  | false => cases h; exact iteF (k _ F2 H2 (x1.trans x2) (.fz (.bl _)) newFz)
  | true =>
    obtain ⟨y', h4, h⟩ := bnd (show (ev c env d).bind _ = some r from h)
    obtain ⟨z', h5, rfl⟩ := mpd h
    exact iteT ⟨F2, env, y', ok.ext (x1.trans x2), h4, fun v F3 H3 x3 w3 _ => ⟨y.d, y'.d, z', (w2.ext x3).rp x3.sub, w3.rp x3.sub, h5, k _ F3 H3 (x1.trans (x2.trans x3)) (.fz (.bl _)) newFz⟩⟩
section
variable {X : Cx} {e₁ e₂ e₃ e₄ : Expr} {ta tb tc td : TE} {pos : Pos}
end
def tO (K : PySem.W.Frag) (c : Cl) (e : Ex) : TO := fun σ H Q => ∃ F env o, EnvOk K F H env σ ∧ evo c env e = some o ∧ ∀ F' H', Ext F H F' H' → Q o H'
theorem split_eq {x y r : RV} (h : mtD .split x [y] = some r) : ∃ a b, x = .fz (.str a) ∧ y = .fz (.str b) ∧ (b.length == 0) = false ∧ a.length + 2 ≤ LIM ∧ r = .ol ((Txt.split a b).map PyData.str) := by
  have h : splitD x y = some r := h
  unfold splitD at h
  split at h
  · obtain ⟨⟨g1, g2⟩, rfl⟩ := itd h
    exact ⟨_, _, rfl, rfl, g1, g2, rfl⟩
  · cases h
theorem part_eq {x y r : RV} (h : mtD .partition x [y] = some r) : ∃ a b, x = .fz (.str a) ∧ y = .fz (.str b) ∧ (b.length == 0) = false ∧ a.length ≤ LIM ∧ r = .fz (.tuple [.str (Txt.partition a b).1, .str (Txt.partition a b).2.1, .str (Txt.partition a b).2.2]) := by
  have h : partD x y = some r := h
  unfold partD at h
  split at h
  · obtain ⟨⟨g1, g2⟩, rfl⟩ := itd h
    exact ⟨_, _, rfl, rfl, g1, g2, rfl⟩
  · cases h
theorem join_str {x : RV} {rs : List RV} {r : RV} (h : mtD .join x rs = some r) : ∃ a, x = .fz (.str a) := by
  obtain ⟨y, rfl, h⟩ := mt1_of h (fun e => nomatch e)
  obtain ⟨a, _, e, _⟩ := join_eq h
  exact ⟨a, e⟩
theorem findIdx_facts {ds : List PyData} {d : PyData} {j : Nat} (h : (ds.findIdx? fun z => PyData.eqv z d) = some j) : ∃ z, ds[j]? = some z ∧ PyData.eqv z d = true ∧ ∀ (m : Nat) (z' : PyData), m < j → ds[m]? = some z' → PyData.eqv z' d = false := by
  rw [List.findIdx?_eq_some_iff_getElem] at h
  obtain ⟨h1, h2, h3⟩ := h
  refine ⟨ds[j], List.getElem?_eq_getElem h1, h2, fun m z' hm hz => ?_⟩
  have hl : m < ds.length := by omega
  rw [List.getElem?_eq_getElem hl] at hz
  cases hz
  simpa using h3 m hm
theorem few1 {v : Expr} {cpos : Pos} (h : plainX v = true) (env : Env) : ((backTo cpos (starEach [v] env)).all (fun x => !x.1) && (backToKw cpos (keywordEach [] env)).all (fun x => x.1.isSome)
      && decide ([v].length + ([] : List Keyword).length + (if ([] : List Keyword).isEmpty then 0 else 1) < 30)) = true := by
  rw [star_of h [] env]
  rfl
theorem mt_countD {X : Cx} (hu : X.A.units + 65 < cLine) : MtR X "list.count" (fun x xs H Q => ∃ (a : Addr) (y : V) (d : PyData) (ds : List PyData), x = V.ref a ∧ xs = [y] ∧ Dp X.K H (V.ref a) (.list ds) ∧ Dp X.K H y d ∧
    SeqAt.shaped (.list ds) = true ∧ SeqAt.shaped d = true ∧ Q (.int ((ds.countP fun z => PyData.eqv z d : Nat))) H) := by
  intro pins s σ H x xs v us Q I rx rxs h
  obtain ⟨a, y, d, ds, rfl, rfl, hl, hy, sl, sd, q⟩ := h
  cases rx
  obtain ⟨uy, rfl, ry⟩ := rxs.one
  obtain ⟨bs, r1⟩ := Dp.reads I d y uy hy ry
  have hxs : PyData.canLayAll0 ds = true := SeqAt.canLay_of_shaped sl
  have hroom : X.A.units + 1 + min (PyData.depthAll ds) d.depth < cLine := room_in_shaped sd hu
  cases hl with
  | lst hs ha =>
    obtain ⟨its, rv, p, hlen⟩ := I.list hs
    obtain ⟨as, h4⟩ := Dp.readsAll I ds _ its ha rv
    have hp : PyData.plainAll ds = true := PyData.plain_of_canLay0 (.list ds) hxs
    exact SeqAt.count_list_data p.isList (show ReadsAll s.heap its.toArray.toList ds as from h4) r1 hp (PyData.plain_of_canLay0 d (SeqAt.canLay_of_shaped sd)) hroom ⟨.int _, H, I.tok _, ⟨_, rfl⟩, q⟩
theorem index_eq {x r : RV} {y : RV} (h : mtD .index x [y] = some r) : (∃ a b i rest, x = .fz (.str a) ∧ y = .fz (.str b) ∧ Builtin.Str.occurrences a b 0 a.length 1 = i :: rest ∧ r = .fz (.int (i : Nat))) ∨
    (∃ ds j, x = .fz (.tuple ds) ∧ SeqAt.shaped (.tuple ds) = true ∧ SeqAt.shaped y.d = true ∧ (ds.findIdx? fun z => PyData.eqv z y.d) = some j ∧ r = .fz (.int (j : Nat))) ∨
    (∃ ds j, x.lst = some ds ∧ SeqAt.shaped (.list ds) = true ∧ SeqAt.shaped y.d = true ∧ (ds.findIdx? fun z => PyData.eqv z y.d) = some j ∧ r = .fz (.int (j : Nat))) := by
  have h : indexD x y = some r := h
  unfold indexD at h
  split at h
  · obtain ⟨b, i, rest, e1, e2, e3⟩ := six_eq h
    exact .inl ⟨_, b, i, rest, rfl, e1, e2, e3⟩
  · obtain ⟨h3, h4⟩ := itd' h
    obtain ⟨j, h5, rfl⟩ := mpd h4
    simp only [Bool.and_eq_true] at h3
    exact .inr (.inl ⟨_, j, rfl, h3.1, h3.2, h5, rfl⟩)
  · obtain ⟨ds, h1, h2⟩ := bnd h
    obtain ⟨h3, h4⟩ := itd' h2
    obtain ⟨j, h5, rfl⟩ := mpd h4
    simp only [Bool.and_eq_true] at h3
    exact .inr (.inr ⟨ds, j, h1, h3.1, h3.2, h5, rfl⟩)
def tTs (K : PySem.W.Frag) (c : Cl) (e : Ex) : TT := fun σ H Q => ∃ F env b, EnvOk K F H env σ ∧ evt c env e = some b ∧ ∀ F' H', Ext F H F' H' → Q b H'
theorem ownN_map (s : Sx) : ∀ own : List Nat, (ownN s own).map (·.2) = own
  | [] => rfl
  | i :: r => congrArg (i :: ·) (ownN_map s r)
theorem chkI_plain {it : Itr} {s : Sx} {tg e : Expr} (h : chkI it s tg e = true) : plainX e = true := by
  cases it with
  | ex a => unfold chkI at h; exact chk_plain h
  | _ => unfold chkI at h; first | (cases h; done) | (split at h <;> first | rfl | cases h)
theorem Ext.write {F H F' H' : Hp} {p : Addr} {o : HO} (x : Ext F H F' H') (n : H p = none) (f : F' p = none) : Ext F H F' (upd H' p o) :=
  ⟨x.fr, fun b u e => by
    rw [upd_ne (ne_of_none e f)]
    exact x.sub _ _ e, fun b u e => by
    rw [upd_ne (ne_of_none e n)]
    exact x.same _ _ e, x.new⟩
theorem Ext.out {F H F' H' : Hp} {p : Addr} {o : HO} (x : Ext F H F' H') (f : F p = none) (h : H p = some o) : F' p = none := by
  cases e : F' p with
  | none => rfl
  | some u =>
    rcases x.new _ _ e with z | z
    · rw [f] at z; cases z
    · rw [h] at z; cases z
theorem compL_snoc {f : PyData → Option (Option PyData)} {x : PyData} {o : Option PyData} (hx : f x = some o) : ∀ {xs ds : List PyData}, compL f xs = some ds → compL f (xs ++ [x]) = some (ds ++ o.toList)
  | [], ds, h => by
    cases h
    simp only [List.nil_append, compL, hx, Option.bind_some]
    cases o <;> rfl
  | y :: ys, ds, h => by
    obtain ⟨o', h1, h⟩ := bnd (show (f y).bind _ = some ds from h)
    obtain ⟨r, h2, h⟩ := bnd h
    have ih := compL_snoc hx h2
    have e : compL f (y :: ys ++ [x]) = (f y).bind fun o => (compL f (ys ++ [x])).bind fun r => some (match o with | some y => y :: r | none => r) := rfl
    rw [e, h1, Option.bind_some, ih, Option.bind_some]
    cases h
    cases o' <;> rfl
theorem compL_all {f : PyData → Option (Option PyData)} : ∀ {xs ds : List PyData}, compL f xs = some ds → ∀ (i : Nat) x, xs[i]? = some x → (∃ o, f x = some o) ∧ ∃ es, compL f (xs.take i) = some es
  | [], ds, h, i, x, hx => by simp at hx
  | y :: ys, ds, h, 0, x, hx => by
    obtain ⟨o', h1, h⟩ := bnd (show (f y).bind _ = some ds from h)
    simp at hx
    subst hx
    exact ⟨⟨o', h1⟩, [], rfl⟩
  | y :: ys, ds, h, i + 1, x, hx => by
    obtain ⟨o', h1, h⟩ := bnd (show (f y).bind _ = some ds from h)
    obtain ⟨r, h2, h⟩ := bnd h
    obtain ⟨q1, es, q2⟩ := compL_all h2 i x (by simpa using hx)
    have e : compL f ((y :: ys).take (i + 1)) = (f y).bind fun o => (compL f (ys.take i)).bind fun r => some (match o with | some y => y :: r | none => r) := rfl
    rw [h1, Option.bind_some, q2, Option.bind_some] at e
    exact ⟨q1, _, e⟩
theorem wipe_idem {own : List Nat} {σ : L2.St} : ∀ {vs : List Nat}, (∀ v ∈ vs, v ∈ own) → wipe (wipe σ vs) own = wipe σ own
  | [], _ => rfl
  | v :: vs, h => by
    show wipe ((wipe σ vs).set v none) own = _
    rw [wipe_set (by simpa using h v (by simp))]
    exact wipe_idem fun w hw => h w (List.mem_cons_of_mem _ hw)
structure SndP (X : Cx) (c : Cl) (a : Ex) (e : Expr) : Prop where
  pe : PE X e (tE X.K c a)
  pt : PT X e (tT X.K c a)
  pw : ∀ op vs pos, e = .BoolOp op vs pos → PW X e (tT X.K c a)
theorem mkP {a : Ex} {e : Expr} (h : PE X e (tE X.K c a)) (p : plainT e = true) : SndP X c a e :=
  ⟨h, PT.imp (pt_val h (true_of p _)) fun _ _ _ q => tst_val q, fun op vs pos z => by subst z; cases p⟩
theorem rd_bool {a : Ex} {r : RV} {b : Bool} (h : ownD a r = some (.bool b)) : r = .fz (.bool b) := by
  unfold ownD at h
  split at h
  · cases h
  · cases r <;> simp [RV.d] at h
    subst h
    rfl
theorem tgo {K : PySem.W.Frag} {b : Ex} {σ : L2.St} {H : Hp} {Q : Bool → Hp → Prop} {F : Hp} {env : Ev} {k : Bool} (ok : EnvOk K F H env σ) (h : ((ev c env b).bind fun r => (ownD b r).map RV.fz) = some (.fz (.bool k)))
    (q : ∀ F' H', Ext F H F' H' → Q k H') : tT K c b σ H Q := by
  obtain ⟨r, h1, h2⟩ := bnd h
  obtain ⟨d, h3, h4⟩ := mpd h2
  cases h4
  obtain rfl := rd_bool h3
  exact ⟨F, env, k, ok, h1, q⟩
theorem comp_ok {K : PySem.W.Frag} {a t : Ex} {tg : Tg} {it : Itr} {own : List Nat} {σ : L2.St} {H : Hp} {Q : VK} (ht : tgIn tg own = true) (h : tE K c (.comp a tg it t own) σ H Q) : tLc (tI K c it) (gS K tg) (tTs K c t) (tE K c a) own σ H Q := by
  obtain ⟨F, env, r, ok, h, k⟩ := h
  obtain ⟨items, h1, h⟩ := bnd (show (evi c env it).bind _ = some r by simpa only [ev] using h)
  obtain ⟨ds, h2, h⟩ := bnd h
  obtain ⟨hl, rfl⟩ := itd h
  refine ⟨F, env, items, ok, h1, fun J F1 H1 x1 wd _ D nD => ?_⟩
  let f : PyData → Option (Option PyData) := fun x => (bindT tg (wipeE env own) x).bind fun env' => (evt c env' t).bind fun k => if k then (ev c env' a).bind fun r => (ownD a r).map some else some none
  have h2 : compL f items = some ds := h2
  let Pv : Nat → Hp → Prop := fun i Hc => ∃ Fc acc es, Ext F1 H1 Fc Hc ∧ Hc D = some (.lst acc) ∧ Fc D = none ∧ RpAll K Fc acc es ∧ compL f (items.take i) = some es ∧ es.length ≤ i
  refine ⟨fun i m Hc => m = items.length - i ∧ i ≤ items.length ∧ Pv i Hc, ⟨items.length, by simp, Nat.zero_le _, F1, [], [], Ext.lay0 x1.sub nD, upd_same, x1.sub.free nD, .nil, rfl, Nat.le_refl _⟩, ?_⟩
  rintro i m Hc ⟨rfl, hi, Fc, acc, es, xc, hD, fD, ra, hc, hes⟩
  obtain ⟨w1, w2⟩ := wd Hc Fc xc.same xc.fr xc.sub
  by_cases hlt : i < items.length
  · obtain ⟨go, yl⟩ := w2 i items[i] (by simp [hlt])
    refine .inr ⟨go, Pv (i + 1), fun H' p => ⟨items.length - (i + 1), by omega, rfl, hlt, p⟩, fun x H' y => ?_⟩
    obtain ⟨F3, x3, rp⟩ := yl x H' y
    obtain ⟨⟨o, ho⟩, _⟩ := compL_all h2 i items[i] (by simp [hlt])
    have hsn := compL_snoc ho hc
    have tk : items.take (i + 1) = items.take i ++ [items[i]] := by rw [List.take_add_one, List.getElem?_eq_getElem hlt]; rfl
    rw [← tk] at hsn
    obtain ⟨env', b1, ho⟩ := bnd (show (bindT tg (wipeE env own) items[i]).bind _ = some o from ho)
    obtain ⟨b, b2, ho⟩ := bnd ho
    refine ⟨F3, wipeE env own, items[i], env', (((ok.ext x1).ext xc).ext x3).wipe own, rp, b1, fun σ' hw ok' _ _ => ⟨by rw [hw own ht]; exact wipe_idem (fun _ h => h), F3, env', b, ok', b2, fun F4 H4 x4 => ?_⟩⟩
    have D4 : H4 D = some (.lst acc) := x4.same _ _ (x3.same _ _ hD)
    have f4 : F4 D = none := x4.out (x3.out fD hD) (x3.same _ _ hD)
    cases b with
    | false =>
      cases ho
      refine iteF ⟨F4, acc, es, xc.trans (x3.trans x4), D4, f4, ra.mono (x3.fr.trans x4.fr), ?_, by omega⟩
      rw [hsn]
      simp
    | true =>
      obtain ⟨r', b3, ho⟩ := bnd (show (ev c env' a).bind _ = some o from ho)
      obtain ⟨d, b4, rfl⟩ := mpd ho
      refine iteT ⟨F4, env', r', ok'.ext x4, b3, fun v F5 H5 x5 w5 n5 => ?_⟩
      obtain ⟨_, F6, x6, w6⟩ := own_rp b4 x5 w5 n5
      have D5 : H5 D = some (.lst acc) := x5.same _ _ D4
      have f6 : F6 D = none := x6.out f4 D4
      refine ⟨acc, D5, ?_, F6, acc ++ [v], es ++ [d], ?_, upd_same, f6, (ra.mono ((x3.fr.trans x4.fr).trans x6.fr)).append (.cons w6 .nil), ?_, ?_⟩
      · rw [ra.length]
        exact LIM_lt (by omega)
      · exact (xc.trans (x3.trans (x4.trans x6))).write nD f6
      · rw [hsn]
        rfl
      · rw [List.length_append, List.length_singleton]
        omega
  · have e : i = items.length := by omega
    subst e
    rw [List.take_length, h2] at hc
    cases hc
    exact .inl ⟨w1, k _ Fc Hc (x1.trans xc) (.own fD hD (.lst ra)) fun _ => newOl (x1.same.free nD)⟩
theorem items_cases {r : RV} {items : List PyData} (h : itemsOf r = some items) : (∃ z : Str, r = .fz (.str z) ∧ items = z.cps.toList.map fun c => .str ⟨#[c]⟩) ∨ r.seq = some items := by
  unfold itemsOf at h
  split at h
  · cases h; exact .inl ⟨_, rfl, rfl⟩
  · exact .inr h
theorem seqv2 {K : PySem.W.Frag} {F H F1 H1 : Hp} {e : Ex} {r : RV} {v : V} {ds : List PyData} (x : Ext F H F1 H1) (w : View K F1 H1 v r) (n : isVar e = false → New r v H H1) (hs : r.seq = some ds) :
    ∃ (k : Bool) (a : Addr) (vs : List V), v = .ref a ∧ Sq K k H1 a vs ∧ RpAll K F1 vs ds ∧ ((isVar e && r.isOwn) = false → ∃ F2, Ext F H F2 H1 ∧ Sq K k F2 a vs ∧ RpAll K F2 vs ds) ∧ (k = false → ∃ ds, r = .fz (.tuple ds)) := by
  cases w with
  | fz q =>
    cases q with
    | lst hF ra => cases hs; exact ⟨true, _, _, rfl, SqL.of (x.sub _ _ hF), ra, fun _ => ⟨F1, x, SqL.of hF, ra⟩, fun z => by cases z⟩
    | tup hF ra => cases hs; exact ⟨false, _, _, rfl, Same.sqT x.sub hF.sqT, ra, fun _ => ⟨F1, x, hF.sqT, ra⟩, fun _ => ⟨_, rfl⟩⟩
    | scr hF => cases hs; exact ⟨true, _, _, rfl, x.sub.seq hF, .ofInts _, fun _ => ⟨F1, x, hF, .ofInts _⟩, fun z => by cases z⟩
    | _ => simp [RV.seq] at hs
  | own f h2 q =>
    cases q <;> cases hs
    rename_i p vs ra
    refine ⟨true, _, _, rfl, SqL.of h2, ra, fun hb => ?_, fun z => by cases z⟩
    have hv : isVar e = false := by simpa [RV.isOwn] using hb
    have e2 := n hv _ rfl
    exact ⟨_, x.freeze e2 f h2, SqL.of upd_same, ra.mono (Same.upd f)⟩
theorem wd_of {K : PySem.W.Frag} {F Fg : Hp} {J : It} {n : Nat} {G : Hp → Prop} {Y : Nat → Hp → V → Hp → Prop} {items : List PyData} (W : Walk J n G Y) (hn : n = items.length) (hG : ∀ H2, Same Fg H2 → G H2)
    (hY : ∀ (i : Nat) x H2 F2 H3 d, Same F F2 → Same F2 H2 → Y i H2 x H3 → items[i]? = some d → ∃ F3, Ext F2 H2 F3 H3 ∧ Rp K F3 x d) : WalkD K F Fg J items := by
  intro H2 F2 s1 s2 s3
  subst hn
  refine ⟨W.stops H2 (hG H2 s1), fun i d hd => ?_⟩
  have hi : i < items.length := (List.getElem?_eq_some_iff.mp hd).1
  exact ⟨W.goes i H2 hi (hG H2 s1), fun x H3 y => hY i x H2 F2 H3 d s2 s3 (W.yields i H2 x H3 hi (hG H2 s1) y) hd⟩
theorem wd_list {K : PySem.W.Frag} {F Fg : Hp} {a : Addr} {vs : List V} {ds : List PyData} (g : ∀ H2, Same Fg H2 → SqL K H2 a vs) (ra : RpAll K F vs ds) : WalkD K F Fg (Itl K a) ds :=
  wd_of walk_list ra.length g fun i x H2 F2 H3 d s2 s3 y hd => by
    obtain ⟨rfl, hx⟩ := y
    obtain ⟨d', h1, h2⟩ := ra.get hx
    rw [hd] at h1
    cases h1
    exact ⟨F2, .refl s3, h2.mono s2⟩
theorem wd_tup {K : PySem.W.Frag} {F Fg : Hp} {a : Addr} {vs : List V} {ds : List PyData} (g : ∀ H2, Same Fg H2 → SqT K H2 a vs) (ra : RpAll K F vs ds) : WalkD K F Fg (Itt K a) ds :=
  wd_of walk_tup ra.length g fun i x H2 F2 H3 d s2 s3 y hd => by
    obtain ⟨rfl, hx⟩ := y
    obtain ⟨d', h1, h2⟩ := ra.get hx
    rw [hd] at h1
    cases h1
    exact ⟨F2, .refl s3, h2.mono s2⟩
theorem rp_ints {K : PySem.W.Frag} {F : Hp} : ∀ kvs : List (Int × V), RpAll K F (kvs.map fun x => V.int x.1) ((kvs.map fun x => x.1).map PyData.int)
  | [] => .nil
  | _ :: r => .cons (.int _) (rp_ints r)
theorem rp_keys {K : PySem.W.Frag} {F : Hp} : ∀ {kvs : TK}, KeysN K F kvs → RpAll K F (kvs.map fun x => V.ref x.2.1) ((kvs.map fun x => x.1).map keyT)
  | [], _ => .nil
  | p :: r, h => .cons (.tup (h p (by simp)) (RpAll.ofInts p.1)) (rp_keys fun x hx => h x (by simp [hx]))
theorem zip_fst {α β : Type} : ∀ {xs : List α} {ys : List β}, xs.length = ys.length → (xs.zip ys).map (fun p => p.1) = xs
  | [], [], _ => rfl
  | x :: xs, y :: ys, h => by rw [List.zip_cons_cons, List.map_cons, zip_fst (by simpa using h)]
theorem zip_snd {α β : Type} : ∀ {xs : List α} {ys : List β}, xs.length = ys.length → (xs.zip ys).map (fun p => p.2) = ys
  | [], [], _ => rfl
  | x :: xs, y :: ys, h => by rw [List.zip_cons_cons, List.map_cons, zip_snd (by simpa using h)]
theorem rows_dic {r : RV} {kvs : List (PyData × PyData)} (h : r.rows = some kvs) : ∃ b, r.dic = some ((.none, .bool b) :: kvs) := by
  obtain ⟨d, h1, h2⟩ := bnd h
  unfold dRows at h2
  split at h2
  · rename_i b rest e
    cases h2
    cases e
    exact ⟨b, h1⟩
  · cases h2
theorem View.dx {K : PySem.W.Frag} {F H : Hp} {v : V} {r : RV} {kvs : List (PyData × PyData)} (s : Same F H) (h : View K F H v r) (e : r.rows = some kvs) : ∃ a o ks vs, v = .ref a ∧ DxAt a o ks vs H ∧ RpAll K F ks (kvs.map fun p => p.1) ∧ RpAll K F vs (kvs.map fun p => p.2) ∧ ((r.isOwn = false → DxAt a o ks vs F) ∧ IsDX a H) := by
  obtain ⟨b, hd⟩ := rows_dic e
  cases h with
  | fz q =>
    cases q with
    | dK ha ra =>
      cases hd
      have l := ra.length
      rw [List.length_map] at l
      exact ⟨_, _, _, _, rfl, .inl ⟨_, s _ _ ha, rfl, rfl⟩, by rw [zip_fst (by simpa using l)]; exact rp_ints _, by rw [zip_snd (by simpa using l)]; exact ra, fun _ => .inl ⟨_, ha, rfl, rfl⟩, .inl ⟨_, _, s _ _ ha⟩⟩
    | dT ha kn ra =>
      cases hd
      have l := ra.length
      rw [List.length_map] at l
      exact ⟨_, _, _, _, rfl, .inr ⟨_, s _ _ ha, rfl, rfl⟩, by rw [zip_fst (by simpa using l)]; exact rp_keys kn, by rw [zip_snd (by simpa using l)]; exact ra, fun _ => .inr ⟨_, ha, rfl, rfl⟩, .inr ⟨_, _, s _ _ ha⟩⟩
    | _ => cases hd
  | own f ha q =>
    cases q with
    | dK ra =>
      cases hd
      have l := ra.length
      rw [List.length_map] at l
      exact ⟨_, _, _, _, rfl, .inl ⟨_, ha, rfl, rfl⟩, by rw [zip_fst (by simpa using l)]; exact rp_ints _, by rw [zip_snd (by simpa using l)]; exact ra, fun z => (by cases z), .inl ⟨_, _, ha⟩⟩
    | dT kn ra =>
      cases hd
      have l := ra.length
      rw [List.length_map] at l
      exact ⟨_, _, _, _, rfl, .inr ⟨_, ha, rfl, rfl⟩, by rw [zip_fst (by simpa using l)]; exact rp_keys kn, by rw [zip_snd (by simpa using l)]; exact ra, fun z => (by cases z), .inr ⟨_, _, ha⟩⟩
    | _ => cases hd
theorem dx_all {K : PySem.W.Frag} {F H F1 H1 : Hp} {e : Ex} {r : RV} {v : V} {kvs : List (PyData × PyData)} (x : Ext F H F1 H1) (w : View K F1 H1 v r) (n : isVar e = false → New r v H H1) (hs : r.rows = some kvs) :
    ∃ a o ks vs, v = .ref a ∧ DxAt a o ks vs H1 ∧ RpAll K F1 ks (kvs.map fun p => p.1) ∧ RpAll K F1 vs (kvs.map fun p => p.2) ∧
      ((isVar e && r.isOwn) = false → ∃ F2, Ext F H F2 H1 ∧ DxAt a o ks vs F2 ∧ RpAll K F2 ks (kvs.map fun p => p.1) ∧ RpAll K F2 vs (kvs.map fun p => p.2)) := by
  obtain ⟨a, o, ks, vs, e1, h1, h2, h3, h4, _⟩ := w.dx x.sub hs
  refine ⟨a, o, ks, vs, e1, h1, h2, h3, fun hb => ?_⟩
  by_cases ho : r.isOwn = true
  · have hv : isVar e = false := by
      cases hv : isVar e with
      | false => rfl
      | true => rw [hv, ho] at hb; cases hb
    cases w with
    | fz q => cases ho
    | own f ha q =>
      cases e1
      have e2 : H a = none := n hv a (by
        cases q with
        | on _ _ _ => obtain ⟨b, hd⟩ := rows_dic hs; cases hd
        | _ => exact (rfl : V.ref _ = V.ref _))
      refine ⟨_, x.freeze e2 f ha, h1.same fun u z => ?_, h2.mono (Same.upd f), h3.mono (Same.upd f)⟩
      rw [ha] at z
      rw [upd_same]
      exact z
  · exact ⟨F1, x, h4 (by simpa using ho), h2, h3⟩
theorem wd_x {K : PySem.W.Frag} {F Fg : Hp} {d : Addr} {o : Obj} {vs : List V} {ds : List PyData} (g : ∀ H2, Same Fg H2 → AtO d o H2) (ra : RpAll K F vs ds) : WalkD K F Fg (ItX d o vs) ds :=
  wd_of walk_x ra.length g fun i x H2 F2 H3 d s2 s3 y hd => by
    obtain ⟨rfl, hx⟩ := y
    obtain ⟨d', h1, h2⟩ := ra.get hx
    rw [hd] at h1
    cases h1
    exact ⟨F2, .refl s3, h2.mono s2⟩
theorem wd_str {K : PySem.W.Frag} {F Fg : Hp} (z : Str) : WalkD K F Fg (Its z) (z.cps.toList.map fun c => .str ⟨#[c]⟩) :=
  wd_of walk_str (by simp) (fun _ _ => trivial) fun i x H2 F2 H3 d s2 s3 y hd => by
    obtain ⟨rfl, c, hc, rfl⟩ := y
    rw [List.getElem?_map] at hd
    have : z.cps.toList[i]? = some c := by simpa using hc
    rw [this] at hd
    cases hd
    exact ⟨F2, .refl s3, .str _⟩
theorem range_get {n i j : Nat} (h : (List.range n)[i]? = some j) : j = i := by
  obtain ⟨hi, e⟩ := List.getElem?_eq_some_iff.mp h
  rw [List.getElem_range] at e
  exact e.symm
theorem wd_rng {K : PySem.W.Frag} {F Fg : Hp} (lo : Int) (n : Nat) : WalkD K F Fg (L2.Itr lo n) (rngD lo n) :=
  wd_of walk_range (by simp [rngD]) (fun _ _ => trivial) fun i x H2 F2 H3 d s2 s3 y hd => by
    obtain ⟨rfl, rfl⟩ := y
    unfold rngD at hd
    rw [List.getElem?_map] at hd
    obtain ⟨j, hj, rfl⟩ := mpd hd
    obtain rfl := range_get hj
    exact ⟨F2, .refl s3, .int _⟩
theorem pair_lay {K : PySem.W.Frag} {F2 H2 : Hp} {T : Addr} {ob : Obj} {x y : V} {d e : PyData} (s3 : Same F2 H2) (q : TupO ob) (n : H2 T = none) (r1 : Rp K F2 x d) (r2 : Rp K F2 y e) : ∃ F3, Ext F2 H2 F3 (upd H2 T (.frz ob (.tup [x, y]))) ∧ Rp K F3 (.ref T) (.tuple [d, e]) :=
  ⟨_, Ext.lay s3 n, .tup (TupN.of q upd_same) (RpAll.mono (Same.upd (s3.free n)) (.cons r1 (.cons r2 .nil)))⟩
theorem walk_zipQ {K : PySem.W.Frag} {k1 k2 : Bool} {a b : Addr} {xs ys : List V} : Walk (ItzQ K k1 k2 a b) (min xs.length ys.length) (fun H => Sq K k1 H a xs ∧ Sq K k2 H b ys) (YPairN (fun i => xs[i]?) (fun i => ys[i]?)) := by
  refine ⟨fun i _ hi q => ?_, fun _ q => ⟨xs, ys, q.1, q.2, by omega, by omega, by omega⟩, fun i H v H' _ q y => ?_⟩
  · have h1 : i < xs.length := by omega
    have h2 : i < ys.length := by omega
    exact ⟨xs, ys, xs[i], ys[i], q.1, q.2, by simp [h1], by simp [h2]⟩
  · obtain ⟨T, x, z, h1, h4, h5⟩ := y
    exact ⟨T, x, z, h1, h4 xs q.1, h5 ys q.2⟩
theorem wd_zip {K : PySem.W.Frag} {F Fg : Hp} {k1 k2 : Bool} {a b : Addr} {vs ws : List V} {ds es : List PyData} (g : ∀ H2, Same Fg H2 → Sq K k1 H2 a vs ∧ Sq K k2 H2 b ws) (ra : RpAll K F vs ds) (rb : RpAll K F ws es) : WalkD K F Fg (ItzQ K k1 k2 a b) (zipD ds es) :=
  wd_of walk_zipQ (by simp [zipD, ra.length, rb.length]) g fun i x H2 F2 H3 d s2 s3 y hd => by
    obtain ⟨T, x1, x2, ⟨ob, hob, rfl, n, rfl⟩, h1, h2⟩ := y
    obtain ⟨d1, q1, r1⟩ := ra.get h1
    obtain ⟨d2, q2, r2⟩ := rb.get h2
    unfold zipD at hd
    rw [List.getElem?_zipWith, q1, q2] at hd
    cases hd
    exact pair_lay s3 hob n (r1.mono s2) (r2.mono s2)
theorem enD_get : ∀ (xs : List PyData) (k i : Nat), (enD k xs)[i]? = xs[i]?.map fun x => .tuple [.int ((k + i : Nat) : Int), x]
  | [], k, i => by simp [enD]
  | x :: r, k, 0 => by simp [enD]
  | x :: r, k, i + 1 => by
    simp only [enD, List.getElem?_cons_succ]
    rw [enD_get r (k + 1) i]
    congr 1
    funext y
    rw [show k + 1 + i = k + (i + 1) by omega]
theorem enD_len : ∀ (xs : List PyData) (k : Nat), (enD k xs).length = xs.length
  | [], k => rfl
  | x :: r, k => congrArg (· + 1) (enD_len r (k + 1))
theorem walk_enumQ {K : PySem.W.Frag} {k : Bool} {a : Addr} {xs : List V} : Walk (IteQ K k a) xs.length (fun H => Sq K k H a xs) (YPairN (fun i => some (.int (i : Nat))) (fun i => xs[i]?)) := by
  refine ⟨fun i _ hi q => ⟨xs, xs[i], q, by simp [hi]⟩, fun _ q => ⟨xs, q, rfl⟩, fun i H v H' _ q y => ?_⟩
  obtain ⟨T, x, h1, h4⟩ := y
  exact ⟨T, .int (i : Nat), x, h1, rfl, h4 xs q⟩
theorem wd_enum {K : PySem.W.Frag} {F Fg : Hp} {k : Bool} {a : Addr} {vs : List V} {ds : List PyData} (g : ∀ H2, Same Fg H2 → Sq K k H2 a vs) (ra : RpAll K F vs ds) : WalkD K F Fg (IteQ K k a) (enD 0 ds) :=
  wd_of walk_enumQ (by rw [enD_len]; exact ra.length) g fun i x H2 F2 H3 d s2 s3 y hd => by
    obtain ⟨T, x1, x2, ⟨ob, hob, rfl, n, rfl⟩, h1, h2⟩ := y
    cases h1
    obtain ⟨d2, q2, r2⟩ := ra.get h2
    rw [enD_get, q2] at hd
    cases hd
    rw [Nat.zero_add]
    exact pair_lay s3 hob n (.int _) (r2.mono s2)
theorem items_eq {r : RV} {ds : List PyData} (h : itemsOf r = some ds) : r.seq = some ds ∨ ∃ z, r = .fz (.str z) ∧ ds = z.cps.toList.map fun c => .str ⟨#[c]⟩ := by
  unfold itemsOf at h
  split at h
  · cases h
    exact .inr ⟨_, rfl, rfl⟩
  · exact .inl h
theorem wd_enumT {K : PySem.W.Frag} {F Fg : Hp} (z : Str) : WalkD K F Fg (IteT z) (enD 0 (z.cps.toList.map fun c => .str ⟨#[c]⟩)) :=
  wd_of walk_enumT (by rw [enD_len, List.length_map, Array.length_toList]) (fun _ _ => trivial) fun i x H2 F2 H3 d s2 s3 y hd => by
    obtain ⟨T, x1, x2, ⟨ob, hob, rfl, n, rfl⟩, h1, h2⟩ := y
    cases h1
    have h2 : Option.map _ z.cps[i]? = some x2 := h2
    rw [enD_get, List.getElem?_map, Array.getElem?_toList] at hd
    cases e : z.cps[i]? with
    | none => rw [e] at h2; cases h2
    | some c =>
      rw [e] at h2 hd
      cases h2
      cases hd
      rw [Nat.zero_add]
      exact pair_lay s3 hob n (.int _) (.str _)
theorem Same.sq {K : PySem.W.Frag} {H H' : Hp} {k : Bool} {a : Addr} {xs : List V} (e : Same H H') (h : Sq K k H a xs) : Sq K k H' a xs := by
  cases k
  · exact Same.sqT e h
  · exact e.seq h
theorem InAll.len {K : PySem.W.Frag} {F H : Hp} : ∀ {qs : List Addr} {dss : List (List PyData)}, InAll K F H qs dss → qs.length = dss.length
  | _, _, .nil => rfl
  | _, _, .cons _ _ _ t => congrArg (· + 1) (InAll.len t)
theorem InAll.nth {K : PySem.W.Frag} {F H : Hp} : ∀ {qs : List Addr} {dss : List (List PyData)} {j : Nat} {ds : List PyData}, InAll K F H qs dss → dss[j]? = some ds → ∃ q vs, qs[j]? = some q ∧ F q = none ∧ H q = some (.lst vs) ∧ RpAll K F vs ds
  | _, _, j, ds, .nil, h => by simp at h
  | _, _, 0, ds, .cons f e ra _, h => by simp at h; subst h; exact ⟨_, _, rfl, f, e, ra⟩
  | _, _, j + 1, ds, .cons _ _ _ t, h => by
    obtain ⟨q, vs, h1, h2⟩ := InAll.nth (j := j) t (by simpa using h)
    exact ⟨q, vs, by simpa using h1, h2⟩
theorem InAll.at_ {K : PySem.W.Frag} {F H : Hp} {qs : List Addr} {dss : List (List PyData)} {n : Int} {ds : List PyData} (a : InAll K F H qs dss) (h : atI dss n = some ds) : ∃ q vs, atI (qs.map V.ref) n = some (.ref q) ∧ H q = some (.lst vs) ∧ RpAll K F vs ds := by
  unfold atI at h ⊢
  rw [List.length_map, a.len]
  obtain ⟨j, h1, h2⟩ := bnd h
  obtain ⟨q, vs, h3, h4, h5, h6⟩ := a.nth h2
  refine ⟨q, vs, ?_, h5, h6⟩
  rw [h1]
  show (qs.map V.ref)[j]? = _
  rw [List.getElem?_map, h3]
  rfl
theorem tpE_none {env : Ev} {a : Ex} {as : Exs} (hl : lndOf a = none) (h : tpE env (.cons a as) = false) : tpE env as = false := by
  unfold tpE at h
  rw [hl] at h
  exact h
theorem tpE_lnd {env : Ev} {i : Nat} {as : Exs} {t : OT} (h1 : rootAt env i = some t) (h : tpE env (.cons (.lnd i) as) = false) : t.noTp = true ∧ tpE env as = false := by
  unfold tpE at h
  rw [show lndOf (.lnd i) = some i from rfl] at h
  dsimp only at h
  rw [h1] at h
  simp only [Bool.or_eq_false_iff, Bool.not_eq_false'] at h
  exact h
theorem sndL {X : Cx} {s : Sx} {c : Cl} (C : CO X s c) {a : Ex} {as : Exs} {e : Expr} {es : List Expr} (P : PE X e (tE X.K c a)) (R2 : PA X es (tAb X.K c as)) (hc : chkE a s e = true) (st : starEach (e :: es) X.env = (false, eval e X.env) :: starEach es X.env) : PA X (e :: es) (tAb X.K c (.cons a as)) := by
  cases hl : lndOf a with
  | none =>
    refine PA.imp (pa_cons P R2 st) fun σ H Q ⟨F, env, ds, b, ok, h, k⟩ => ?_
    simp only [evb] at h
    rw [hl] at h
    obtain ⟨r, h1, h⟩ := bnd (show (ev c env a).bind _ = some (ds, b) from h)
    obtain ⟨⟨dr, b'⟩, h3, h⟩ := bnd h
    cases h
    refine ⟨F, env, r, ok, h1, fun v F1 H1 x1 w1 n1 => ?_⟩
    by_cases hb : (isVar a && r.isOwn) = true
    · refine ⟨F1, env, dr, b', ok.ext x1, h3, fun vs F3 H3 x3 w3 w4 => k (v :: vs) F3 H3 (x1.trans x3) (by
        obtain ⟨G1, s1, s2, nt, w3⟩ := w3
        obtain ⟨G2, ⟨s3, _⟩, s4, nt2, w5⟩ := (w1.ext x3).lendZ s1 s2 nt
        exact ⟨G2, s1.trans s3, s4, fun e => nt2 (tpE_none hl e), .cons w5 (w3.mono s3)⟩) fun e => ?_⟩
      rw [hb] at e
      cases e
    · have ho : ownD a r = some r.d := by unfold ownD; rw [if_neg hb]
      obtain ⟨_, F2, x2, w2⟩ := own_rp ho x1 w1 n1
      exact ⟨F2, env, dr, b', ok.ext x2, h3, fun vs F3 H3 x3 w3 w4 => k (v :: vs) F3 H3 (x2.trans x3) (by
        obtain ⟨G1, s1, s2, nt, w3⟩ := w3
        exact ⟨G1, s1, s2, fun e => nt (tpE_none hl e), .cons ((w2.mono x3.fr).mono s1) w3⟩) fun e => by
        have hb' : (isVar a && r.isOwn) = false := by simpa using hb
        rw [hb', Bool.false_or] at e
        exact .cons (w2.mono x3.fr) (w4 e)⟩
  | some i =>
    have ea : a = .lnd i := by
      unfold lndOf at hl
      split at hl
      · cases hl; rfl
      · cases hl
    subst ea
    refine PA.imp (pa_cons (chkV_ok C (show chkV s i e = true by simpa only [chkE] using hc)).1 R2 st) fun σ H Q ⟨F, env, ds, b, ok, h, k⟩ => ?_
    obtain ⟨t, h1, h⟩ := bnd (show (rootAt env i).bind (fun t => if t.noOb then (evb c env as).bind fun p => some (t.d :: p.1, true) else none) = some (ds, b) by simpa only [evb, lndOf] using h)
    obtain ⟨h2, h⟩ := itd' h
    obtain ⟨⟨dr, b'⟩, h3, h⟩ := bnd h
    cases h
    obtain ⟨pw, h4⟩ := rootAt_eq h1
    obtain ⟨v, ps, g1, g2, g3⟩ := ok.tr_.tr _ _ _ h4
    refine ⟨v, g1, F, env, dr, b', ok, h3, fun vs F3 H3 x3 w3 w4 => k (v :: vs) F3 H3 x3 ?_ fun e => by cases e⟩
    obtain ⟨G1, s1, s2, nt, w3⟩ := w3
    obtain ⟨G2, s3, s4, nt2, w5⟩ := (g2.ext x3).lendP (Z := tpE env (.cons (.lnd i) as) = false) h2 (fun e => (tpE_lnd h1 e).1) s1 s2 fun e => nt (tpE_lnd h1 e).2
    exact ⟨G2, s1.trans s3, s4, nt2, .cons w5 (w3.mono s3)⟩
mutual
theorem sndP : ∀ (a : Ex) {X : Cx} {s : Sx} {c : Cl}, CO X s c → ∀ {e : Expr}, chkE a s e = true → SndP X c a e
  | .var i, X, s, c, C, e, h => by
    unfold chkE at h
    split at h
    · refine mkP ?_ rfl
      simp only [Bool.and_eq_true, decide_eq_true_eq] at h
      obtain ⟨⟨h1, h2⟩, h3⟩ := h
      refine PE.imp (pe_var (i := i) (by rw [C.N]; exact h1) (C.vis h2) (okN1 h3).1 (okN1 h3).2) fun σ H Q ⟨F, env, r, ok, h, k⟩ => ?_
      obtain ⟨r', h4, h5⟩ := bnd (show ((env[i]?).join).bind plO = some r by simpa only [ev] using h)
      obtain ⟨rfl, h6⟩ := plO_eq h5
      have h' : env[i]? = some (some r) := by
        cases q : env[i]? with
        | none => rw [q] at h4; cases h4
        | some o => rw [q] at h4; exact congrArg some h4
      obtain ⟨v, h1, h2⟩ := ok.at_ i r h' h6
      exact ⟨v, h1, k v F H (.refl ok.sub) h2 fun z => by cases z⟩
    · cases h
  | .int i, X, s, c, C, e, h => by
    unfold chkE at h
    split at h
    · refine mkP ?_ rfl
      obtain rfl := of_decide_eq_true h
      exact PE.imp pe_int fun σ H Q ⟨F, env, r, ok, h, k⟩ => by cases h; exact k _ F H (.refl ok.sub) (.fz (.int _)) fun _ => newFz
    · cases h
  | .str i, X, s, c, C, e, h => by
    unfold chkE at h
    split at h
    · refine mkP ?_ rfl
      obtain rfl := of_decide_eq_true h
      exact PE.imp pe_str fun σ H Q ⟨F, env, r, ok, h, k⟩ => by cases h; exact k _ F H (.refl ok.sub) (.fz (.str _)) fun _ => newFz
    · cases h
  | .bl i, X, s, c, C, e, h => by
    unfold chkE at h
    split at h
    · refine mkP ?_ rfl
      obtain rfl := of_decide_eq_true h
      exact PE.imp pe_bl fun σ H Q ⟨F, env, r, ok, h, k⟩ => by cases h; exact k _ F H (.refl ok.sub) (.fz (.bl _)) fun _ => newFz
    · cases h
  | .non, X, s, c, C, e, h => by unfold chkE at h; cases h
  | .glb g, X, s, c, C, e, h => by
    unfold chkE at h
    split at h
    · refine mkP ?_ rfl
      simp only [Bool.and_eq_true, decide_eq_true_eq] at h
      obtain ⟨⟨h1, h2⟩, h3⟩ := h
      cases hg : c.glb g with
      | none =>
        refine ⟨fun pins s' σ H Q I h => ?_⟩
        obtain ⟨F, env, r, ok, h, k⟩ := h
        simp [ev, hg] at h
      | some d =>
        obtain ⟨u, v, q1, q2, q3⟩ := C.gls g _ d h1 hg
        refine PE.imp (pe_glob (C.glo h2) q1 q2 (okN1 h3).1) fun σ H Q ⟨F, env, r, ok, h, k⟩ => ?_
        simp only [ev, hg] at h
        cases h
        exact k _ F H (.refl ok.sub) (.fz (q3 F)) fun _ => newFz
    · cases h
  | .bin o a b, X, s, c, C, e, h => by
    unfold chkE at h
    split at h
    · refine mkP ?_ rfl
      simp only [Bool.and_eq_true] at h
      obtain ⟨⟨h1, h2⟩, h3⟩ := h
      obtain rfl := boEq h1
      refine PE.imp (pe_op (r_bin o) (sndP a C h2).pe (sndP b C h3).pe) fun σ H Q ⟨F, env, r, ok, h, k⟩ => ?_
      exact two ok (by simpa only [ev] using h) fun v F' H' x w n => k v F' H' x w fun _ => n
    · cases h
  | .neg a, X, s, c, C, e, h => by unfold chkE at h; cases h
  | .not a, X, s, c, C, e, h => by
    unfold chkE at h
    split at h
    · have P := sndP a C h
      refine ⟨PE.imp (pe_not P.pe) fun σ H Q ⟨F, env, r, ok, h, k⟩ => ?_, PT.imp (pt_not P.pt) fun σ H Q ⟨F, env, b, ok, h, k⟩ => ?_, fun _ _ _ z => nomatch z⟩
      · obtain ⟨i, h1, rfl⟩ := mpd (show ((ev c env a).bind asBool).map (fun b => RV.fz (.bool (!b))) = some r by simpa only [ev] using h)
        obtain ⟨x, h1, h2⟩ := bnd h1
        obtain rfl := asBool_eq h2
        exact ⟨F, env, _, ok, h1, fun v F1 H1 x1 w1 _ => ⟨i, w1.bool, k _ F1 H1 x1 (.fz (.bl _)) fun _ => newFz⟩⟩
      · obtain ⟨i, h1, h2⟩ := mpd (show ((ev c env a).bind asBool).map (fun b => RV.fz (.bool (!b))) = some _ by simpa only [ev] using h)
        cases h2
        obtain ⟨x, h1, h2⟩ := bnd h1
        obtain rfl := asBool_eq h2
        exact ⟨F, env, _, ok, h1, k⟩
    · cases h
  | .one a, X, s, c, C, e, h => by
    unfold chkE at h
    split at h
    · have P := sndP a C h
      have pw : ∀ op x pos, (∃ q : PT X x (tT X.K c a), True) → PW X (.BoolOp op [x] pos) (tT X.K c (.one a)) := fun op x pos ⟨q, _⟩ => by
        have ti : ∀ σ H Q, tT X.K c (.one a) σ H Q → tT X.K c a σ H Q := fun σ H Q ⟨F, env, b, ok, h, k⟩ => tgo ok (by simpa only [ev] using h) k
        cases op
        · exact PW.imp (pw_and1 q) ti
        · exact PW.imp (pw_or1 q) ti
      refine ⟨PE.imp (pe_one P.pe) fun σ H Q ⟨F, env, r, ok, h, k⟩ => ?_, (pw _ _ _ ⟨P.pt, trivial⟩).pt, fun op vs pos z => by cases z; exact pw _ _ _ ⟨P.pt, trivial⟩⟩
      obtain ⟨r', h3, h4⟩ := bnd (show (ev c env a).bind _ = some r by simpa only [ev] using h)
      obtain ⟨d, h5, rfl⟩ := mpd h4
      exact handed ok h3 h5 fun v F2 H2 x2 w2 => k v F2 H2 x2 w2 fun _ => newFz
    · cases h
  | .and a b, X, s, c, C, e, h => by
    unfold chkE at h
    split at h
    · simp only [Bool.and_eq_true] at h
      have P := sndP a C h.1
      have R := sndP b C h.2
      have pw := PW.imp (t' := tT X.K c (.and a b)) (pw_and P.pt (R.pw _ _ _ rfl)) fun σ H Q ⟨F, env, k1, ok, h, k⟩ => by
        obtain ⟨b1, h1, h⟩ := bnd (show ((ev c env a).bind asBool).bind _ = some _ by simpa only [ev] using h)
        obtain ⟨x, h1, h2⟩ := bnd h1
        obtain rfl := asBool_eq h2
        refine ⟨F, env, b1, ok, h1, fun F1 H1 x1 => ?_⟩
        cases b1 with
        | false => cases h; exact iteF (k F1 H1 x1)
        | true => exact iteT (tgo (ok.ext x1) h fun F2 H2 x2 => k F2 H2 (x1.trans x2))
      refine ⟨PE.imp (pe_and P.pe R.pe) fun σ H Q ⟨F, env, r, ok, h, k⟩ => ?_, pw.pt, fun op vs pos z => by cases z; exact pw⟩
      obtain ⟨b1, h1, h⟩ := bnd (show ((ev c env a).bind asBool).bind _ = some r by simpa only [ev] using h)
      obtain ⟨x, h1, h2⟩ := bnd h1
      obtain rfl := asBool_eq h2
      refine ⟨F, env, _, ok, h1, fun v F1 H1 x1 w1 _ => ⟨b1, w1.bool, ?_⟩⟩
      cases b1 with
      | false =>
        cases h
        exact iteF (k _ F1 H1 x1 (.fz (.bl _)) fun _ => newFz)
      | true =>
        obtain ⟨r', h3, h4⟩ := bnd (show (ev c env b).bind _ = some r from h)
        obtain ⟨d, h5, rfl⟩ := mpd h4
        exact iteT (handed (ok.ext x1) h3 h5 fun v F2 H2 x2 w2 => k v F2 H2 (x1.trans x2) w2 fun _ => newFz)
    · cases h
  | .or a b, X, s, c, C, e, h => by
    unfold chkE at h
    split at h
    · simp only [Bool.and_eq_true] at h
      have P := sndP a C h.1
      have R := sndP b C h.2
      have pw := PW.imp (t' := tT X.K c (.or a b)) (pw_or P.pt (R.pw _ _ _ rfl)) fun σ H Q ⟨F, env, k1, ok, h, k⟩ => by
        obtain ⟨b1, h1, h⟩ := bnd (show ((ev c env a).bind asBool).bind _ = some _ by simpa only [ev] using h)
        obtain ⟨x, h1, h2⟩ := bnd h1
        obtain rfl := asBool_eq h2
        refine ⟨F, env, b1, ok, h1, fun F1 H1 x1 => ?_⟩
        cases b1 with
        | true => cases h; exact iteT (k F1 H1 x1)
        | false => exact iteF (tgo (ok.ext x1) h fun F2 H2 x2 => k F2 H2 (x1.trans x2))
      refine ⟨PE.imp (pe_or P.pe R.pe) fun σ H Q ⟨F, env, r, ok, h, k⟩ => ?_, pw.pt, fun op vs pos z => by cases z; exact pw⟩
      obtain ⟨b1, h1, h⟩ := bnd (show ((ev c env a).bind asBool).bind _ = some r by simpa only [ev] using h)
      obtain ⟨x, h1, h2⟩ := bnd h1
      obtain rfl := asBool_eq h2
      refine ⟨F, env, _, ok, h1, fun v F1 H1 x1 w1 _ => ⟨b1, w1.bool, ?_⟩⟩
      cases b1 with
      | true =>
        cases h
        exact iteT (k _ F1 H1 x1 (.fz (.bl _)) fun _ => newFz)
      | false =>
        obtain ⟨r', h3, h4⟩ := bnd (show (ev c env b).bind _ = some r from h)
        obtain ⟨d, h5, rfl⟩ := mpd h4
        exact iteF (handed (ok.ext x1) h3 h5 fun v F2 H2 x2 w2 => k v F2 H2 (x1.trans x2) w2 fun _ => newFz)
    · cases h
  | .cmp o a b, X, s, c, C, e, h => by
    unfold chkE at h
    split at h
    · simp only [Bool.and_eq_true, Bool.not_eq_true'] at h
      obtain ⟨⟨⟨h1, h2⟩, h3⟩, h4⟩ := h
      obtain rfl := cmpIs h1
      have hr := r_cmp (X := X) (by have := C.un; omega) o
      have P := (sndP a C h2).pe
      have R := (sndP b C h3).pe
      refine ⟨PE.imp (pe_cmpR hr P R h4) fun σ H Q ⟨F, env, r, ok, h, k⟩ => ?_, PT.imp (pt_cmpR hr P R h4) fun σ H Q ⟨F, env, b, ok, h, k⟩ => ?_, fun _ _ _ z => nomatch z⟩
      · exact cmps ok (by simpa only [ev] using h) fun v F' H' x w n => k v F' H' x w fun _ => n
      · exact cmps ok (by simpa only [ev] using h) fun v F' H' x w n => ⟨b, w.bool, k F' H' x⟩
    · cases h
  | .chn o o' a b d, X, s, c, C, e, h => by
    unfold chkE at h
    split at h
    · simp only [Bool.and_eq_true, Bool.not_eq_true'] at h
      obtain ⟨⟨⟨⟨⟨h1, h2⟩, h3⟩, h4⟩, h5⟩, h6⟩ := h
      obtain rfl := cmpIs h1
      obtain rfl := cmpIs h2
      have un := C.un
      have hr := r_cmp (X := X) (by omega) o
      have hr' := r_cmp (X := X) (by omega) o'
      have P := (sndP a C h3).pe
      have R := (sndP b C h4).pe
      have S := (sndP d C h5).pe
      refine ⟨PE.imp (pe_chain hr hr' P R S h6) fun σ H Q ⟨F, env, r, ok, h, k⟩ => ?_, PT.imp (pt_chain hr hr' P R S h6) fun σ H Q ⟨F, env, b, ok, h, k⟩ => ?_, fun _ _ _ z => nomatch z⟩
      · exact chain ok (by simpa only [ev] using h) fun v F' H' x w n => k v F' H' x w fun _ => n
      · exact chain ok (by simpa only [ev] using h) fun v F' H' x w n => ⟨b, w.bool, k F' H' x⟩
    · cases h
  | .chn3 o o' o2 a b d d2, X, s, c, C, e, h => by unfold chkE at h; cases h
  | .dsx kvs q, X, s, c, C, e, h => by unfold chkE at h; cases h
  | .dsv k1 k2 a b q, X, s, c, C, e, h => by unfold chkE at h; cases h
  | .isx a D, X, s, c, C, e, h => by unfold chkE at h; cases h
  | .fld a f, X, s, c, C, e, h => by unfold chkE at h; cases h
  | .mkx C1 a, X, s, c, C, e, h => by unfold chkE at h; cases h
  | .gdx g q, X, s, c, C, e, h => by unfold chkE at h; cases h
  | .gin g q neg, X, s, c, C, e, h => by unfold chkE at h; cases h
  | .pth p, X, s, c, C, e, h => by
    have h : chkP p s e = true := by simpa only [chkE] using h
    refine mkP (PE.imp (sndPth p C h) fun σ H Q ⟨F, env, r, ok, h, k⟩ => ?_) (plainT_P h)
    obtain ⟨q, h1, h⟩ := bnd (show (evP c env p).bind _ = some r by simpa only [ev] using h)
    obtain ⟨t, h2, h3⟩ := bnd h
    refine ⟨F, env, q, ok, h1, fun v F1 H1 x1 pl => ?_⟩
    obtain ⟨ps, tr, _⟩ := (ok.ext x1).place h2 pl
    exact k v F1 H1 x1 (tr.view h3) fun z => by cases z
  | .lnd i, X, s, c, C, e, h => by
    unfold chkE at h
    exact mkP (PE.imp (chkV_ok C h).1 fun σ H Q ⟨F, env, r, ok, h, k⟩ => by cases (show (none : Option RV) = some r by simpa only [ev] using h)) (by
      unfold chkV at h
      split at h
      · rfl
      · cases h)
  | .lenP p, X, s, c, C, e, h => by unfold chkE at h; cases h
  | .lenD i, X, s, c, C, e, h => by unfold chkE at h; cases h
  | .lenI i q, X, s, c, C, e, h => by unfold chkE at h; cases h
  | .rvt a, X, s, c, C, e, h => by unfold chkE at h; cases h
  | .jrv a b, X, s, c, C, e, h => by unfold chkE at h; cases h
  | .rvl a, X, s, c, C, e, h => by unfold chkE at h; cases h
  | .sls a lo stp, X, s, c, C, e, h => by unfold chkE at h; cases h
  | .ite t a b, X, s, c, C, e, h => by unfold chkE at h; cases h
  | .tup es, X, s, c, C, e, h => by
    unfold chkE at h
    split at h
    · refine mkP ?_ rfl
      refine PE.imp (pe_tupN (sndEs es C h).1) fun σ H Q ⟨F, env, r, ok, h, k⟩ => ?_
      obtain ⟨ds, h1, h2⟩ := bnd (show (evs c env es).bind _ = some r by simpa only [ev] using h)
      obtain ⟨hl, rfl⟩ := itd h2
      refine ⟨F, env, ds, ok, h1, fun vs F1 H1 x1 w1 => ⟨by rw [w1.length]; exact LIM_ok hl, fun p ob hob n => ?_⟩⟩
      obtain ⟨x2, w2⟩ := viewTup (K := X.K) x1.sub hob n w1
      exact k _ _ _ (x1.trans x2) w2 fun _ => newFz
    · cases h
  | .lst es, X, s, c, C, e, h => by
    unfold chkE at h
    split at h
    · refine mkP ?_ rfl
      refine PE.imp (pe_lst (sndEs es C h).1) fun σ H Q ⟨F, env, r, ok, h, k⟩ => ?_
      obtain ⟨ds, h1, h2⟩ := bnd (show (evs c env es).bind _ = some r by simpa only [ev] using h)
      obtain ⟨hl, rfl⟩ := itd h2
      refine ⟨F, env, ds, ok, h1, fun vs F1 H1 x1 w1 => ⟨by rw [w1.length]; exact LIM_ok hl, fun p n => ?_⟩⟩
      obtain ⟨x2, w2⟩ := viewNew (K := X.K) x1.sub n w1
      exact k _ _ _ (x1.trans x2) w2 fun _ => newOl (x1.same.free n)
    · cases h
  | .call f es, X, s, c, C, e, h => by
    unfold chkE at h
    split at h
    · refine mkP ?_ rfl
      simp only [Bool.and_eq_true, decide_eq_true_eq] at h
      obtain ⟨⟨⟨h1, h2⟩, h3⟩, h4⟩ := h
      exact pe_callS C h1 h2 h3 (chks_plain h4) (sndEs es C h4).2.1 fun e => by subst e; exact chks_nil h4
    · cases h
  | .bi b es, X, s, c, C, e, h => by
    unfold chkE at h
    split at h
    · refine mkP ?_ rfl
      simp only [Bool.and_eq_true, decide_eq_true_eq] at h
      obtain ⟨⟨h1, h2⟩, h3⟩ := h
      cases hb : isIsI b with
      | true =>
        rw [hb, if_pos rfl] at h3
        cases b with
        | isI t =>
          split at h3
          · simp only [Bool.and_eq_true, decide_eq_true_eq] at h3
            obtain ⟨⟨h4, h5⟩, h6⟩ := h3
            obtain ⟨g1, g2⟩ := C.gl h1 h2 (bi_mem (.isI t))
            obtain ⟨g3, g4⟩ := C.gl h4 h5 (ty_mem t)
            subst h1 h4
            obtain ⟨m1, m2⟩ := biN_ok (.isI t)
            obtain ⟨m3, m4⟩ := tyS_ok t
            cases es with
            | nil => simp [chkEs] at h6
            | cons a es =>
              simp only [chkEs, Bool.and_eq_true] at h6
              cases es with
              | cons _ _ => simp [chkEs] at h6
              | nil =>
                refine PE.imp (pe_callB (r_isI t) g1 g2 (by show bootBuiltins "isinstance" = _; decide +kernel) (pa_cons (sndP a C h6.1).pe (pa_cons (pe_bltn g3 g4 (ty_boot t) (v := .ty (tyN t)) rfl m3 m4) pa_nil (by rfl)) (star_of (chk_plain h6.1) _ _)) m1 m2 (star_of (chk_plain h6.1) _ _) (by rfl)) fun σ H Q ⟨F, env, r, ok, h, k⟩ => ?_
                obtain ⟨rs, h1, h2⟩ := bnd (show (evr c env (.cons a .nil)).bind _ = some r by simpa only [ev] using h)
                simp only [evr] at h1
                obtain ⟨x, h3, h4⟩ := bnd h1
                cases h4
                obtain ⟨h5, rfl⟩ := itd (show (if notScr x.d = true then some (RV.fz (.bool (isD t x.d))) else none) = some r from h2)
                exact ⟨F, env, x, ok, h3, fun v F1 H1 x1 w1 _ => ⟨v, x.d, rfl, w1.rp x1.sub, h5, k _ F1 H1 x1 (.fz (.bl _)) fun _ => newFz⟩⟩
          · cases h3
        | _ => cases hb
      | false =>
        rw [hb, if_neg Bool.false_ne_true] at h3
        simp only [Bool.and_eq_true, Bool.not_eq_true'] at h3
        obtain ⟨h3, h4⟩ := h3
        obtain ⟨g1, g2⟩ := C.gl h1 h2 (bi_mem b)
        subst h1
        obtain ⟨m1, m2⟩ := biN_ok b
        rename_i xs _
        cases xs with
        | nil => cases h3
        | cons y ys =>
          have ha := (sndEs es C h4).2.2
          have hp := chks_plain h4
          have st := star_of (hp y (by simp)) ys X.env
          have hr := r_bi (X := X) C.calm b hb
          have fin : ∀ σ H Q, tE X.K c (.bi b es) σ H Q → tCB (rnS X.K (biD b)) (tA X.K c es) σ H Q := fun σ H Q ⟨F, env, r, ok, h, k⟩ => by
            obtain ⟨rs, h1, h2⟩ := bnd (show (evr c env es).bind _ = some r by simpa only [ev] using h)
            exact ⟨F, env, rs, ok, h1, fun vs F1 H1 x1 w1 => ⟨F1, rs, r, x1.sub, w1, h2, fun v F2 H2 x2 w2 n => k v F2 H2 (x1.trans x2) w2 fun _ => new_back x1.same n⟩⟩
          rcases biB b hb with ⟨id, e1, e2⟩ | ⟨T, e1, e2⟩
          · rw [e1] at hr
            exact PE.imp (pe_callB hr g1 g2 e2 ha m1 m2 st (plain_any fun x hx => hp x (List.mem_cons_of_mem _ hx))) fin
          · rw [e1] at hr
            exact PE.imp (pe_callTy hr g1 g2 e2 ha m1 m2 st (plain_any fun x hx => hp x (List.mem_cons_of_mem _ hx))) fin
    · cases h
  | .mt m a es, X, s, c, C, e, h => by
    unfold chkE at h
    split at h
    · refine mkP ?_ rfl
      simp only [Bool.and_eq_true] at h
      obtain ⟨⟨⟨⟨h1, h2⟩, h3⟩, h4⟩, h5⟩ := h
      cases m with
      | join =>
        obtain rfl := of_decide_eq_true h1
        cases es with
        | nil => simp [chkEs] at h5
        | cons b es =>
          simp only [chkEs, Bool.and_eq_true] at h5
          cases es with
          | cons _ _ => simp [chkEs] at h5
          | nil =>
            refine PE.imp (pe_m1 F.slot_str_join F.type_str_join m_join (sndP a C h4).pe (sndP b C h5.1).pe (star_of (chk_plain h5.1) _ _) (base_of h3 _ _ _) h2) fun σ H Q ⟨F, env, r, ok, h, k⟩ => ?_
            obtain ⟨x, h6, h⟩ := bnd (show (ev c env a).bind _ = some r by simpa only [ev] using h)
            obtain ⟨rs, h7, h⟩ := bnd h
            simp only [evr] at h7
            obtain ⟨y, h8, h9⟩ := bnd h7
            cases h9
            obtain ⟨a', rfl⟩ := join_str h
            exact ⟨F, env, _, ok, h6, fun v F1 H1 x1 w1 _ => ⟨⟨a', w1.str⟩, F1, env, y, ok.ext x1, h8, fun u F2 H2 x2 w2 _ => ⟨F2, _, [y], r, x2.sub, w1.ext x2, .cons w2 .nil, h, fun v F3 H3 x3 w3 n => k v F3 H3 (x1.trans (x2.trans x3)) w3 fun _ => new_back (x1.trans x2).same n⟩⟩⟩
      | split =>
        obtain rfl := of_decide_eq_true h1
        cases es with
        | nil => simp [chkEs] at h5
        | cons b es =>
          simp only [chkEs, Bool.and_eq_true] at h5
          cases es with
          | cons _ _ => simp [chkEs] at h5
          | nil =>
            have hpl := chk_plain h5.1
            refine PE.imp (pe_m1 F.slot_str_split F.type_str_split mt_split (sndP a C h4).pe (sndP b C h5.1).pe (star_of hpl _ _) (base_of h3 _ _ _) h2) fun σ H Q ⟨F, env, r, ok, h, k⟩ => ?_
            obtain ⟨x, h6, h⟩ := bnd (show (ev c env a).bind _ = some r by simpa only [ev] using h)
            obtain ⟨rs, h7, h⟩ := bnd h
            simp only [evr] at h7
            obtain ⟨y, h8, h9⟩ := bnd h7
            cases h9
            obtain ⟨a', b', rfl, rfl, g1, g2, rfl⟩ := split_eq h
            exact ⟨F, env, _, ok, h6, fun v F1 H1 x1 w1 _ => ⟨⟨a', w1.str⟩, F1, env, _, ok.ext x1, h8, fun u F2 H2 x2 w2 _ => ⟨a', b', w1.str, by rw [w2.str], g1, LIM_ok g2, fun p n => k _ F2 _ (x1.trans (x2.trans (Ext.lay0 x2.sub n))) (.own (x2.sub.free n) upd_same (.lst (RpAll.ofStrs _))) fun _ b hb => by cases (show V.ref p = V.ref b from hb); exact (x1.trans x2).same.free n⟩⟩⟩
      | partition =>
        obtain rfl := of_decide_eq_true h1
        cases es with
        | nil => simp [chkEs] at h5
        | cons b es =>
          simp only [chkEs, Bool.and_eq_true] at h5
          cases es with
          | cons _ _ => simp [chkEs] at h5
          | nil =>
            have hpl := chk_plain h5.1
            refine PE.imp (pe_m1 F.slot_str_partition F.type_str_partition mt_partN (sndP a C h4).pe (sndP b C h5.1).pe (star_of hpl _ _) (base_of h3 _ _ _) h2) fun σ H Q ⟨F, env, r, ok, h, k⟩ => ?_
            obtain ⟨x, h6, h⟩ := bnd (show (ev c env a).bind _ = some r by simpa only [ev] using h)
            obtain ⟨rs, h7, h⟩ := bnd h
            simp only [evr] at h7
            obtain ⟨y, h8, h9⟩ := bnd h7
            cases h9
            obtain ⟨a', b', rfl, rfl, g1, g2, rfl⟩ := part_eq h
            exact ⟨F, env, _, ok, h6, fun v F1 H1 x1 w1 _ => ⟨⟨a', w1.str⟩, F1, env, _, ok.ext x1, h8, fun u F2 H2 x2 w2 _ => ⟨a', b', w1.str, by rw [w2.str], g1, LIM_ok g2, fun p ob hob n => by
              obtain ⟨x3, w3⟩ := viewTup (K := X.K) x2.sub hob n (ds := [.str (Txt.partition a' b').1, .str (Txt.partition a' b').2.1, .str (Txt.partition a' b').2.2]) (.cons (.str _) (.cons (.str _) (.cons (.str _) .nil)))
              exact k _ _ _ (x1.trans (x2.trans x3)) w3 fun _ => newFz⟩⟩⟩
      | index =>
        obtain rfl := of_decide_eq_true h1
        cases es with
        | nil => simp [chkEs] at h5
        | cons b es =>
          simp only [chkEs, Bool.and_eq_true] at h5
          cases es with
          | cons _ _ => simp [chkEs] at h5
          | nil =>
            have un := C.un
            have hpl := chk_plain h5.1
            refine PE.imp (PE.or (pe_m1 F.slot_str_index F.type_str_index mt_sindex (sndP a C h4).pe (sndP b C h5.1).pe (star_of hpl _ _) (base_of h3 _ _ _) h2)
              (PE.or (pe_bmN PySem.F.slot_tuple_index PySem.F.type_tuple_index (mt_indexN (by omega)) (sndP a C h4).pe (pa_cons (sndP b C h5.1).pe pa_nil (star_of hpl _ _)) (base_of h3 _ _ _) (few1 hpl _) h2 (star_of hpl _ _) (by rfl))
              (pe_bm PySem.F.plainAttrs_list PySem.F.slot_list_index PySem.F.type_list_index (mt_indexD (by omega)) (sndP a C h4).pe (pa_cons (sndP b C h5.1).pe pa_nil (star_of hpl _ _)) (base_of h3 _ _ _) (few1 hpl _) h2 (star_of hpl _ _) (by rfl)))) fun σ H Q ⟨F, env, r, ok, h, k⟩ => ?_
            obtain ⟨x, h6, h⟩ := bnd (show (ev c env a).bind _ = some r by simpa only [ev] using h)
            obtain ⟨rs, h7, h⟩ := bnd h
            simp only [evr] at h7
            obtain ⟨y, h8, h9⟩ := bnd h7
            cases h9
            rcases index_eq h with ⟨a', b', i, rest, rfl, rfl, ho, rfl⟩ | ⟨ds, j, rfl, g2, g3, g4, rfl⟩ | ⟨ds, j, g1, g2, g3, g4, rfl⟩
            · exact .inl ⟨F, env, _, ok, h6, fun v F1 H1 x1 w1 _ => ⟨⟨a', w1.str⟩, F1, env, _, ok.ext x1, h8, fun u F2 H2 x2 w2 _ => ⟨a', b', i, rest, w1.str, by rw [w2.str], ho, k _ F2 H2 (x1.trans x2) (.fz (.int _)) fun _ => newFz⟩⟩⟩
            · refine .inr (.inl ⟨F, env, _, ok, h6, fun v F1 H1 x1 w1 _ => ?_⟩)
              cases w1.rpF with
              | tup ta ra =>
                refine ⟨⟨_, _, rfl, Same.tupN x1.sub ta⟩, F1, env, y, ok.ext x1, h8, fun u F2 H2 x2 w2 _ => ?_⟩
                have rx : Rp X.K H2 (.ref _) (.tuple ds) := Rp.mono x2.sub (Rp.mono x2.fr (.tup ta ra))
                have ry := w2.rp x2.sub
                obtain ⟨z, z1, z2, z3⟩ := findIdx_facts g4
                exact ⟨_, u, y.d, ds, j, z, rfl, rfl, rx.dp (shp g2), ry.dp (shp g3), g2, g3, z1, z2, z3, k _ F2 H2 (x1.trans x2) (.fz (.int _)) fun _ => newFz⟩
            · refine .inr (.inr ⟨F, env, _, ok, h6, fun v F1 H1 x1 w1 _ => ?_⟩)
              obtain ⟨p, vs, rfl, hp, ra⟩ := w1.lstv x1.sub g1
              refine ⟨.inl ⟨rfl, vs, SqL.of hp⟩, F1, env, y, ok.ext x1, h8, fun u F2 H2 x2 w2 _ => ?_⟩
              have rx : Rp X.K H2 (.ref p) (.list ds) := .lst (x2.same _ _ hp) ((ra.mono x2.fr).mono x2.sub)
              have ry := w2.rp x2.sub
              obtain ⟨z, z1, z2, z3⟩ := findIdx_facts g4
              exact ⟨p, u, y.d, ds, j, z, rfl, rfl, rx.dp (shp g2), ry.dp (shp g3), g2, g3, z1, z2, z3, k _ F2 H2 (x1.trans x2) (.fz (.int _)) fun _ => newFz⟩
      | count =>
        obtain rfl := of_decide_eq_true h1
        cases es with
        | nil => simp [chkEs] at h5
        | cons b es =>
          simp only [chkEs, Bool.and_eq_true] at h5
          cases es with
          | cons _ _ => simp [chkEs] at h5
          | nil =>
            have un := C.un
            have hpl := chk_plain h5.1
            refine PE.imp (pe_bm PySem.F.plainAttrs_list PySem.F.slot_list_count PySem.F.type_list_count (mt_countD (by omega)) (sndP a C h4).pe (pa_cons (sndP b C h5.1).pe pa_nil (star_of hpl _ _)) (base_of h3 _ _ _) (few1 hpl _) h2 (star_of hpl _ _) (by rfl)) fun σ H Q ⟨F, env, r, ok, h, k⟩ => ?_
            obtain ⟨x, h6, h⟩ := bnd (show (ev c env a).bind _ = some r by simpa only [ev] using h)
            obtain ⟨rs, h7, h⟩ := bnd h
            simp only [evr] at h7
            obtain ⟨y, h8, h9⟩ := bnd h7
            cases h9
            obtain ⟨ds, g1, g2⟩ := bnd (show (x.lst.bind fun ds => if SeqAt.shaped (.list ds) && SeqAt.shaped y.d then some (RV.fz (.int ((ds.countP fun z => PyData.eqv z y.d : Nat)))) else none) = some r from h)
            obtain ⟨g3, rfl⟩ := itd g2
            rw [Bool.and_eq_true] at g3
            refine ⟨F, env, _, ok, h6, fun v F1 H1 x1 w1 _ => ?_⟩
            obtain ⟨p, vs, rfl, hp, ra⟩ := w1.lstv x1.sub g1
            refine ⟨.inl ⟨rfl, vs, SqL.of hp⟩, F1, env, y, ok.ext x1, h8, fun u F2 H2 x2 w2 _ => ?_⟩
            have rx : Rp X.K H2 (.ref p) (.list ds) := .lst (x2.same _ _ hp) ((ra.mono x2.fr).mono x2.sub)
            have ry := w2.rp x2.sub
            exact ⟨p, u, y.d, ds, rfl, rfl, rx.dp (shp g3.1), ry.dp (shp g3.2), g3.1, g3.2, k _ F2 H2 (x1.trans x2) (.fz (.int _)) fun _ => newFz⟩
      | _ => cases h1
    · rename_i o nm apos x y cpos _
      refine mkP ?_ rfl
      simp only [Bool.and_eq_true] at h
      obtain ⟨⟨⟨⟨h1, h2⟩, h3⟩, h4⟩, h5⟩ := h
      cases m with
      | get =>
        obtain rfl := of_decide_eq_true h1
        cases es with
        | nil => simp [chkEs] at h5
        | cons b es =>
          cases es with
          | nil => simp [chkEs] at h5
          | cons d es =>
          cases es with
          | cons _ _ => simp [chkEs] at h5
          | nil =>
          simp only [chkEs, Bool.and_eq_true] at h5
          obtain ⟨h5, h6, _⟩ := h5
          have un := C.un
          have hp1 := chk_plain h5
          have hp2 := chk_plain h6
          refine PE.imp (pe_bmD PySem.F.slot_dict_get PySem.F.type_dict_get (MtR.or mt_getDK (mt_getTK (by omega))) (sndP a C h4).pe (pa_cons (sndP b C h5).pe (pa_cons (sndP d C h6).pe pa_nil (star_of hp2 _ _)) (star_of hp1 _ _)) (base_of h3 _ _ _) (by rw [star_of hp1, star_of hp2]; rfl) h2 (star_of hp1 _ _) (by rw [star_of hp2]; rfl)) fun σ H Q ⟨F, env, r, ok, h, k⟩ => ?_
          obtain ⟨x, h7, h⟩ := bnd (show (ev c env a).bind _ = some r by simpa only [ev] using h)
          obtain ⟨rs, h8, h⟩ := bnd h
          simp only [evr] at h8
          obtain ⟨y, h9, h8⟩ := bnd h8
          obtain ⟨rs', h10, h8⟩ := bnd h8
          cases h8
          obtain ⟨z, h11, h10⟩ := bnd h10
          cases h10
          have h : (if (y.isOwn || z.isOwn) = true then none else (x.dic.bind fun kvs => dGet kvs y.d).map fun o => RV.fz (o.getD z.d)) = some r := h
          by_cases hb : (y.isOwn || z.isOwn) = true
          · rw [if_pos hb] at h; cases h
          rw [if_neg hb] at h
          have hb : y.isOwn = false ∧ z.isOwn = false := by simpa using hb
          obtain ⟨od, h12, rfl⟩ := mpd h
          obtain ⟨kvs', h13, h14⟩ := bnd h12
          have hr : ∃ kvs, x.rows = some kvs := by
            unfold dGet at h14
            split at h14
            · exact ⟨_, by unfold RV.rows; rw [h13]; rfl⟩
            · exact ⟨_, by unfold RV.rows; rw [h13]; rfl⟩
            · cases h14
          obtain ⟨kvs, hr⟩ := hr
          refine ⟨F, env, x, ok, h7, fun v F1 H1 x1 w1 _ => ?_⟩
          obtain ⟨p, _, _, _, rfl, _, _, _, _, hix⟩ := w1.dx x1.sub hr
          refine ⟨⟨p, rfl, hix⟩, F1, env, y, ok.ext x1, h9, fun u F2 H2 x2 w2 _ => ⟨F2, env, z, (ok.ext x1).ext x2, h11, fun t F3 H3 x3 w3 _ => ?_⟩⟩
          have ry := (w2.ext x3).frz hb.1
          have rz := w3.frz hb.2
          have x13 := x1.trans (x2.trans x3)
          rcases ((w1.ext x2).ext x3).got x3.sub h13 ry h14 with ⟨a', o', kv, i, e1, e2, ha, ro⟩ | ⟨a', o', kv, q, ks, e1, e2, ha, kn, tb, ro⟩
          · refine .inl ⟨a', o', kv, i, t, e1, by rw [e2], ha, ?_⟩
            cases hv : valV kv i with
            | none =>
              rw [hv] at ro
              cases od with
              | none => exact k _ F3 H3 x13 (.fz rz) fun _ => newFz
              | some _ => exact ro.elim
            | some w =>
              rw [hv] at ro
              cases od with
              | none => exact ro.elim
              | some _ => exact k _ F3 H3 x13 (.fz ro) fun _ => newFz
          · refine .inr ⟨a', o', kv, q, ks, t, e1, by rw [e2], ha, kn.mono x3.sub, Same.tupN x3.sub tb, ?_⟩
            cases hv : (valT kv ks).map fun z => z.2 with
            | none =>
              rw [hv] at ro
              cases od with
              | none => exact k _ F3 H3 x13 (.fz rz) fun _ => newFz
              | some _ => exact ro.elim
            | some w =>
              rw [hv] at ro
              cases od with
              | none => exact ro.elim
              | some _ => exact k _ F3 H3 x13 (.fz ro) fun _ => newFz
      | _ => cases h1
    · cases h
  | .idx a i, X, s, c, C, e, h => by
    unfold chkE at h
    split at h
    · refine mkP ?_ rfl
      simp only [Bool.and_eq_true] at h
      have un := C.un
      refine PE.imp (pe_ix (r_ix (by omega)) (sndP a C h.1).pe (sndP i C h.2).pe (ix_of (chk_plain h.2))) fun σ H Q ⟨F, env, r, ok, h, k⟩ => ?_
      exact two ok (by simpa only [ev] using h) fun v F' H' x w n => k v F' H' x w fun _ => n
    · cases h
  | .slc a lo hi, X, s, c, C, e, h => by
    unfold chkE at h
    split at h
    · refine mkP ?_ rfl
      simp only [Bool.and_eq_true] at h
      obtain ⟨⟨h1, h2⟩, h3⟩ := h
      refine PE.imp (pe_slice r_sl (sndP a C h1).pe (sndO lo C h2) (sndO hi C h3)) fun σ H Q ⟨F, env, r, ok, h, k⟩ => ?_
      obtain ⟨x, h4, h⟩ := bnd (show (ev c env a).bind _ = some r by simpa only [ev] using h)
      obtain ⟨l, h5, h⟩ := bnd h
      obtain ⟨u, h6, h⟩ := bnd h
      exact ⟨F, env, x, ok, h4, fun v F1 H1 x1 w1 _ => ⟨F1, env, l, ok.ext x1, h5, fun F2 H2 x2 => ⟨F2, env, u, (ok.ext x1).ext x2, h6, fun F3 H3 x3 =>
        ⟨F3, x, r, x3.sub, (w1.ext x2).ext x3, h, fun v F4 H4 x4 w4 n => k v F4 H4 (x1.trans (x2.trans (x3.trans x4))) w4 fun _ => new_back (x1.trans (x2.trans x3)).same n⟩⟩⟩⟩
    · cases h
  | .emp, X, s, c, C, e, h => by unfold chkE at h; cases h
  | .dnK, X, s, c, C, e, h => by unfold chkE at h; cases h
  | .dnT, X, s, c, C, e, h => by unfold chkE at h; cases h
  | .isj a D, X, s, c, C, e, h => by
    unfold chkE at h
    split at h
    · refine mkP ?_ rfl
      simp only [Bool.and_eq_true, decide_eq_true_eq] at h
      obtain ⟨⟨⟨⟨⟨h1, h2⟩, h3⟩, h4⟩, h5⟩, h6⟩ := h
      obtain ⟨g1, g2⟩ := C.gl h1 h2 (bi_mem (.isI .int))
      subst h1 h3
      rename_i D _ _
      have st := star_of (chk_plain h6)
      have bt : bootBuiltins "isinstance" = some (.builtin "isinstance") := by decide +kernel
      have m12 := biN_ok (.isI .int)
      by_cases hx : ∃ nm b, c.jas.lookup (nm, D) = some b
      · obtain ⟨nm0, b0, hb0⟩ := hx
        obtain ⟨E, d1, _⟩ := C.ja _ _ _ hb0
        refine PE.imp (pe_callB call_isj g1 g2 bt (pa_cons (sndP a C h6).pe (pa_cons (pe_glob (C.glo h4) d1 (v := .ref E) rfl (okN1 h5).1) pa_nil (by rfl)) (st _ _)) m12.1 m12.2 (st _ _) (by rfl)) fun σ H Q ⟨F, env, r, ok, h, k⟩ => ?_
        obtain ⟨r0, e1, h⟩ := bnd (show (ev c env a).bind _ = some r by simpa only [ev] using h)
        obtain ⟨nm, e2, h⟩ := bnd h
        obtain ⟨b, e3, rfl⟩ := mpd h
        refine ⟨F, env, r0, ok, e1, fun v F1 H1 x1 w1 _ => ?_⟩
        obtain ⟨fs, ds, rfl⟩ := inm_eq e2
        cases w1 with
        | own _ _ q => cases q
        | fz rp =>
          obtain ⟨a1, C1, dx, fvs, rfl, q1, q2, q3, q4, q5⟩ := rp.insE
          obtain ⟨E', d2, d3⟩ := C.ja _ _ _ e3
          rw [d1] at d2
          cases d2
          exact ⟨a1, C1, dx, fvs, E, b, rfl, x1.sub _ _ q1, d3 C1 q3, k _ F1 H1 x1 (.fz (.bl _)) fun _ => newFz⟩
      · refine ⟨fun pins s' σ H Q I ⟨F, env, r, ok, h, k⟩ => ?_⟩
        obtain ⟨r0, e1, h⟩ := bnd (show (ev c env a).bind _ = some r by simpa only [ev] using h)
        obtain ⟨nm, e2, h⟩ := bnd h
        obtain ⟨b, e3, _⟩ := mpd h
        exact absurd ⟨nm, b, e3⟩ hx
    · cases h
  | .fjd a f, X, s, c, C, e, h => by
    unfold chkE at h
    split at h
    · refine mkP ?_ rfl
      simp only [Bool.and_eq_true, decide_eq_true_eq] at h
      obtain ⟨⟨h1, h2⟩, h3⟩ := h
      subst h1
      refine PE.imp (L2.pe_fld (sndP a C h3).pe (base_of h2 _ _ _)) fun σ H Q ⟨F, env, r, ok, h, k⟩ => ?_
      obtain ⟨r0, e1, h⟩ := bnd (show (ev c env a).bind _ = some r by simpa only [ev] using h)
      obtain ⟨nm, e2, h⟩ := bnd h
      obtain ⟨e3, h⟩ := itd' h
      obtain ⟨d, e4, rfl⟩ := mpd h
      refine ⟨F, env, r0, ok, e1, fun v F1 H1 x1 w1 _ => ?_⟩
      obtain ⟨fs, ds, rfl⟩ := inm_eq e2
      cases w1 with
      | own _ _ q => cases q
      | fz rp =>
        obtain ⟨a1, C1, dx, fvs, rfl, q1, q2, q3, q4, q5⟩ := rp.insE
        subst q4
        obtain ⟨y, y1, y2⟩ := lkF_at q5 e4
        obtain ⟨cl, na⟩ := C.ofs _ _ (List.contains_iff_mem.mp e3) C1 q3
        exact ⟨a1, C1, dx, fvs, y, rfl, x1.sub _ _ q1, cl, na, y1, k _ F1 H1 x1 (.fz y2) fun _ => newFz⟩
    · cases h
  | .mtj a m es, X, s, c, C, e, h => by
    unfold chkE at h
    split at h
    · refine mkP ?_ rfl
      simp only [Bool.and_eq_true, decide_eq_true_eq] at h
      obtain ⟨⟨⟨⟨⟨h1, h2⟩, h3⟩, h4⟩, h5⟩, h6⟩ := h
      subst h1
      refine PE.imp (pe_mthI (sndP a C h5).pe h4 h2 h3 (chks_plain h6) (sndEs es C h6).1 fun e σ H Q ⟨F, env, ds, ok, h, k⟩ => ?_) fun σ H Q ⟨F, env, r, ok, h, k⟩ => ?_
      · subst e
        obtain rfl := chks_nil h6
        cases h
        exact k [] F H (.refl ok.sub) .nil
      obtain ⟨r0, e1, h⟩ := bnd (show (ev c env a).bind _ = some r by simpa only [ev] using h)
      obtain ⟨nm, e2, h⟩ := bnd h
      obtain ⟨ds, e3, h⟩ := bnd h
      obtain ⟨e4, h⟩ := itd' h
      obtain ⟨sm, e5, h⟩ := bnd h
      refine ⟨F, env, r0, ok, e1, fun v F1 H1 x1 w1 _ => ?_⟩
      obtain ⟨fs, gs, rfl⟩ := inm_eq e2
      cases w1 with
      | own _ _ q => cases q
      | fz rp =>
        obtain ⟨a1, C1, dx, fvs, rfl, q1, q2, q3, q4, q5⟩ := rp.insE
        subst q4
        obtain ⟨CX, kk, g, fd, ps, np, hr, hk, hb, hcl, hnp, hF, hx⟩ := (C.im _ _ _ e5).ex
        obtain ⟨cl, mt⟩ := hcl C1 q3
        refine ⟨a1, C1, dx, fvs, g, rfl, x1.sub _ _ q1, cl, mt, noF_at e4, CX, kk, fd, ps, _, hr, hb, hF, hx, F1, env, ds, ok.ext x1, e3, fun vs F2 H2 x2 w2 => ?_⟩
        exact ⟨F2, _ :: ds, r, x2.sub, .cons (rp.mono x2.fr) w2, hnp _ _ h, h, fun v F3 H3 x3 w3 n => k v F3 H3 (x1.trans (x2.trans x3)) w3 fun _ => new_back (x1.trans x2).same n⟩
    · cases h
  | .mkj f es, X, s, c, C, e, h => by
    unfold chkE at h
    split at h
    · refine mkP ?_ rfl
      simp only [Bool.and_eq_true, decide_eq_true_eq] at h
      obtain ⟨⟨⟨h3, h4⟩, h5⟩, h6⟩ := h
      rename_i y py xs pc
      obtain ⟨ht, np, hnp, ⟨k0, C0, fa, fd, ps, hr, hm, hC, M, hb, F⟩⟩ := C.mkc f y h3
      have hx : Passes (L2.CX X.prog X.w) X (fun _ _ _ => False) := fun pins σ H s e s' I c => passAt (X := X) (W := fun _ _ _ _ => False) (fun _ _ ⟨_, _, _, _, _, _, _, _, _, _, _, _, _, _, _, _, h⟩ => h.elim) σ pins H s e s' I c
      have key : ∀ (t : TA), (∀ σ H Q, tAs X.K c es σ H Q → t σ H Q) → ∀ σ H Q, tE X.K c (.mkj f es) σ H Q → tMake C0 (spT X.K 0 np (fitC (some (y, ("__init__" : Str)))) (c.callt f)) [] (fun _ _ _ => False) t σ H Q := fun t ht' σ H Q ⟨Fh, env, r, ok, h, k⟩ => by
        obtain ⟨ds, g1, h⟩ := bnd (show (evs c env es).bind _ = some r by simpa only [ev] using h)
        obtain ⟨nm, g2, h⟩ := bnd h
        rw [ht] at g2
        cases g2
        obtain ⟨z, g3, h⟩ := bnd h
        obtain ⟨nm2, fs2, ts2, ds2, rfl, l2, rfl⟩ := mkjD_eq h
        refine ht' σ H _ ⟨Fh, env, ds, ok, g1, fun vs F1 H1 x1 w1 => fun a dx na' nd' ne => ?_⟩
        rw [List.append_nil]
        have fa1 := x1.sub.free na'
        have fd1 := x1.sub.free nd'
        have e2 : ∀ b o, F1 b = some o → (L2.upd (L2.upd H1 dx (.own a)) a (.ins C0 dx [])) b = some o := fun b o hb => by
          rw [upd_ne (ne_of_none hb fa1), upd_ne (ne_of_none hb fd1)]
          exact x1.sub _ _ hb
        have er : restT (L2.upd (L2.upd H1 dx (.own a)) a (.ins C0 dx [])) [a, dx] = H1 := by
          funext b
          by_cases hb : b ∈ [a, dx]
          · unfold restT
            rw [if_pos hb]
            simp only [List.mem_cons, List.not_mem_nil, or_false] at hb
            rcases hb with rfl | rfl
            · exact na'.symm
            · exact nd'.symm
          · unfold restT
            rw [if_neg hb]
            simp only [List.mem_cons, List.not_mem_nil, or_false, not_or] at hb
            rw [upd_ne hb.1, upd_ne hb.2]
        have fre : ∀ b, (b ∈ [a, dx] ∨ (L2.upd (L2.upd H1 dx (.own a)) a (.ins C0 dx [])) b = none) → H1 b = none := fun b z => by
          rw [← er]
          unfold restT
          rcases z with z | z
          · rw [if_pos z]
          · split
            · rfl
            · exact z
        refine ⟨F1, .ref a, .nd (.ob y []) [], [a, dx], [], [], [], vs, ds, .fz .none, _, rfl, rfl, e2, ?_, ?_, rfl, ?_, fun n w hw => by simp at hw, w1, hnp _ _ _ _ g3, g3, fun rv F2 H2 qs yx w tu nq hq hp ft => ?_, fun d e => by cases e⟩
        · exact .ob (fvs := []) fa1 fd1 upd_same (by rw [upd_ne ne]; exact upd_same) hC .nil
        · simp only [List.nodup_cons, List.mem_singleton, List.not_mem_nil, not_false_eq_true, List.nodup_nil, and_true]
          exact fun e => ne e.symm
        · show (decide (y = y) && !([] : List Str).contains "__init__") = true
          simp
        · rw [er] at yx
          refine ⟨by cases w.rpF; rfl, ?_⟩
          cases tu with
          | @ob p C' dx' nm fvs ts ps f1 f2 h1 h2 cA tt =>
            obtain ⟨rfl, rp⟩ := lfsD_at tt l2
            have n1 : H1 a = none := fre a (hq a (by simp))
            have n2 : H1 dx' = none := fre dx' (hq dx' (by simp))
            have ne2 : dx' ≠ a := fun e => by rw [e, h1] at h2; cases h2
            have y1 := yx.freeze n1 f1 h1
            have y2 := y1.freeze n2 (by rw [upd_ne ne2]; exact f2) h2
            refine k _ _ H2 (x1.trans y2) (.fz (Rp.ins (by rw [upd_ne (Ne.symm ne2)]; exact upd_same) upd_same cA (rp.mono (Same.trans (Same.upd f1) (Same.upd (by rw [upd_ne ne2]; exact f2)))))) fun _ => newFz
      cases xs with
      | nil =>
        have : es = .nil := chks_nil h6
        subst this
        exact PE.imp (pe_make0 (dvs := []) (ds := []) (E := fun _ _ _ => False) M F hr (C.glo h4) hm hb .nil hx (okN1 h5).1) (key tNil fun σ H Q ⟨F, env, ds, ok, g, k⟩ => by
          cases g
          exact k [] F H (.refl ok.sub) .nil)
      | cons e xs =>
        have hp := chks_plain h6
        exact PE.imp (pe_make (dvs := []) (ds := []) (E := fun _ _ _ => False) M F hr (C.glo h4) hm hb .nil hx (sndEs es C h6).1 (okN1 h5).1 (star_of (hp e (by simp)) xs _) (plain_any fun x hx => hp x (List.mem_cons_of_mem _ hx))) (key _ fun σ H Q h => h)
    · cases h
  | .dT1 q v, X, s, c, C, e, h => by
    unfold chkE at h
    split at h
    · refine mkP ?_ rfl
      simp only [Bool.and_eq_true] at h
      have un := C.un
      refine PE.imp (pe_dT1 (by omega) (sndP q C h.1).pe (sndP v C h.2).pe) fun σ H Q ⟨F, env, r, ok, h, k⟩ p o n => ?_
      obtain ⟨x, e1, h⟩ := bnd (show (ev c env q).bind _ = some r by simpa only [ev] using h)
      obtain ⟨kd, e2, h⟩ := bnd h
      obtain ⟨y, e3, h⟩ := bnd h
      obtain ⟨d, e4, h⟩ := bnd h
      have x0 : Ext F H F (upd H p (dtO p o [])) := Ext.lay0 ok.sub n
      have ok1 := ok.ext x0
      refine handed ok1 e1 e2 fun v1 F1 H1 x1 w1 => handed (ok1.ext x1) e3 e4 fun v2 F2 H2 x2 w2 => ?_
      obtain ⟨ks, rfl, rfl⟩ := dT1D_eq h
      cases w1 with
      | own _ _ q => cases q
      | fz rp =>
        cases w2 with
        | own _ _ q => cases q
        | fz rp2 =>
          cases rp with
          | @tup b _ _ ta rt =>
            obtain rfl := rt.ints
            have x3 := x1.trans x2
            have f2 : F2 p = none := x3.away (ok.sub.free n) upd_same
            refine ⟨x3.same _ _ upd_same, b, ks, rfl, Same.tupN x2.sub (Same.tupN x2.fr ta), fun o' => ?_⟩
            refine k _ F2 _ ⟨x3.fr, fun c oo hc => ?_, fun c oo hc => ?_, fun c oo hc => ?_⟩ (.own f2 upd_same (.dT (kvs := [(ks, b, v2)]) (fun z hz => ?_) (.cons rp2 .nil))) fun _ c hc => ?_
            · rw [upd_ne (ne_of_none hc f2)]; exact x3.sub _ _ hc
            · rw [upd_ne (ne_of_none hc n)]; exact x3.same _ _ (by rw [upd_ne (ne_of_none hc n)]; exact hc)
            · rcases x3.new c oo hc with z | z
              · exact .inl z
              · exact .inr (by
                  rw [upd_ne (fun e => by subst e; rw [upd_same] at z; cases z)] at z
                  exact z)
            · simp only [List.mem_singleton] at hz
              subst hz
              exact Same.tupN x2.fr ta
            · cases (show V.ref p = V.ref c from hc); exact n
    · cases h
  | .sumv a, X, s, c, C, e, h => by unfold chkE at h; cases h
  | .dzp a b, X, s, c, C, e, h => by unfold chkE at h; cases h
  | .comp a tg it t own, X, s, c, C, e, h => by
    unfold chkE at h
    split at h
    · refine mkP ?_ rfl
      simp only [Bool.and_eq_true, decide_eq_true_eq] at h
      obtain ⟨⟨⟨⟨⟨⟨h0, h1⟩, h2⟩, h3⟩, h4⟩, h5⟩, h6⟩ := h
      subst h0
      refine PE.imp (pe_lc (g := gS X.K tg) (tt := tTs X.K c t) (te := tE X.K c a) C.calm C.nd (sndI it C h3) (blkOk_by (own := ownN s own) (by rw [C.N, C.sc]; exact h1)) (fun s1 H A cl fp => pg_tg C.blk h4) (fun s1 H A cl fp => sndTs t C.blk h6) (fun s1 H A cl fp => (sndP a C.blk h5).pe) (set_of (chkI_plain h3) _)) fun σ H Q h => ?_
      rw [ownN_map]
      exact comp_ok h2 h
    · cases h
theorem sndO : ∀ (a : Ex) {X : Cx} {s : Sx} {c : Cl}, CO X s c → ∀ {e : Option Expr}, chkO a s e = true → PO X e (tO X.K c a)
  | .emp, X, s, c, C, e, h => by
    unfold chkO at h
    split at h
    · exact ⟨fun pins s' σ H Q I ⟨F, env, o, ok, h, k⟩ => by
        cases h
        exact po_none.run pins s' σ H Q I (k F H (.refl ok.sub))⟩
    · cases h
  | .one a, X, s, c, C, e, h => by
    unfold chkO at h
    split at h
    · have q := po_some (sndP a C h).pe
      exact ⟨fun pins s' σ H Q I ⟨F, env, o, ok, h, k⟩ => by
        obtain ⟨i, h1, rfl⟩ := mpd h
        obtain ⟨r, h1, h2⟩ := bnd h1
        obtain rfl := asInt_eq h2
        exact q.run pins s' σ H Q I ⟨F, env, _, ok, h1, fun v F1 H1 x1 w1 _ => ⟨i, w1.int, k F1 H1 x1⟩⟩⟩
    · cases h
  | .var _, _, _, _, _, _, h | .int _, _, _, _, _, _, h | .str _, _, _, _, _, _, h | .bl _, _, _, _, _, _, h | .non, _, _, _, _, _, h | .glb _, _, _, _, _, _, h | .bin _ _ _, _, _, _, _, _, h | .neg _, _, _, _, _, _, h | .not _, _, _, _, _, _, h
  | .and _ _, _, _, _, _, _, h | .or _ _, _, _, _, _, _, h | .cmp _ _ _, _, _, _, _, _, h | .chn _ _ _ _ _, _, _, _, _, _, h | .chn3 _ _ _ _ _ _ _, _, _, _, _, _, h | .dsx _ _, _, _, _, _, _, h | .dsv _ _ _ _ _, _, _, _, _, _, h | .isx _ _, _, _, _, _, _, h | .fld _ _, _, _, _, _, _, h | .mkx _ _, _, _, _, _, _, h | .gdx _ _, _, _, _, _, _, h | .gin _ _ _, _, _, _, _, _, h | .lenD _, _, _, _, _, _, h | .lenI _ _, _, _, _, _, _, h | .rvt _, _, _, _, _, _, h | .jrv _ _, _, _, _, _, _, h | .rvl _, _, _, _, _, _, h | .sls _ _ _, _, _, _, _, _, h | .ite _ _ _, _, _, _, _, _, h | .tup _, _, _, _, _, _, h | .lst _, _, _, _, _, _, h | .call _ _, _, _, _, _, _, h
  | .bi _ _, _, _, _, _, _, h | .mt _ _ _, _, _, _, _, _, h | .idx _ _, _, _, _, _, _, h | .slc _ _ _, _, _, _, _, _, h | .comp _ _ _ _ _, _, _, _, _, _, h | .dnK, _, _, _, _, _, h | .dnT, _, _, _, _, _, h | .pth _, _, _, _, _, _, h | .lenP _, _, _, _, _, _, h | .lnd _, _, _, _, _, _, h | .sumv _, _, _, _, _, _, h | .dzp _ _, _, _, _, _, _, h | .isj _ _, _, _, _, _, _, h | .fjd _ _, _, _, _, _, _, h | .mtj _ _ _, _, _, _, _, _, h | .mkj _ _, _, _, _, _, _, h | .dT1 _ _, _, _, _, _, _, h => by unfold chkO at h; cases h
theorem sndTs : ∀ (a : Ex) {X : Cx} {s : Sx} {c : Cl}, CO X s c → ∀ {e : List Expr}, chkT a s e = true → PTs X e (tTs X.K c a)
  | .emp, X, s, c, C, e, h => by
    unfold chkT at h
    split at h
    · exact ⟨fun pins s' σ H Q I ⟨F, env, o, ok, h, k⟩ => by
        cases h
        exact pts_nil.run pins s' σ H Q I (k F H (.refl ok.sub))⟩
    · cases h
  | .one a, X, s, c, C, e, h => by
    unfold chkT at h
    split at h
    · have q := pts_one (sndP a C h).pt
      exact ⟨fun pins s' σ H Q I ⟨F, env, o, ok, h, k⟩ => by
        obtain ⟨r, h1, h2⟩ := bnd h
        obtain rfl := asBool_eq h2
        exact q.run pins s' σ H Q I ⟨F, env, _, ok, h1, k⟩⟩
    · cases h
  | .var _, _, _, _, _, _, h | .int _, _, _, _, _, _, h | .str _, _, _, _, _, _, h | .bl _, _, _, _, _, _, h | .non, _, _, _, _, _, h | .glb _, _, _, _, _, _, h | .bin _ _ _, _, _, _, _, _, h | .neg _, _, _, _, _, _, h | .not _, _, _, _, _, _, h
  | .and _ _, _, _, _, _, _, h | .or _ _, _, _, _, _, _, h | .cmp _ _ _, _, _, _, _, _, h | .chn _ _ _ _ _, _, _, _, _, _, h | .chn3 _ _ _ _ _ _ _, _, _, _, _, _, h | .dsx _ _, _, _, _, _, _, h | .dsv _ _ _ _ _, _, _, _, _, _, h | .isx _ _, _, _, _, _, _, h | .fld _ _, _, _, _, _, _, h | .mkx _ _, _, _, _, _, _, h | .gdx _ _, _, _, _, _, _, h | .gin _ _ _, _, _, _, _, _, h | .lenD _, _, _, _, _, _, h | .lenI _ _, _, _, _, _, _, h | .rvt _, _, _, _, _, _, h | .jrv _ _, _, _, _, _, _, h | .rvl _, _, _, _, _, _, h | .sls _ _ _, _, _, _, _, _, h | .ite _ _ _, _, _, _, _, _, h | .tup _, _, _, _, _, _, h | .lst _, _, _, _, _, _, h | .call _ _, _, _, _, _, _, h
  | .bi _ _, _, _, _, _, _, h | .mt _ _ _, _, _, _, _, _, h | .idx _ _, _, _, _, _, _, h | .slc _ _ _, _, _, _, _, _, h | .comp _ _ _ _ _, _, _, _, _, _, h | .dnK, _, _, _, _, _, h | .dnT, _, _, _, _, _, h | .pth _, _, _, _, _, _, h | .lenP _, _, _, _, _, _, h | .lnd _, _, _, _, _, _, h | .sumv _, _, _, _, _, _, h | .dzp _ _, _, _, _, _, _, h | .isj _ _, _, _, _, _, _, h | .fjd _ _, _, _, _, _, _, h | .mtj _ _ _, _, _, _, _, _, h | .mkj _ _, _, _, _, _, _, h | .dT1 _ _, _, _, _, _, _, h => by unfold chkT at h; cases h
theorem sndEs : ∀ (as : Exs) {X : Cx} {s : Sx} {c : Cl}, CO X s c → ∀ {es : List Expr}, chkEs as s es = true → PA X es (tAs X.K c as) ∧ PA X es (tAb X.K c as) ∧ PA X es (tA X.K c as)
  | .nil, X, s, c, C, es, h => by
    unfold chkEs at h
    split at h
    · refine ⟨PA.imp pa_nil fun σ H Q ⟨F, env, ds, ok, h, k⟩ => ?_, PA.imp pa_nil fun σ H Q ⟨F, env, ds, b, ok, h, k⟩ => ?_, PA.imp pa_nil fun σ H Q ⟨F, env, ds, ok, h, k⟩ => ?_⟩
      · cases h; exact k [] F H (.refl ok.sub) .nil
      · cases h; exact k [] F H (.refl ok.sub) ⟨F, Same.refl _, ok.sub, fun _ => NoTu.refl _, .nil⟩ fun _ => .nil
      · cases h; exact k [] F H (.refl ok.sub) .nil
    · cases h
  | .cons a as, X, s, c, C, es, h => by
    unfold chkEs at h
    split at h
    · simp only [Bool.and_eq_true] at h
      have P := (sndP a C h.1).pe
      obtain ⟨R1, R2, R3⟩ := sndEs as C h.2
      have st := fun xs => star_of (chk_plain h.1) xs X.env
      refine ⟨PA.imp (pa_cons P R1 (st _)) fun σ H Q ⟨F, env, ds, ok, h, k⟩ => ?_, sndL C P R2 h.1 (st _), PA.imp (pa_cons P R3 (st _)) fun σ H Q ⟨F, env, ds, ok, h, k⟩ => ?_⟩
      · obtain ⟨r, h1, h⟩ := bnd (show (ev c env a).bind _ = some ds by simpa only [evs] using h)
        obtain ⟨d, h2, h⟩ := bnd h
        obtain ⟨dr, h3, h⟩ := bnd h
        cases h
        refine ⟨F, env, r, ok, h1, fun v F1 H1 x1 w1 n1 => ?_⟩
        obtain ⟨_, F2, x2, w2⟩ := own_rp h2 x1 w1 n1
        exact ⟨F2, env, dr, ok.ext x2, h3, fun vs F3 H3 x3 w3 => k (v :: vs) F3 H3 (x2.trans x3) (.cons (w2.mono x3.fr) w3)⟩
      · obtain ⟨r, h1, h⟩ := bnd (show (ev c env a).bind _ = some ds by simpa only [evr] using h)
        obtain ⟨dr, h3, h⟩ := bnd h
        cases h
        exact ⟨F, env, r, ok, h1, fun v F1 H1 x1 w1 n1 => ⟨F1, env, dr, ok.ext x1, h3, fun vs F3 H3 x3 w3 => k (v :: vs) F3 H3 (x1.trans x3) (.cons (w1.ext x3) w3)⟩⟩
    · cases h
theorem sndI : ∀ (it : Itr) {X : Cx} {s : Sx} {c : Cl}, CO X s c → ∀ {tg e : Expr}, chkI it s tg e = true → PI X tg e (tI X.K c it)
  | .ex a, X, s, c, C, tg, e, h => by
    unfold chkI at h
    have P := (sndP a C h).pe
    refine PI.imp (PI.or (pi_keysX P) (PI.or (pi_list P) (PI.or (pi_tup P) (pi_str P)))) fun σ H R ⟨F, env, items, ok, h, k⟩ => ?_
    obtain ⟨r, h1, h2⟩ := bnd (show (ev c env a).bind itemsX = some items by simpa only [evi] using h)
    have hb : borI c env (.ex a) = false → (isVar a && r.isOwn) = false := fun e => by
      simpa [borI, h1] using e
    unfold itemsX at h2
    split at h2
    · rename_i kvs hr
      cases h2
      refine .inl ⟨F, env, r, ok, h1, fun v F1 H1 x1 w1 n1 => ?_⟩
      obtain ⟨d, o, ks, vs, rfl, g1, g2, g3, g4⟩ := dx_all x1 w1 n1 hr
      refine ⟨d, o, ks, vs, rfl, g1, k _ F1 H1 x1 (wd_x (fun H2 q => (g1.same fun u z => q _ _ z).atO) g2) fun e => ?_⟩
      obtain ⟨F2, x2, y1, y2, y3⟩ := g4 (hb e)
      exact ⟨F2, x2, wd_x (fun H2 q => (y1.same fun u z => q _ _ z).atO) y2⟩
    refine .inr ?_
    rcases items_cases h2 with ⟨z, rfl, rfl⟩ | hs
    · exact .inr (.inr ⟨F, env, _, ok, h1, fun v F1 H1 x1 w1 _ => ⟨z, w1.str, k _ F1 H1 x1 (wd_str z) fun _ => ⟨F1, x1, wd_str z⟩⟩⟩)
    · by_cases ht : ∃ ds, r = .fz (.tuple ds)
      · obtain ⟨ds, rfl⟩ := ht
        refine .inr (.inl ⟨F, env, _, ok, h1, fun v F1 H1 x1 w1 n1 => ?_⟩)
        cases w1.rpF with
        | tup ta ra =>
          cases hs
          exact ⟨_, rfl, ⟨_, Same.sqT x1.sub ta.sqT⟩, k _ F1 H1 x1 (wd_tup (fun H2 q => Same.sqT q (Same.sqT x1.sub ta.sqT)) ra) fun _ => ⟨F1, x1, wd_tup (fun H2 q => Same.sqT q ta.sqT) ra⟩⟩
      · refine .inl ⟨F, env, r, ok, h1, fun v F1 H1 x1 w1 n1 => ?_⟩
        obtain ⟨kd, p, vs, rfl, q1, q2, q3, q4⟩ := seqv2 x1 w1 n1 hs
        cases kd with
        | false => exact absurd (q4 rfl) ht
        | true => exact ⟨p, rfl, ⟨vs, q1⟩, k _ F1 H1 x1 (wd_list (fun H2 q => q.seq q1) q2) fun e => by
            obtain ⟨F2, x2, z1, z2⟩ := q3 (hb e)
            exact ⟨F2, x2, wd_list (fun H2 q => q.seq z1) z2⟩⟩
  | .its a, X, s, c, C, tg, e, h => by unfold chkI at h; cases h
  | .vals a, X, s, c, C, tg, e, h => by unfold chkI at h; cases h
  | .exD i k, X, s, c, C, tg, e, h => by unfold chkI at h; cases h
  | .zipD i k j l, X, s, c, C, tg, e, h => by unfold chkI at h; cases h
  | .r1 a, X, s, c, C, tg, e, h => by
    unfold chkI at h
    split at h
    · simp only [Bool.and_eq_true, decide_eq_true_eq] at h
      obtain ⟨⟨h1, h2⟩, h3⟩ := h
      obtain ⟨g1, g2⟩ := C.gl h1 h2 (by decide +kernel)
      subst h1
      have st := star_of (chk_plain h3) [] X.env
      refine PI.imp (pi_range1 g1 g2 (pa_cons (sndP a C h3).pe pa_nil st) (by rw [st]; rfl)) fun σ H R ⟨F, env, items, ok, h, k⟩ => ?_
      obtain ⟨n, h4, h5⟩ := bnd (show ((ev c env a).bind asInt).bind _ = some items by simpa only [evi] using h)
      obtain ⟨r, h6, h7⟩ := bnd h4
      obtain rfl := asInt_eq h7
      obtain ⟨⟨b1, b2⟩, rfl⟩ := itd h5
      exact ⟨F, env, _, ok, h6, fun v F1 H1 x1 w1 _ => ⟨n, by rw [w1.int], by omega, by omega, k _ F1 H1 x1 (wd_rng 0 _) fun _ => ⟨F1, x1, wd_rng 0 _⟩⟩⟩
    · cases h
  | .r2 a b, X, s, c, C, tg, e, h => by unfold chkI at h; cases h
  | .r3 a b d, X, s, c, C, tg, e, h => by unfold chkI at h; cases h
  | .zip a b, X, s, c, C, tg, e, h => by
    unfold chkI at h
    split at h
    · simp only [Bool.and_eq_true, decide_eq_true_eq] at h
      obtain ⟨⟨⟨⟨h1, h2⟩, ht⟩, h3⟩, h3'⟩ := h
      obtain ⟨g1, g2⟩ := C.gl h1 h2 (by decide +kernel)
      subst h1
      have st' := star_of (chk_plain h3') [] X.env
      have st := star_of (chk_plain h3)
      cases tg with
      | Tuple es kk tp =>
        refine PI.imp (pi_zipQ g1 g2 (pa_cons (sndP a C h3).pe (pa_cons (sndP b C h3').pe pa_nil st') (st _ _)) (st _ _) (by rw [st']; rfl)) fun σ H R ⟨F, env, items, ok, h, k⟩ => ?_
        obtain ⟨r1, h4, h5⟩ := bnd (show (ev c env a).bind _ = some items by simpa only [evi] using h)
        obtain ⟨r2, h6, h7⟩ := bnd h5
        obtain ⟨ds, h8, h9⟩ := bnd h7
        obtain ⟨es, h10, h11⟩ := bnd h9
        cases h11
        have hb1 : ∀ e, borI c env (.zip a b) = e → ((isVar a && r1.isOwn) || (isVar b && r2.isOwn)) = e := fun e z => by
          simpa [borI, h4, h6] using z
        refine ⟨F, env, r1, ok, h4, fun v F1 H1 x1 w1 n1 => ?_⟩
        -- the first one is frozen, where it may be
        obtain ⟨k1, a1, vs, rfl, p1, p2, p3, _⟩ := seqv2 x1 w1 n1 h8
        by_cases f1 : (isVar a && r1.isOwn) = true
        · refine ⟨F1, env, r2, ok.ext x1, h6, fun u F2 H2 x2 w2 n2 => ?_⟩
          obtain ⟨k2, a2, ws, rfl, q1, q2, q3, _⟩ := seqv2 x2 w2 n2 h10
          refine ⟨k1, k2, a1, a2, vs, ws, rfl, Same.sq x2.same p1, q1, k _ F2 H2 (x1.trans x2) (wd_zip (fun H3 s3 => ⟨Same.sq s3 (Same.sq x2.same p1), Same.sq s3 q1⟩) (p2.mono x2.fr) q2) fun e => ?_⟩
          have := hb1 _ e
          rw [f1] at this
          cases this
        · obtain ⟨F1', x1', p4, p5⟩ := p3 (by simpa using f1)
          refine ⟨F1', env, r2, ok.ext x1', h6, fun u F2 H2 x2 w2 n2 => ?_⟩
          obtain ⟨k2, a2, ws, rfl, q1, q2, q3, _⟩ := seqv2 x2 w2 n2 h10
          refine ⟨k1, k2, a1, a2, vs, ws, rfl, Same.sq x2.same p1, q1, k _ F2 H2 (x1'.trans x2) (wd_zip (fun H3 s3 => ⟨Same.sq s3 (Same.sq x2.same p1), Same.sq s3 q1⟩) (p5.mono x2.fr) q2) fun e => ?_⟩
          have hb2 := hb1 _ e
          simp only [Bool.or_eq_false_iff] at hb2
          obtain ⟨F2', x2', q4, q5⟩ := q3 hb2.2
          exact ⟨F2', x1'.trans x2', wd_zip (fun H3 s3 => ⟨Same.sq s3 (Same.sq x2'.fr p4), Same.sq s3 q4⟩) (p5.mono x2'.fr) q5⟩
      | _ => cases ht
    · cases h
  | .zip3 a b a3, X, s, c, C, tg, e, h => by unfold chkI at h; cases h
  | .en a, X, s, c, C, tg, e, h => by
    unfold chkI at h
    split at h
    · simp only [Bool.and_eq_true, decide_eq_true_eq] at h
      obtain ⟨⟨⟨h1, h2⟩, ht⟩, h3⟩ := h
      obtain ⟨g1, g2⟩ := C.gl h1 h2 (by decide +kernel)
      subst h1
      have st := star_of (chk_plain h3) [] X.env
      cases tg with
      | Tuple es kk tp =>
        refine PI.imp (PI.or (pi_enumQ g1 g2 (sndP a C h3).pe st) (pi_enumT g1 g2 (sndP a C h3).pe st)) fun σ H R ⟨F, env, items, ok, h, k⟩ => ?_
        obtain ⟨r1, h4, h5⟩ := bnd (show (ev c env a).bind _ = some items by simpa only [evi] using h)
        obtain ⟨ds, h6, rfl⟩ := mpd h5
        have hb1 : borI c env (.en a) = false → (isVar a && r1.isOwn) = false := fun z => by
          simpa [borI, h4] using z
        rcases items_eq h6 with h6 | ⟨z, rfl, rfl⟩
        · refine .inl ⟨F, env, r1, ok, h4, fun v F1 H1 x1 w1 n1 => ?_⟩
          obtain ⟨k1, a1, vs, rfl, p1, p2, p3, _⟩ := seqv2 x1 w1 n1 h6
          refine ⟨k1, a1, vs, rfl, p1, k _ F1 H1 x1 (wd_enum (fun H3 s3 => Same.sq s3 p1) p2) fun e => ?_⟩
          obtain ⟨F2, x2, q1, q2⟩ := p3 (hb1 e)
          exact ⟨F2, x2, wd_enum (fun H3 s3 => Same.sq s3 q1) q2⟩
        · exact .inr ⟨F, env, _, ok, h4, fun v F1 H1 x1 w1 n1 => ⟨z, w1.str, k _ F1 H1 x1 (wd_enumT z) fun _ => ⟨F1, x1, wd_enumT z⟩⟩⟩
      | _ => cases ht
    · cases h
  | .rv a, X, s, c, C, tg, e, h => by unfold chkI at h; cases h
end
end
end Mn
namespace Mn
open PySem PySem.Spec PyProof.Rows L2
def chkR2 (f : Nat) (es : Exs) (s : Sx) : Expr → Bool
  | .Call (.Name y _) xs [] _ => decide (s.rns[f]? = some y) && s.glo y && okN y && !xs.isEmpty && chkEs es s xs
  | _ => false
def chkA (s : Sx) (i : Nat) (e : Ex) : Stmt → Bool
  | .Assign [.Name x _] v _ => decide (s.N[i]? = some x) && s.loc x && chkE e s v
  | _ => false
def chkCl (s : Sx) (i : Nat) : Stmt → Bool
  | .Expr (.Call (.Attribute (.Name x _) nm apos) [] [] cpos) _ => decide (nm = "clear") && (apos.endLine == cpos.line) && decide (s.N[i]? = some x) && s.vis x && okN x
  | _ => false
def chkRf (s : Sx) : List Stmt → Bool
  | [.Return (some e) _] => chkE (.bl false) s e
  | _ => false
def chkHnd (h : Hnd) (s : Sx) (a b d e f g : Stmt) : Bool := chkA s h.i1 h.e1 a && chkA s h.i2 h.e2 b && chkA s h.i3 h.e3 d
  && (match e with
    | .If t x [] _ => chkE h.e4 s t && chkRf s x
    | _ => false)
  && chkCl s h.i2 f
  && (match g with
    | .For (.Tuple [.Name ya _, .Name yb _] _ _) (.Name yp _) [st] [] _ => decide (s.N[h.ia]? = some ya) && s.loc ya && decide (s.N[h.ib]? = some yb) && s.loc yb && decide (s.N[h.ip]? = some yp) && s.vis yp && okN yp && chkCl s h.ib st
    | _ => false)
mutual
def chkS : Sm → Sx → Stmt → Bool
  | .asg i e, s, st => match st with
    | .Assign [.Name x _] v _ => decide (s.N[i]? = some x) && s.loc x && chkE e s v
    | _ => false
  | .par i j k l, s, st => false
  | .parE i j a b, s, st => false
  | .unp is e, s, st => match st with
    | .Assign [.Tuple ts k pos] v _ => chkNs s is ts && chkE e s v && !isTup v
    | _ => false
  | .app i e, s, st => match st with
    | .Expr (.Call (.Attribute (.Name x _) nm apos) [v] [] cpos) _ => decide (nm = "append") && (apos.endLine == cpos.line) && decide (s.N[i]? = some x) && s.vis x && okN x && chkE e s v
    | _ => false
  | .ext i e, s, st => false
  | .ins i k e, s, st => false
  | .pop j i e, s, st => false
  | .sti i k e, s, st => false
  | .stk i k e, s, st => false
  | .clr i, s, st => false
  | .revO i, s, st => false
  | .rem i e, s, st => false
  | .tryB b D j n, s, st => false
  | .ifs t a b, s, st => match st with
    | .If x y z _ => chkE t s x && chkSs a s y && chkSs b s z
    | _ => false
  | .ifT t a b, s, st => false
  | .rtTt _ t, s, st => false
  | .for_ tg it b, s, st => match st with
    | .For x y z [] _ => chkI it s x y && chkTg s tg x && chkSs b s z
    | _ => false
  | .asgD i e tg it own, s, st => false
  | .unpD is e tg it own, s, st => false
  | .tryEl i f es D1 D2 k el, s, st => false
  | .asgL i e, s, st => false
  | .appD i e, s, st => false
  | .appI i k e, s, st => false
  | .popI i k, s, st => false
  | .popO i, s, st => false
  | .popD i, s, st => false
  | .stJ i k q e, s, st => false
  | .retX e k, s, st => false
  | .stiD i k e, s, st => false
  | .forR j i b, s, st => false
  | .tryL b e, s, st => false
  | .tryN b, s, st => match st with
    | .Try x (_ :: _) [] [] _ => chkSs b s x
    | _ => false
  | .whl t b, s, st => false
  | .ret e, s, st => match st with
    | .Return (some x) _ => chkE e s x
    | _ => false
  | .retN, s, st => false
  | .drp e, s, st => match st with
    | .Expr (.Call x y z p) _ => chkE e s (.Call x y z p)
    | _ => false
  | .rse C m, s, st => false
  | .rs1 C e, s, st => false
  | .asgCc i f es tg it own, s, st => false
  | .asgC i f es, s, st => false
  | .retC f es, s, st => false
  | .retCf f es, s, st => false
  | .retC2 o f es g fs, s, st => false
  | .trse C m, s, st => false
  | .trs1 C e, s, st => false
  | .tasC i f es, s, st => false
  | .trtC f es, s, st => false
  | .tdrC f es, s, st => false
  | .rtcX g i es f fs, s, st => false
  | .tryT i f a D j n, s, st => false
  | .rtcT g i h a, s, st => false
  | .rtsC f fs, s, st => false
  | .drpC f es, s, st => false
  | .tryC i f es D j n, s, st => false
  | .tryE f es D j n, s, st => false
  | .tryM f es hs, s, st => false
  | .nop, s, st => false
  | .tnw i, s, st => match st with
    | .Assign [.Name x _] (.List [] _) _ => decide (s.N[i]? = some x) && s.loc x
    | _ => false
  | .tal j p, s, st => false
  | .tap p e, s, st => false
  | .tapD p e tg it own, s, st => false
  | .tapP p d e tg it own, s, st => match st with
    | .Expr (.Call (.Attribute o nm apos) [.Tuple [u, v] _ _] [] cpos) _ => decide (nm = "append") && (apos.endLine == cpos.line) && baseOk o && chkP p s o && chkE d s u && chkE (.comp e tg it .emp own) s v
    | _ => false
  | .tapV p j, s, st => false
  | .tst p k e, s, st => false
  | .tfl p f e, s, st => match st with
    | .Assign [.Attribute o nm _] v _ => decide (nm = f) && baseOk o && chkP p s o && chkE e s v
    | _ => false
  | .tcl p, s, st => false
  | .tfr j p b, s, st => false
  | .tcd f a, s, st => false
  | .tca j f a, s, st => false
  | .rtc f a, s, st => false
  | .asC j f es, s, st => false
  | .unC is f es, s, st => false
  | .asT i f es, s, st => match st with
    | .Assign [.Name x _] (.Call x' y z p) _ => decide (s.N[i]? = some x) && s.loc x && chkR2 f es s (.Call x' y z p)
    | _ => false
  | .retT e, s, st => false
  | .retZ e, s, st => false
  | .tryR i g es D C k, s, st => false
  | .retF e, s, st => false
  | .tryTd f a D j n, s, st => false
  | .tryTf f a D j n fd, s, st => false
  | .rtNT, s, st => false
  | .rtV i, s, st => match st with
    | .Return (some x) _ => chkV s i x
    | _ => false
  | .rtP ps, s, st => false
  | .rtE e, s, st => false
  | .rtD e tg it own, s, st => false
  | .tas i e, s, st => false
  | .tasD i e tg it own, s, st => false
  | .nev, s, st => true
  | .cont, s, st => false
  | .brk, s, st => false
def chkSs : Sms → Sx → List Stmt → Bool
  | .nil, s, st => match st with
    | [] => true
    | _ => false
  | .cons a r, s, st => match st with
    | x :: xs => chkS a s x && chkSs r s xs
    | _ => false
  | .frz i r, s, st => chkSs r s st
  | .del i r, s, st => chkSs r s st
  | .hnd h r, s, st => match st with
    | a :: b :: d :: e :: f :: g :: xs => chkHnd h s a b d e f g && chkSs r s xs
    | _ => false
end
abbrev Pl := Nat → List V
def Pins (pl : Pl) (H : Hp) (env : Ev) (σ : L2.St) : Prop := ∀ (i : Nat) pw t, env[i]? = some (some (.tr pw t)) → ∃ v, σ[i]? = some (some v) ∧ ∀ (n : Nat) w, pw[n]? = some w → ∃ a u, (pl i)[n]? = some a ∧ t.sub w = some u ∧ u.isNd = true ∧ walkH H v w = some a
theorem Pins.keeps {pl : Pl} {H : Hp} {env env' : Ev} {σ σ' : L2.St} (p : Pins pl H env σ) (k : Keeps env env' σ σ') : Pins pl H env' σ' := fun i pw t h => by
  obtain ⟨h1, h2⟩ := k i _ h rfl
  rw [h2]
  exact p i pw t h1
theorem Pins.mono {pl : Pl} {H H' : Hp} {env : Ev} {σ : L2.St} (p : Pins pl H env σ) (e : Same H H') : Pins pl H' env σ := fun i pw t h => by
  obtain ⟨v, h1, h2⟩ := p i pw t h
  refine ⟨v, h1, fun n w hw => ?_⟩
  obtain ⟨a, u, h3, h4, h5, h6⟩ := h2 n w hw
  exact ⟨a, u, h3, h4, h5, walkH_mono e h6⟩
theorem Tr.walk_other {K : PySem.W.Frag} {F H H' : Hp} {v x : V} {t u : OT} {ps : List Addr} {w : List Stp} (a : Tr K F H v t ps) (h : t.sub w = some u) (ke : ∀ b ∈ ps, H' b = H b) (hw : walkH H v w = some x) : walkH H' v w = some x := by
  obtain ⟨y, ps1, ps', ps2, g1, g2, g3, g4⟩ := a.at_ h
  rw [hw] at g1
  cases g1
  refine (g4 H' u ps' (fun b hb => ke b (by rw [g3]; simp at hb ⊢; rcases hb with z | z <;> simp [z])) ?_).2
  exact g2.other (ps := ps) ke fun b hb => by rw [g3]; simp [hb]
theorem TrOk.write {K : PySem.W.Frag} {F H H' : Hp} {env : Ev} {σ : L2.St} (ok : TrOk K F H env σ) (aw : ∀ (i : Nat) b, OwnAt H env σ i b → (∃ pw t, env[i]? = some (some (.tr pw t))) → H' b = H b) : TrOk K F H' env σ where
  tr := fun i pw t h => by
    obtain ⟨v, ps, h1, h2, h3⟩ := ok.tr i pw t h
    exact ⟨v, ps, h1, h2.other (ps := ps) (fun b hb => aw i b ⟨_, v, h, h1, (foot_tr h2).mpr hb⟩ ⟨pw, t, h⟩) fun b hb => hb, h3⟩
  al := fun j i w pw t h h' => by
    obtain ⟨v, x, u, h1, h2, h3, h4, h5⟩ := ok.al j i w pw t h h'
    obtain ⟨v', ps, g1, g2, _⟩ := ok.tr i pw t h'
    rw [h1] at g1
    cases g1
    exact ⟨v, x, u, h1, h2, h3, h4, g2.walk_other h3 (fun b hb => aw i b ⟨_, v, h', h1, (foot_tr g2).mpr hb⟩ ⟨pw, t, h'⟩) h5⟩
theorem Pins.write {K : PySem.W.Frag} {pl : Pl} {F H H' : Hp} {env : Ev} {σ : L2.St} (p : Pins pl H env σ) (ok : TrOk K F H env σ) (aw : ∀ (i : Nat) b, OwnAt H env σ i b → (∃ pw t, env[i]? = some (some (.tr pw t))) → H' b = H b) : Pins pl H' env σ := fun i pw t h => by
  obtain ⟨v, h1, h2⟩ := p i pw t h
  obtain ⟨v', ps, g1, g2, _⟩ := ok.tr i pw t h
  rw [h1] at g1
  cases g1
  refine ⟨v, h1, fun n w hw => ?_⟩
  obtain ⟨a, u, h3, h4, h5, h6⟩ := h2 n w hw
  exact ⟨a, u, h3, h4, h5, g2.walk_other h4 (fun b hb => aw i b ⟨_, v, h, h1, (foot_tr g2).mpr hb⟩ ⟨pw, t, h⟩) h6⟩
theorem TrOk.cold {K : PySem.W.Frag} {F F' H : Hp} {env : Ev} {σ : L2.St} (ok : TrOk K F H env σ) (fr : Same F F') (aw : ∀ (i : Nat) b, OwnAt H env σ i b → F' b = none) : TrOk K F' H env σ where
  tr := fun i pw t h => by
    obtain ⟨v, ps, h1, h2, h3⟩ := ok.tr i pw t h
    exact ⟨v, ps, h1, h2.cold fr fun b hb => aw i b ⟨_, v, h, h1, (foot_tr h2).mpr hb⟩, h3⟩
  al := ok.al
structure StOk (K : PySem.W.Frag) (pl : Pl) (F0 H0 F H : Hp) (env : Ev) (σ : L2.St) : Prop where
  ext : Ext F0 H0 F H
  ok : EnvOk K F H env σ
  own : ∀ i p, OwnAt H env σ i p → H0 p = none
  sep : ∀ i j p, OwnAt H env σ i p → OwnAt H env σ j p → i = j
  pin : Pins pl H env σ
section
variable {K : PySem.W.Frag} {pl : Pl} {F0 H0 F H F' H' : Hp} {env : Ev} {σ : L2.St}
theorem OwnAt.there (ok : EnvOk K F H env σ) {i : Nat} {p : Addr} (h : OwnAt H env σ i p) : F p = none ∧ ∃ o, H p = some o := by
  obtain ⟨r, v, h1, h2, h3⟩ := h
  by_cases hp : r.pl = true
  case neg =>
    cases r with
    | tr pw t =>
      obtain ⟨v', ps, g1, g2, _⟩ := ok.tr_.tr i pw t h1
      rw [h2] at g1
      cases g1
      exact g2.there p ((foot_tr g2).mp h3)
    | al _ _ => exact h3.elim
    | _ => exact absurd rfl hp
  obtain ⟨v', h4, w⟩ := ok.at_ i r h1 hp
  rw [h2] at h4
  cases h4
  cases w with
  | fz q => exact h3.elim
  | own f e q =>
    cases q with
    | on a nd np =>
      rcases h3 with h3 | ⟨q', vs, e1, e2, e3⟩
      · cases h3; exact ⟨f, _, e⟩
      · cases e1
        rw [e] at e2
        cases e2
        obtain ⟨q2, hq, e4⟩ := List.mem_map.mp e3
        cases e4
        obtain ⟨f2, vs2, h2⟩ := a.mem _ hq
        exact ⟨f2, _, h2⟩
    | _ => cases h3; exact ⟨f, _, e⟩
theorem OwnAt.back (ok : EnvOk K F H env σ) (x : Same H H') {i : Nat} {p : Addr} (h : OwnAt H' env σ i p) : OwnAt H env σ i p := by
  obtain ⟨r, v, h1, h2, h3⟩ := h
  refine ⟨r, v, h1, h2, ?_⟩
  by_cases hp : r.pl = true
  case neg =>
    cases r with
    | tr pw t =>
      obtain ⟨v', ps, g1, g2, _⟩ := ok.tr_.tr i pw t h1
      rw [h2] at g1
      cases g1
      have g3 : Tr K F H' v t ps := g2.other (ps := ps) (fun b hb => by
        obtain ⟨_, o, q⟩ := g2.there b hb
        rw [q]; exact x _ _ q) fun b hb => hb
      exact (foot_tr g2).mpr ((foot_tr g3).mp h3)
    | al _ _ => exact h3.elim
    | _ => exact absurd rfl hp
  obtain ⟨v', h4, w⟩ := ok.at_ i r h1 hp
  rw [h2] at h4
  cases h4
  cases w with
  | fz q => exact h3
  | own f e q =>
    cases q with
    | on a nd np =>
      rcases h3 with h3 | ⟨q', vs, e1, e2, e3⟩
      · exact .inl h3
      · cases e1
        have := x _ _ e
        rw [this] at e2
        cases e2
        exact .inr ⟨_, _, rfl, e, e3⟩
    | _ => exact h3
theorem StOk.step (st : StOk K pl F0 H0 F H env σ) (x : Ext F H F' H') : StOk K pl F0 H0 F' H' env σ := ⟨st.ext.trans x, st.ok.ext x, fun i p h => st.own i p (h.back st.ok x.same), fun i j p h h' => st.sep i j p (h.back st.ok x.same) (h'.back st.ok x.same), st.pin.mono x.same⟩
theorem StOk.rebase (a : Ext F0 H0 F H) {F2 H2 : Hp} (st : StOk K pl F H0 F2 H2 env σ) : StOk K pl F0 H0 F2 H2 env σ :=
  ⟨⟨a.fr.trans st.ext.fr, st.ext.sub, st.ext.same, fun b o e => (st.ext.new b o e).elim (fun q => a.new b o q) .inr⟩, st.ok, st.own, st.sep, st.pin⟩
theorem StOk.based (st : StOk K pl F0 H0 F H env σ) : StOk K pl F H0 F H env σ := ⟨⟨Same.refl _, st.ext.sub, st.ext.same, fun _ _ e => .inl e⟩, st.ok, st.own, st.sep, st.pin⟩
theorem StOk.setN (st : StOk K pl F0 H0 F H env σ) (x : Ext F H F' H') {i : Nat} {v : V} {r : RV} (hi : i < env.length) (w : View K F' H' v r) (n : ∀ p, Foot H' r v p → H p = none) : StOk K pl F0 H0 F' H' (env.set i (some r)) (σ.set i (some v)) := by
  have ok' := st.ok.ext x
  have key : ∀ j p, OwnAt H' (env.set i (some r)) (σ.set i (some v)) j p → (j = i ∧ H p = none) ∨ (j ≠ i ∧ OwnAt H env σ j p) := fun j p h => by
    obtain ⟨r', u, h1, h2, h3⟩ := h
    by_cases e : i = j
    · subst e
      rw [List.getElem?_set_self hi] at h1
      cases h1
      rw [List.getElem?_set_self (by rw [← st.ok.len]; exact hi)] at h2
      cases h2
      exact .inl ⟨rfl, n p h3⟩
    · rw [List.getElem?_set_ne e] at h1 h2
      exact .inr ⟨fun z => e z.symm, OwnAt.back st.ok x.same ⟨r', u, h1, h2, h3⟩⟩
  refine ⟨st.ext.trans x, ok'.set hi w, fun j p h => ?_, fun j k p h1 h2 => ?_, (st.pin.mono x.same).keeps (Keeps.set fun q e => by cases e; exact w.pl)⟩
  · rcases key j p h with ⟨_, e⟩ | ⟨_, h⟩
    · exact st.ext.same.free e
    · exact st.own j p h
  · rcases key j p h1 with ⟨e1, e⟩ | ⟨_, g1⟩
    · rcases key k p h2 with ⟨e2, _⟩ | ⟨_, g2⟩
      · rw [e1, e2]
      · obtain ⟨_, o, q⟩ := g2.there st.ok
        rw [e] at q; cases q
    · rcases key k p h2 with ⟨e2, e⟩ | ⟨_, g2⟩
      · obtain ⟨_, o, q⟩ := g1.there st.ok
        rw [e] at q; cases q
      · exact st.sep j k p g1 g2
theorem StOk.set (st : StOk K pl F0 H0 F H env σ) (x : Ext F H F' H') {i : Nat} {v : V} {r : RV} (hi : i < env.length) (w : View K F' H' v r) (n : New r v H H') : StOk K pl F0 H0 F' H' (env.set i (some r)) (σ.set i (some v)) := st.setN x hi w n
theorem StOk.upd (st : StOk K pl F0 H0 F H env σ) {i : Nat} {p : Addr} {o : HO} {r r0 : RV} (h0 : env[i]? = some (some r0)) (hf0 : r0.flat = true) (ho0 : r0.isOwn = true) (h3 : σ[i]? = some (some (.ref p))) (hf : r.flat = true) (q : Own K F (L2.upd H p o) p o r) : StOk K pl F0 H0 F (L2.upd H p o) (env.set i (some r)) σ := by
  have hi : i < env.length := (List.getElem?_eq_some_iff.mp h0).1
  have foot0 : ∀ H p', Foot H r0 (.ref p) p' ↔ p' = p := fun H p' => by
    cases r0 with
    | fz d => cases ho0
    | on d => cases hf0
    | tr _ _ => cases hf0
    | al _ _ => cases hf0
    | _ => exact ⟨fun h => by cases h; rfl, fun h => by subst h; exact (rfl : V.ref _ = V.ref _)⟩
  have foot1 : ∀ H p', Foot H r (.ref p) p' → p' = p := fun H p' h => by
    cases r with
    | fz d => exact h.elim
    | on d => cases hf
    | tr _ _ => cases hf
    | al _ _ => cases hf
    | _ => cases h; rfl
  have hp : OwnAt H env σ i p := ⟨r0, _, h0, h3, (foot0 H p).mpr rfl⟩
  have f := (hp.there st.ok).1
  have apart : ∀ j p', OwnAt H env σ j p' → j ≠ i → p' ≠ p := fun j p' h e z => by subst z; exact e (st.sep j i _ h hp)
  have key : ∀ j p', OwnAt (L2.upd H p o) (env.set i (some r)) σ j p' → OwnAt H env σ j p' := fun j p' hj => by
    obtain ⟨r', u, z1, z2, z3⟩ := hj
    by_cases e : i = j
    · subst e
      rw [List.getElem?_set_self hi] at z1
      cases z1
      rw [h3] at z2
      cases z2
      rw [foot1 _ _ z3]
      exact hp
    · rw [List.getElem?_set_ne e] at z1
      refine ⟨r', u, z1, z2, ?_⟩
      cases r' with
      | on d =>
        rcases z3 with z3 | ⟨q', vs, e1, e2, e3⟩
        · exact .inl z3
        · subst e1
          have ne : q' ≠ p := apart j q' ⟨.on d, _, z1, z2, .inl rfl⟩ (fun z => e z.symm)
          rw [upd_ne ne] at e2
          exact .inr ⟨_, _, rfl, e2, e3⟩
      | tr pw t =>
        obtain ⟨v, ps, y1, y2, _⟩ := st.ok.tr_.tr j pw t z1
        rw [z2] at y1
        cases y1
        have y3 : Tr K F (L2.upd H p o) u t ps := y2.other (ps := ps) (fun b hb => upd_ne (apart j b ⟨_, u, z1, z2, (foot_tr y2).mpr hb⟩ fun z => e z.symm)) fun b hb => hb
        exact (foot_tr y2).mpr ((foot_tr y3).mp z3)
      | _ => exact z3
  have wr : ∀ (j : Nat) b, OwnAt H env σ j b → (∃ pw t, env[j]? = some (some (.tr pw t))) → L2.upd H p o b = H b := fun j b hb ⟨pw, t, ht⟩ => upd_ne (apart j b hb fun z => by subst z; rw [h0] at ht; cases ht; cases hf0)
  have kps : Keeps env (env.set i (some r)) σ σ := Keeps.set0 fun q e => by cases e; cases r <;> first | rfl | cases hf
  refine ⟨st.ext.write (st.own i p hp) f, ⟨fun b u e => by rw [upd_ne (ne_of_none e f)]; exact st.ok.sub _ _ e, by rw [List.length_set]; exact st.ok.len, fun j r' hj hpl => ?_, (st.ok.tr_.write wr).keeps kps⟩, fun j p' hj => st.own j p' (key j p' hj), fun j k p' hj hk => st.sep j k p' (key j p' hj) (key k p' hk), (st.pin.write st.ok.tr_ wr).keeps kps⟩
  by_cases e : i = j
  · subst e
    rw [List.getElem?_set_self hi] at hj
    cases hj
    exact ⟨.ref p, h3, .own f upd_same q⟩
  · rw [List.getElem?_set_ne e] at hj
    obtain ⟨v, z1, w⟩ := st.ok.at_ j r' hj hpl
    refine ⟨v, z1, ?_⟩
    cases w with
    | fz q' => exact .fz q'
    | own f' e' q' =>
      rename_i p' o'
      have fo : ∀ p2, Foot H r' (.ref p') p2 → p2 ≠ p := fun p2 h => apart j p2 ⟨r', _, hj, z1, h⟩ fun z => e z.symm
      cases q' with
      | lst a => exact .own f' (by rw [upd_ne (fo p' rfl)]; exact e') (.lst a)
      | dK a => exact .own f' (by rw [upd_ne (fo p' rfl)]; exact e') (.dK a)
      | dT kn a => exact .own f' (by rw [upd_ne (fo p' rfl)]; exact e') (.dT kn a)
      | on a nd np => exact .own f' (by rw [upd_ne (fo p' (.inl rfl))]; exact e') (.on (a.other fun q hq => fo q (.inr ⟨p', _, rfl, e', List.mem_map.mpr ⟨q, hq, rfl⟩⟩)) nd np)
theorem StOk.del (st : StOk K pl F0 H0 F H env σ) (i : Nat) : StOk K pl F0 H0 F H (env.set i none) σ := by
  have key : ∀ (j : Nat) (r : RV), (env.set i none)[j]? = some (some r) → env[j]? = some (some r) := fun j r h => by
    rw [List.getElem?_set] at h
    split at h
    · split at h <;> cases h
    · exact h
  have ow : ∀ j p, OwnAt H (env.set i none) σ j p → OwnAt H env σ j p := fun j p ⟨r, v, z1, z2, z3⟩ => ⟨r, v, key j r z1, z2, z3⟩
  exact ⟨st.ext, ⟨st.ok.sub, by rw [List.length_set]; exact st.ok.len, fun j r h hpl => st.ok.at_ j r (key j r h) hpl, st.ok.tr_.keeps (Keeps.set0 fun q e => nomatch e)⟩, fun j p h => st.own j p (ow j p h), fun j k p hj hk => st.sep j k p (ow j p hj) (ow k p hk), st.pin.keeps (Keeps.set0 fun q e => nomatch e)⟩
theorem StOk.cold (st : StOk K pl F0 H0 F H env σ) {F' : Hp} (x : Ext F H F' H → True) (fr : Same F F') (sub : Same F' H) (nw : ∀ b o, F' b = some o → F b = some o ∨ H0 b = none) (aw : ∀ j p, OwnAt H env σ j p → F' p = none) : StOk K pl F0 H0 F' H env σ := by
  refine ⟨⟨st.ext.fr.trans fr, sub, st.ext.same, fun b o e => (nw b o e).elim (fun z => st.ext.new b o z) .inr⟩, ⟨sub, st.ok.len, fun j r h hpl => ?_, st.ok.tr_.cold fr aw⟩, st.own, st.sep, st.pin⟩
  obtain ⟨v, h1, w⟩ := st.ok.at_ j r h hpl
  refine ⟨v, h1, ?_⟩
  cases w with
  | fz q => exact .fz (q.mono fr)
  | own f e q =>
    rename_i p o
    have fo : ∀ p2, Foot H r (.ref p) p2 → F' p2 = none := fun p2 z => aw j p2 ⟨r, _, h, h1, z⟩
    cases q with
    | lst a => exact .own (fo p rfl) e (.lst (a.mono fr))
    | dK a => exact .own (fo p rfl) e (.dK (a.mono fr))
    | dT kn a => exact .own (fo p rfl) e (.dT (kn.mono fr) (a.mono fr))
    | on a nd np =>
      have : ∀ {qs : List Addr} {dss : List (List PyData)}, InAll K F H qs dss → (∀ q ∈ qs, F' q = none) → InAll K F' H qs dss := fun {qs} => by
        induction qs with
        | nil => intro dss z _; cases z; exact .nil
        | cons q qs ih =>
          intro dss z n
          cases z with
          | cons f2 h2 ra t2 => exact .cons (n q (by simp)) h2 (ra.mono fr) (ih t2 fun q' h' => n q' (by simp [h']))
      exact .own (fo p (.inl rfl)) e (.on (this a fun q hq => fo q (.inr ⟨p, _, rfl, e, List.mem_map.mpr ⟨q, hq, rfl⟩⟩)) nd np)
theorem StOk.frz (st : StOk K pl F0 H0 F H env σ) {i : Nat} {r : RV} (h : env[i]? = some (some r)) (hfz : r.frzOk = true) : ∃ F', StOk K pl F0 H0 F' H (env.set i (some (.fz r.fzD))) σ := by
  classical
  have hi : i < env.length := (List.getElem?_eq_some_iff.mp h).1
  obtain ⟨v, h1, w⟩ : ∃ v, σ[i]? = some (some v) ∧ (View K F H v r ∨ ∃ pw t ps, r = .tr pw t ∧ Tr K F H v t ps) := by
    by_cases hp : r.pl = true
    · obtain ⟨v, h1, w⟩ := st.ok.at_ i r h hp
      exact ⟨v, h1, .inl w⟩
    · cases r with
      | tr pw t =>
        obtain ⟨v, ps, g1, g2, _⟩ := st.ok.tr_.tr i pw t h
        exact ⟨v, g1, .inr ⟨_, _, ps, rfl, g2⟩⟩
      | al _ _ => cases hfz
      | _ => exact absurd rfl hp
  let P : Addr → Prop := fun b => Foot H r v b
  have st1 := st.del i
  have fr : Same F (coldF F H P) := fun b o e => by
    unfold coldF
    split
    · exact st.ok.sub _ _ e
    · exact e
  have sub : Same (coldF F H P) H := fun b o e => by
    unfold coldF at e
    split at e
    · exact e
    · exact st.ok.sub _ _ e
  have own : ∀ p, P p → OwnAt H env σ i p := fun p hp => ⟨r, v, h, h1, hp⟩
  have st2 : StOk K pl F0 H0 (coldF F H P) H (env.set i none) σ := st1.cold (fun _ => trivial) fr sub (fun b o e => by
    unfold coldF at e
    split at e
    · rename_i hb
      exact .inr (st.own i b (own b hb))
    · exact .inl e) fun j p hj => by
    have hj2 : OwnAt H env σ j p := by
      obtain ⟨r', v', z1, z2, z3⟩ := hj
      by_cases e : i = j
      · subst e
        rw [List.getElem?_set_self hi] at z1
        cases z1
      · rw [List.getElem?_set_ne e] at z1
        exact ⟨r', v', z1, z2, z3⟩
    have hne : j ≠ i := fun e => by
      subst e
      obtain ⟨r', v', z1, _, _⟩ := hj
      rw [List.getElem?_set_self hi] at z1
      cases z1
    unfold coldF
    rw [if_neg (fun hp => hne (st.sep j i p hj2 (own p hp)))]
    exact (hj2.there st.ok).1
  have rp : Rp K (coldF F H P) v r.fzD := by
    rcases w with w | ⟨pw, t, ps, rfl, tr⟩
    case inr => exact tr.lend fr hfz fun b hb => if_pos ((foot_tr tr).mpr hb)
    have efd : r.fzD = r.d := by
      have := w.pl
      cases r <;> first | rfl | cases this
    rw [efd]
    cases w with
    | fz q => exact q.mono fr
    | own f e q =>
      rename_i p o
      have at_ : ∀ b, P b → coldF F H P b = H b := fun b hb => if_pos hb
      cases q with
      | lst a => exact .lst (by rw [at_ p rfl]; exact e) (a.mono fr)
      | dK a => exact .dK (by rw [at_ p rfl]; exact e) (a.mono fr)
      | dT kn a => exact .dT (by rw [at_ p rfl]; exact e) (kn.mono fr) (a.mono fr)
      | on a nd np =>
        have : ∀ {qs : List Addr} {dss : List (List PyData)}, InAll K F H qs dss → (∀ q ∈ qs, P q) → RpAll K (coldF F H P) (qs.map V.ref) (dss.map PyData.list) := fun {qs} => by
          induction qs with
          | nil => intro dss z _; cases z; exact .nil
          | cons q qs ih =>
            intro dss z n
            cases z with
            | cons f2 h2 ra t2 => exact .cons (.lst (by rw [at_ q (n q (by simp))]; exact h2) (ra.mono fr)) (ih t2 fun q' h' => n q' (by simp [h']))
        exact .lst (by rw [at_ p (.inl rfl)]; exact e) (this a fun q hq => .inr ⟨p, _, rfl, e, List.mem_map.mpr ⟨q, hq, rfl⟩⟩)
  have kps : Keeps (env.set i none) (env.set i (some (.fz r.fzD))) σ σ := by
    have := Keeps.set0 (env := env.set i none) (σ := σ) (i := i) (r := some (.fz r.fzD)) fun q e => by cases e; rfl
    rw [List.set_set] at this
    exact this
  refine ⟨_, st2.ext, ⟨st2.ok.sub, by rw [List.length_set]; exact st.ok.len, fun j r' hj hpl => ?_, st2.ok.tr_.keeps kps⟩, fun j p hj => st2.own j p ?_, fun j k p hj hk => st2.sep j k p ?_ ?_, st2.pin.keeps kps⟩
  · by_cases e : i = j
    · subst e
      rw [List.getElem?_set_self hi] at hj
      cases hj
      exact ⟨v, h1, .fz rp⟩
    · rw [List.getElem?_set_ne e] at hj
      exact st2.ok.at_ j r' (by rw [List.getElem?_set_ne e]; exact hj) hpl
  all_goals
    first
    | (obtain ⟨r', v', z1, z2, z3⟩ := hj
       by_cases e : i = j
       · subst e
         rw [List.getElem?_set_self hi] at z1
         cases z1
         exact z3.elim
       · rw [List.getElem?_set_ne e] at z1
         exact ⟨r', v', by rw [List.getElem?_set_ne e]; exact z1, z2, z3⟩)
    | (obtain ⟨r', v', z1, z2, z3⟩ := hk
       by_cases e : i = k
       · subst e
         rw [List.getElem?_set_self hi] at z1
         cases z1
         exact z3.elim
       · rw [List.getElem?_set_ne e] at z1
         exact ⟨r', v', by rw [List.getElem?_set_ne e]; exact z1, z2, z3⟩)
end
def VR (K : PySem.W.Frag) (F H : Hp) (v : V) (r : RV) : Prop := View K F H v r ∨ ∃ pw t ps, r = .tr pw t ∧ Tr K F H v t ps ∧ ps.Nodup
def PostO (K : PySem.W.Frag) (W : XK) (pl : Pl) (F0 H0 : Hp) (o : Out) (D : Ends) : Prop := match o with
  | .nx env => ∀ F σ H, StOk K pl F0 H0 F H env σ → D.nx σ H
  | .rt r => (∀ v F H, Ext F0 H0 F H → VR K F H v r → New r v H0 H → D.rt v H) ∧ ∀ d, r = .xr d → ∀ F H cv dd, Ext F0 H0 F H → Xat K F cv dd d → W cv dd H
  | .bk env => ∀ F σ H, StOk K pl F0 H0 F H env σ → D.bk σ H
  | .ct env => ∀ F σ H, StOk K pl F0 H0 F H env σ → D.ct σ H
  | .re r env => (∀ v F σ H, StOk K pl F0 H0 F H env σ → View K F H v r → (∀ p, Foot H r v p → H0 p = none ∧ ∀ j, ¬ OwnAt H env σ j p) → D.rt v H) ∧ ∀ d, r = .xr d → ∀ F σ H cv dd, StOk K pl F0 H0 F H env σ → Xat K F cv dd d → W cv dd H
def tS (K : PySem.W.Frag) (W : XK) (c : Cl) (s : Sm) : TS := fun D σ H => ∃ pl F0 H0 F env o, StOk K pl F0 H0 F H env σ ∧ exS c s env = some o ∧ PostO K W pl F0 H0 o D
def tSs (K : PySem.W.Frag) (W : XK) (c : Cl) (s : Sms) : TS := fun D σ H => ∃ pl F0 H0 F env o, StOk K pl F0 H0 F H env σ ∧ exSs c s env = some o ∧ PostO K W pl F0 H0 o D
theorem odAt_eq {env : Ev} {i : Nat} {kvs : List (PyData × PyData)} (h : odAt env i = some kvs) : env[i]? = some (some (.od kvs)) := by
  unfold odAt at h
  obtain ⟨r, h1, h2⟩ := bnd h
  cases r with
  | od d =>
    cases h2
    cases q : env[i]? with
    | none => rw [q] at h1; cases h1
    | some o => rw [q] at h1; exact congrArg some h1
  | _ => cases h2
theorem StOk.od {K : PySem.W.Frag} {pl : Pl} {F0 H0 F H : Hp} {env : Ev} {σ : L2.St} (st : StOk K pl F0 H0 F H env σ) {i : Nat} {kvs : List (PyData × PyData)} (h : odAt env i = some kvs) : ∃ p, env[i]? = some (some (.od kvs)) ∧ σ[i]? = some (some (.ref p)) ∧ F p = none ∧
    ((∃ (ob : Obj) (kv : List (Int × V)) (ds : List PyData), H p = some (dkO p ob kv) ∧ RpAll K F (kv.map fun x => x.2) ds ∧ kvs = dkD (kv.map fun x => x.1) ds) ∨
     ∃ (ob : Obj) (kv : TK) (ds : List PyData), H p = some (dtO p ob kv) ∧ KeysN K F kv ∧ RpAll K F (kv.map fun x => x.2.2) ds ∧ kvs = dtD (kv.map fun x => x.1) ds) := by
  have h1 := odAt_eq h
  obtain ⟨v, h2, w⟩ := st.ok.at_ i _ h1 rfl
  cases w with
  | own f e q =>
    cases q with
    | dK ra => exact ⟨_, h1, h2, f, .inl ⟨_, _, _, e, ra, rfl⟩⟩
    | dT kn ra => exact ⟨_, h1, h2, f, .inr ⟨_, _, _, e, kn, ra, rfl⟩⟩
theorem PSet.or {X : Cx} {r r' : TSet} (h : PSet X r) (h' : PSet X r') : PSet X (fun o i v H Q => r o i v H Q ∨ r' o i v H Q) := fun pins s σ H o i v ov iv u Q I ro ri rv q => q.elim (h pins s σ H o i v ov iv u Q I ro ri rv) (h' pins s σ H o i v ov iv u Q I ro ri rv)
theorem olAt_eq {env : Ev} {i : Nat} {ds : List PyData} (h : olAt env i = some ds) : env[i]? = some (some (.ol ds)) := by
  unfold olAt at h
  obtain ⟨r, h1, h2⟩ := bnd h
  split at h2
  · cases h2
    cases q : env[i]? with
    | none => rw [q] at h1; cases h1
    | some o => rw [q] at h1; exact congrArg some h1
  · cases h2
theorem StOk.ol {K : PySem.W.Frag} {pl : Pl} {F0 H0 F H : Hp} {env : Ev} {σ : L2.St} (st : StOk K pl F0 H0 F H env σ) {i : Nat} {ds : List PyData} (h : olAt env i = some ds) : ∃ p vs, env[i]? = some (some (.ol ds)) ∧ σ[i]? = some (some (.ref p)) ∧ F p = none ∧ H p = some (.lst vs) ∧ RpAll K F vs ds := by
  have h1 := olAt_eq h
  obtain ⟨v, h2, w⟩ := st.ok.at_ i _ h1 rfl
  cases w with
  | own f e q =>
    cases q with
    | lst ra => exact ⟨_, _, h1, h2, f, e, ra⟩
theorem swap_no {e : Expr} (h : ∀ a b c d, e ≠ .ListComp a b c d) (h2 : ∀ a b c d, e ≠ .SetComp a b c d) (h3 : ∀ a b c d p, e ≠ .DictComp a b c d p) (t : Option Expr) (l : Nat) (env : Env) : swapsWith e t l env = pure false := by
  cases e with
  | ListComp a b c d => exact absurd rfl (h a b c d)
  | SetComp a b c d => exact absurd rfl (h2 a b c d)
  | DictComp a b c d p => exact absurd rfl (h3 a b c d p)
  | _ => rfl
theorem chk_comp {a : Ex} {s : Sx} {e : Expr} (h : chkE a s e = true) : (∀ x y z p, e ≠ .SetComp x y z p) ∧ (∀ x y z p q, e ≠ .DictComp x y z p q) ∧ ((∀ x y z p, e ≠ .ListComp x y z p) ∨ ∃ b tg it t own, a = .comp b tg it t own) := by
  cases e with
  | SetComp x y z p => cases a <;> first | (simp [chkE] at h; done) | (rename_i pp; cases pp <;> simp [chkE, chkP, chkV] at h)
  | DictComp x y z p q => cases a <;> first | (simp [chkE] at h; done) | (rename_i pp; cases pp <;> simp [chkE, chkP, chkV] at h)
  | ListComp x y z p =>
    refine ⟨(fun _ _ _ _ q => nomatch q), (fun _ _ _ _ _ q => nomatch q), .inr ?_⟩
    cases a <;> first | exact ⟨_, _, _, _, _, rfl⟩ | (simp [chkE] at h; done) | (rename_i pp; cases pp <;> simp [chkE, chkP, chkV] at h)
  | _ => exact ⟨(fun _ _ _ _ q => nomatch q), (fun _ _ _ _ _ q => nomatch q), .inl (fun _ _ _ _ q => nomatch q)⟩
section
variable {X : Cx} {s : Sx} {c : Cl}
theorem ps_asgN (C : CO X s c) {i : Nat} {x : Str} {a : Ex} {v : Expr} {px pos : Pos} (hi : s.N[i]? = some x) (hl : s.loc x = true) (h : chkE a s v = true) : PS X (.Assign [.Name x px] v pos) (tAsg (tE X.K c a) (gName i)) := by
  have hi' : X.N[i]? = some x := by rw [C.N]; exact hi
  obtain ⟨l1, l2⟩ := C.locv hl
  have P := (sndP a C h).pe
  obtain ⟨q1, q2, q3⟩ := chk_comp h
  rcases q3 with q3 | ⟨b, tg, it, t, own, rfl⟩
  · exact ps_set C.nd hi' l1 P (swap_no q3 q1 q2 _ _ _) l2
  · have hc := h
    unfold chkE at hc
    split at hc
    · rename_i elt tg' iter ifs kk scope p
      have sw : ∃ b, swapsWith (.ListComp elt [⟨tg', iter, ifs, kk⟩] scope p) (some (.Name x px)) pos.line X.env = pure b ∧ (b = true → X.env.scope.names.lookup x = some .local) := by
        refine ⟨_, rfl, fun e => ?_⟩
        simp only [Bool.and_eq_true, beq_iff_eq] at e
        exact e.1.1.2
      obtain ⟨b0, sw, hb⟩ := sw
      cases b0 with
      | false => exact ps_set C.nd hi' l1 P sw l2
      | true =>
        simp only [Bool.and_eq_true, decide_eq_true_eq] at hc
        obtain ⟨⟨⟨⟨⟨⟨h0, h1⟩, h2⟩, h3⟩, h4⟩, h5⟩, h6⟩ := hc
        subst h0
        refine PS.imp (ps_setLc (g := gS X.K tg) (tt := tTs X.K c t) (te := tE X.K c b) C.calm C.nd hi' (hb rfl) sw (sndI it C h3) (blkOk_by (own := ownN s own) (by rw [C.N, C.sc]; exact h1)) (fun s1 H A cl fp => pg_tg C.blk h4) (fun s1 H A cl fp => sndTs t C.blk h6) (fun s1 H A cl fp => (sndP b C.blk h5).pe) (set_of (chkI_plain h3) _)) fun D σ H h => ?_
        rw [ownN_map]
        exact comp_ok h2 h
    · cases hc
end
end Mn
namespace Mn
open PySem PySem.Spec PyProof.Rows L2
section
variable {K : PySem.W.Frag} {pl : Pl} {F0 H0 F H F' H' : Hp} {env : Ev} {σ : L2.St} {c : Cl}
theorem InAll.snoc {q : Addr} {vs : List V} {ds : List PyData} : ∀ {qs : List Addr} {dss : List (List PyData)}, InAll K F H qs dss → F q = none → H q = some (.lst vs) → RpAll K F vs ds → InAll K F H (qs ++ [q]) (dss ++ [ds])
  | _, _, .nil, f, h, r => .cons f h r .nil
  | _, _, .cons f' h' r' t, f, h, r => .cons f' h' r' (InAll.snoc t f h r)
theorem InAll.of : ∀ {qs : List Addr} {dss : List (List PyData)}, qs.length = dss.length → (∀ (k : Nat) q ds, qs[k]? = some q → dss[k]? = some ds → F q = none ∧ ∃ vs, H q = some (.lst vs) ∧ RpAll K F vs ds) → InAll K F H qs dss
  | [], [], _, _ => .nil
  | q :: qs, ds :: dss, e, h => by
    obtain ⟨h1, vs, h2, h3⟩ := h 0 q ds rfl rfl
    exact .cons h1 h2 h3 (InAll.of (by simpa using e) fun k q' ds' a b => h (k + 1) q' ds' (by simpa using a) (by simpa using b))
  | [], _ :: _, e, _ => by simp at e
  | _ :: _, [], e, _ => by simp at e
theorem nodup_snoc {q : Addr} : ∀ {qs : List Addr}, qs.Nodup → q ∉ qs → (qs ++ [q]).Nodup := fun {qs} h n => by
  rw [List.nodup_append]
  refine ⟨h, by simp, fun a ha b hb e => ?_⟩
  rw [List.mem_singleton] at hb
  subst hb; subst e
  exact n ha
theorem compD_snoc {f : PyData → Option (List PyData)} {x : PyData} {y : List PyData} (hx : f x = some y) : ∀ {xs : List PyData} {ds : List (List PyData)}, compD f xs = some ds → compD f (xs ++ [x]) = some (ds ++ [y])
  | [], ds, h => by
    cases h
    simp only [List.nil_append, compD, hx, Option.bind_some]
  | z :: zs, ds, h => by
    obtain ⟨o', h1, h⟩ := bnd (show (f z).bind _ = some ds from h)
    obtain ⟨r, h2, h⟩ := bnd h
    have ih := compD_snoc hx h2
    have e : compD f (z :: zs ++ [x]) = (f z).bind fun y => (compD f (zs ++ [x])).bind fun ys => some (y :: ys) := rfl
    rw [e, h1, Option.bind_some, ih, Option.bind_some]
    cases h
    rfl
theorem compD_all {f : PyData → Option (List PyData)} : ∀ {xs : List PyData} {ds : List (List PyData)}, compD f xs = some ds → ∀ (i : Nat) x, xs[i]? = some x → (∃ o, f x = some o)
  | [], ds, h, i, x, hx => by simp at hx
  | y :: ys, ds, h, 0, x, hx => by
    obtain ⟨o', h1, h⟩ := bnd (show (f y).bind _ = some ds from h)
    simp at hx
    subst hx
    exact ⟨o', h1⟩
  | y :: ys, ds, h, i + 1, x, hx => by
    obtain ⟨o', h1, h⟩ := bnd (show (f y).bind _ = some ds from h)
    obtain ⟨r, h2, h⟩ := bnd h
    exact compD_all h2 i x (by simpa using hx)
theorem asRow_eq {r : RV} {ds : List PyData} (h : asRow r = some ds) : r = .ol ds := by
  unfold asRow at h
  split at h
  · cases h; rfl
  · cases h
theorem row_eq {a : Ex} {r : RV} {ds : List PyData} (h : (if isVar a then none else asRow r) = some ds) : isVar a = false ∧ r = .ol ds := by
  split at h
  · cases h
  · exact ⟨(Bool.not_eq_true _).mp ‹_›, asRow_eq h⟩
theorem view_row {F1 H1 : Hp} {v : V} {ds : List PyData} (w : View K F1 H1 v (.ol ds)) (n : New (.ol ds) v H H1) : ∃ q vs, v = .ref q ∧ H q = none ∧ F1 q = none ∧ H1 q = some (.lst vs) ∧ RpAll K F1 vs ds := by
  cases w with
  | own f e q =>
    cases q with
    | lst ra =>
      exact ⟨_, _, rfl, n _ rfl, f, e, ra⟩
theorem compD_ok {a : Ex} {tg : Tg} {it : Itr} {own : List Nat} {items : List PyData} {dss : List (List PyData)} {Q : VK} (ht : tgIn tg own = true) (ok : EnvOk K F H env σ) (h1 : evi c env it = some items)
    (h2 : compD (fun x => (bindT tg (wipeE env own) x).bind fun env' => (ev c env' a).bind fun r => if isVar a then none else asRow r) items = some dss) (hl : items.length ≤ LIM)
    (k : ∀ v F' H', Ext F H F' H' → View K F' H' v (.on dss) → (∀ p, Foot H' (.on dss) v p → H p = none) → Q v H') : tLc (tI K c it) (gS K tg) (tTs K c .emp) (tE K c a) own σ H Q := by
  refine ⟨F, env, items, ok, h1, fun J F1 H1 x1 wd _ D nD => ?_⟩
  let f : PyData → Option (List PyData) := fun x => (bindT tg (wipeE env own) x).bind fun env' => (ev c env' a).bind fun r => if isVar a then none else asRow r
  have h2 : compD f items = some dss := h2
  let Pv : Nat → Hp → Prop := fun i Hc => ∃ Fc qs es, Ext F1 H1 Fc Hc ∧ Hc D = some (.lst (qs.map V.ref)) ∧ Fc D = none ∧ InAll K Fc Hc qs es ∧ qs.Nodup ∧ (∀ q ∈ qs, q ≠ D ∧ H1 q = none) ∧ compD f (items.take i) = some es ∧ es.length = i
  refine ⟨fun i m Hc => m = items.length - i ∧ i ≤ items.length ∧ Pv i Hc, ⟨items.length, by simp, Nat.zero_le _, F1, [], [], Ext.lay0 x1.sub nD, upd_same, x1.sub.free nD, .nil, List.nodup_nil, by simp, rfl, rfl⟩, ?_⟩
  rintro i m Hc ⟨rfl, hi, Fc, qs, es, xc, hD, fD, ia, nd, aw, hc, hes⟩
  obtain ⟨w1, w2⟩ := wd Hc Fc xc.same xc.fr xc.sub
  by_cases hlt : i < items.length
  · obtain ⟨go, yl⟩ := w2 i items[i] (by simp [hlt])
    refine .inr ⟨go, Pv (i + 1), fun H' p => ⟨items.length - (i + 1), by omega, rfl, hlt, p⟩, fun x H' y => ?_⟩
    obtain ⟨F3, x3, rp⟩ := yl x H' y
    obtain ⟨o, ho⟩ := compD_all h2 i items[i] (by simp [hlt])
    have hsn := compD_snoc ho hc
    have tk : items.take (i + 1) = items.take i ++ [items[i]] := by rw [List.take_add_one, List.getElem?_eq_getElem hlt]; rfl
    rw [← tk] at hsn
    obtain ⟨env', b1, ho⟩ := bnd (show (bindT tg (wipeE env own) items[i]).bind _ = some o from ho)
    obtain ⟨r', b3, ho⟩ := bnd ho
    obtain ⟨hv, rfl⟩ := row_eq ho
    refine ⟨F3, wipeE env own, items[i], env', (((ok.ext x1).ext xc).ext x3).wipe own, rp, b1, fun σ' hw ok' _ _ => ⟨by rw [hw own ht]; exact wipe_idem (fun _ h => h), F3, env', true, ok', rfl, fun F4 H4 x4 => ?_⟩⟩
    have D4 : H4 D = some (.lst (qs.map V.ref)) := x4.same _ _ (x3.same _ _ hD)
    have f4 : F4 D = none := x4.out (x3.out fD hD) (x3.same _ _ hD)
    refine iteT ⟨F4, env', .ol o, ok'.ext x4, b3, fun v F5 H5 x5 w5 n5 => ?_⟩
    obtain ⟨q, vs, rfl, hq, fq, e5, ra⟩ := view_row w5 (n5 hv)
    have D5 : H5 D = some (.lst (qs.map V.ref)) := x5.same _ _ D4
    have f5 : F5 D = none := x5.out f4 D4
    have hqD : q ≠ D := fun z => by subst z; rw [D4] at hq; cases hq
    have ia5 := ((ia.ext x3).ext x4).ext x5
    have hqs : q ∉ qs := fun z => by
      obtain ⟨_, vs', y⟩ := ((ia.ext x3).ext x4).mem q z
      rw [hq] at y; cases y
    refine ⟨qs.map V.ref, D5, ?_, F5, qs ++ [q], es ++ [o], ?_, by rw [List.map_append]; exact upd_same, f5, ?_, nodup_snoc nd hqs, fun b hb => ?_, hsn, by rw [List.length_append, hes]; rfl⟩
    · rw [List.length_map, ia.len, hes]
      exact LIM_lt (by omega)
    · exact (xc.trans (x3.trans (x4.trans x5))).write nD f5
    · refine (ia5.other fun b hb => (aw b hb).1).snoc fq ?_ ra
      rw [upd_ne hqD]
      exact e5
    · rcases List.mem_append.mp hb with hb | hb
      · exact aw b hb
      · rw [List.mem_singleton] at hb
        subst hb
        exact ⟨hqD, (xc.same.trans (x3.same.trans x4.same)).free hq⟩
  · have e : i = items.length := by omega
    subst e
    rw [List.take_length, h2] at hc
    cases hc
    refine .inl ⟨w1, k _ Fc Hc (x1.trans xc) (.own fD hD (.on ia nd fun b hb => (aw b hb).1)) fun p hp => ?_⟩
    rcases hp with hp | ⟨q, vs, e1, e2, e3⟩
    · cases hp
      exact x1.same.free nD
    · cases e1
      rw [hD] at e2
      cases e2
      obtain ⟨b, hb, e4⟩ := List.mem_map.mp e3
      cases e4
      exact x1.same.free (aw _ hb).2
theorem StOk.add (st : StOk K pl F0 H0 F H env σ) {i : Nat} {v : V} {r : RV} (hi : env[i]? = some none) (hv : σ[i]? = some (some v)) (w : View K F H v r) (n : ∀ p, Foot H r v p → H0 p = none ∧ ∀ k, ¬ OwnAt H env σ k p) : StOk K pl F0 H0 F H (env.set i (some r)) σ := by
  have hlt : i < env.length := (List.getElem?_eq_some_iff.mp hi).1
  have key : ∀ j p, OwnAt H (env.set i (some r)) σ j p → (j = i ∧ Foot H r v p) ∨ OwnAt H env σ j p := fun j p ⟨r', u, h1, h2, h3⟩ => by
    by_cases e : i = j
    · subst e
      rw [List.getElem?_set_self hlt] at h1
      cases h1
      rw [hv] at h2
      cases h2
      exact .inl ⟨rfl, h3⟩
    · rw [List.getElem?_set_ne e] at h1
      exact .inr ⟨r', u, h1, h2, h3⟩
  have kps : Keeps env (env.set i (some r)) σ σ := Keeps.set0 fun q e => by cases e; exact w.pl
  refine ⟨st.ext, ⟨st.ok.sub, by rw [List.length_set]; exact st.ok.len, fun j r' hj hpl => ?_, st.ok.tr_.keeps kps⟩, fun j p h => ?_, fun j k p h1 h2 => ?_, st.pin.keeps kps⟩
  · by_cases e : i = j
    · subst e
      rw [List.getElem?_set_self hlt] at hj
      cases hj
      exact ⟨v, hv, w⟩
    · rw [List.getElem?_set_ne e] at hj
      exact st.ok.at_ j r' hj hpl
  · rcases key j p h with ⟨_, z⟩ | z
    · exact (n p z).1
    · exact st.own j p z
  · rcases key j p h1 with ⟨e1, z1⟩ | z1
    · rcases key k p h2 with ⟨e2, z2⟩ | z2
      · rw [e1, e2]
      · exact absurd z2 ((n p z1).2 k)
    · rcases key k p h2 with ⟨e2, z2⟩ | z2
      · exact absurd z1 ((n p z2).2 j)
      · exact st.sep j k p z1 z2
open Classical in
noncomputable def restH (H : Hp) (env : Ev) (σ : L2.St) : Hp := fun b => if ∃ k, OwnAt H env σ k b then none else H b
end
end Mn
namespace Mn
open PySem PySem.Spec PyProof.Rows L2
section
variable {K : PySem.W.Frag} {pl : Pl} {F0 H0 F H F' H' : Hp} {env : Ev} {σ : L2.St} {c : Cl}
theorem noAl_eq {i j : Nat} {w : List Stp} (h : noAl env i = true) : env[j]? ≠ some (some (.al i w)) := fun e => by
  unfold noAl at h
  rw [List.all_eq_true] at h
  have := h _ (List.mem_of_getElem? e)
  simp at this
theorem StOk.setTr (st : StOk K pl F0 H0 F H env σ) (x : Ext F H F' H') {i : Nat} {v : V} {t : OT} {ps : List Addr} (hi : i < env.length) (tr : Tr K F' H' v t ps) (nd : ps.Nodup) (n : ∀ b ∈ ps, H b = none) (na : noAl env i = true) : StOk K pl F0 H0 F' H' (env.set i (some (.tr [] t))) (σ.set i (some v)) := by
  have ok' := st.ok.ext x
  have hi' : i < σ.length := by rw [← st.ok.len]; exact hi
  have key : ∀ j p, OwnAt H' (env.set i (some (.tr [] t))) (σ.set i (some v)) j p → (j = i ∧ H p = none) ∨ (j ≠ i ∧ OwnAt H env σ j p) := fun j p h => by
    obtain ⟨r', u, h1, h2, h3⟩ := h
    by_cases e : i = j
    · subst e
      rw [List.getElem?_set_self hi] at h1
      cases h1
      rw [List.getElem?_set_self hi'] at h2
      cases h2
      exact .inl ⟨rfl, n p ((foot_tr tr).mp h3)⟩
    · rw [List.getElem?_set_ne e] at h1 h2
      exact .inr ⟨fun z => e z.symm, OwnAt.back st.ok x.same ⟨r', u, h1, h2, h3⟩⟩
  refine ⟨st.ext.trans x, ⟨ok'.sub, by rw [List.length_set, List.length_set]; exact ok'.len, fun j r' h hp => ?_, ⟨fun j pw u h => ?_, fun j k w pw u h h' => ?_⟩⟩, fun j p h => ?_, fun j k p h1 h2 => ?_, fun j pw u h => ?_⟩
  · by_cases e : i = j
    · subst e
      rw [List.getElem?_set_self hi] at h
      cases h
      cases hp
    · rw [List.getElem?_set_ne e] at h ⊢
      exact ok'.at_ j r' h hp
  · by_cases e : i = j
    · subst e
      rw [List.getElem?_set_self hi] at h
      cases h
      exact ⟨v, ps, List.getElem?_set_self hi', tr, nd⟩
    · rw [List.getElem?_set_ne e] at h ⊢
      exact ok'.tr_.tr j pw u h
  · have e1 : i ≠ j := fun e => by
      subst e
      rw [List.getElem?_set_self hi] at h
      cases h
    rw [List.getElem?_set_ne e1] at h ⊢
    have e2 : i ≠ k := fun e => by
      subst e
      exact noAl_eq na h
    rw [List.getElem?_set_ne e2] at h' ⊢
    exact ok'.tr_.al j k w pw u h h'
  · rcases key j p h with ⟨_, e⟩ | ⟨_, h⟩
    · exact st.ext.same.free e
    · exact st.own j p h
  · rcases key j p h1 with ⟨e1, e⟩ | ⟨_, g1⟩
    · rcases key k p h2 with ⟨e2, _⟩ | ⟨_, g2⟩
      · rw [e1, e2]
      · obtain ⟨_, o, q⟩ := g2.there st.ok
        rw [e] at q; cases q
    · rcases key k p h2 with ⟨e2, e⟩ | ⟨_, g2⟩
      · obtain ⟨_, o, q⟩ := g1.there st.ok
        rw [e] at q; cases q
      · exact st.sep j k p g1 g2
  · by_cases e : i = j
    · subst e
      rw [List.getElem?_set_self hi] at h
      cases h
      exact ⟨v, List.getElem?_set_self hi', fun n w hw => by simp at hw⟩
    · rw [List.getElem?_set_ne e] at h ⊢
      exact (st.pin.mono x.same) j pw u h
theorem InAll.keep : ∀ {qs : List Addr} {dss : List (List PyData)}, InAll K F H qs dss → (∀ q ∈ qs, H' q = H q) → InAll K F H' qs dss
  | _, _, .nil, _ => .nil
  | _, _, .cons f h ra t, n => .cons f (by rw [n _ (by simp)]; exact h) ra (InAll.keep t fun q hq => n q (by simp [hq]))
theorem View.keep {v : V} {r : RV} (w : View K F H v r) (ke : ∀ b, Foot H r v b → H' b = H b) : View K F H' v r := by
  cases w with
  | fz q => exact .fz q
  | own f e q =>
    cases q with
    | lst ra => exact .own f (by rw [ke _ rfl]; exact e) (.lst ra)
    | dK ra => exact .own f (by rw [ke _ rfl]; exact e) (.dK ra)
    | dT kn ra => exact .own f (by rw [ke _ rfl]; exact e) (.dT kn ra)
    | on a nd np => exact .own f (by rw [ke _ (.inl rfl)]; exact e) (.on (a.keep fun q hq => ke q (.inr ⟨_, _, rfl, e, List.mem_map.mpr ⟨q, hq, rfl⟩⟩)) nd np)
theorem OwnAt.keep (ok : EnvOk K F H env σ) {i : Nat} (ke : ∀ b, OwnAt H env σ i b → H' b = H b) {p : Addr} (h : OwnAt H' env σ i p) : OwnAt H env σ i p := by
  obtain ⟨r, v, h1, h2, h3⟩ := h
  refine ⟨r, v, h1, h2, ?_⟩
  cases r with
  | on d =>
    rcases h3 with h3 | ⟨q, vs, y1, y2, y3⟩
    · exact .inl h3
    · subst y1
      rw [ke q ⟨_, _, h1, h2, .inl rfl⟩] at y2
      exact .inr ⟨_, _, rfl, y2, y3⟩
  | tr pw t =>
    obtain ⟨v', ps, y1, y2, _⟩ := ok.tr_.tr i pw t h1
    rw [h2] at y1
    cases y1
    have y3 : Tr K F H' v t ps := y2.other (ps := ps) (fun b hb => ke b ⟨_, v, h1, h2, (foot_tr y2).mpr hb⟩) fun b hb => hb
    exact (foot_tr y2).mpr ((foot_tr y3).mp h3)
  | _ => exact h3
theorem StOk.trW (st : StOk K pl F0 H0 F H env σ) {i : Nat} {pw : List (List Stp)} {t t' : OT} {v : V} {ps qs : List Addr} (h1 : env[i]? = some (some (.tr pw t))) (h2 : σ[i]? = some (some v)) (tr : Tr K F H v t ps) (tr' : Tr K F H' v t' qs) (nd : qs.Nodup)
    (hq : ∀ b ∈ qs, b ∈ ps ∨ (F b = none ∧ H0 b = none ∧ ∀ j, ¬ OwnAt H env σ j b)) (oth : ∀ b, b ∉ ps → b ∉ qs → H' b = H b)
    (hal : ∀ (j : Nat) w u x, env[j]? = some (some (.al i w)) → t.sub w = some u → u.isNd = true → walkH H v w = some x → ∃ u', t'.sub w = some u' ∧ u'.isNd = true ∧ walkH H' v w = some x)
    (hpn : ∀ w ∈ pw, ∀ u x, t.sub w = some u → u.isNd = true → walkH H v w = some x → ∃ u', t'.sub w = some u' ∧ u'.isNd = true ∧ walkH H' v w = some x) :
    StOk K pl F0 H0 F H' (env.set i (some (.tr pw t'))) σ := by
  have hi : i < env.length := (List.getElem?_eq_some_iff.mp h1).1
  have oq : ∀ b ∈ ps, OwnAt H env σ i b := fun b hb => ⟨_, _, h1, h2, (foot_tr tr).mpr hb⟩
  have away : ∀ j b, OwnAt H env σ j b → j ≠ i → H' b = H b := fun j b hb hj => oth b (fun z => hj (st.sep j i b hb (oq b z))) fun z => by
    rcases hq b z with y | ⟨_, _, y⟩
    · exact hj (st.sep j i b hb (oq b y))
    · exact y j hb
  have keep : ∀ b o, F b = some o → H' b = H b := fun b o hb => oth b (fun z => by
    have := (tr.there b z).1
    rw [hb] at this; cases this) (fun z => by
    have := (tr'.there b z).1
    rw [hb] at this; cases this)
  have h0 : ∀ b o, H0 b = some o → H' b = H b := fun b o hb => oth b (fun z => by rw [st.own i b (oq b z)] at hb; cases hb) (fun z => by
    rcases hq b z with y | ⟨_, y, _⟩
    · rw [st.own i b (oq b y)] at hb; cases hb
    · rw [y] at hb; cases hb)
  have key : ∀ j b, OwnAt H' (env.set i (some (.tr pw t'))) σ j b → (j = i ∧ b ∈ qs) ∨ (j ≠ i ∧ OwnAt H env σ j b) := fun j b hb => by
    by_cases ej : i = j
    · subst ej
      obtain ⟨r, u, z1, z2, z3⟩ := hb
      rw [List.getElem?_set_self hi] at z1
      cases z1
      rw [h2] at z2
      cases z2
      exact .inl ⟨rfl, (foot_tr tr').mp z3⟩
    · have ne : j ≠ i := fun z => ej z.symm
      obtain ⟨r, u, z1, z2, z3⟩ := hb
      rw [List.getElem?_set_ne ej] at z1
      exact .inr ⟨ne, OwnAt.keep st.ok (fun b hb => away j b hb ne) ⟨r, u, z1, z2, z3⟩⟩
  refine ⟨⟨st.ext.fr, fun b o hb => by rw [keep b o hb]; exact st.ext.sub _ _ hb, fun b o hb => by rw [h0 b o hb]; exact st.ext.same _ _ hb, st.ext.new⟩, ⟨fun b o hb => by rw [keep b o hb]; exact st.ok.sub _ _ hb, by rw [List.length_set]; exact st.ok.len, fun j r hj hp => ?_, ⟨fun j pw2 u hj => ?_, fun j k w pw2 u hj hk => ?_⟩⟩, fun j b hb => ?_, fun j k b hj hk => ?_, fun j pw2 u hj => ?_⟩
  · have ej : i ≠ j := fun e => by
      subst e
      rw [List.getElem?_set_self hi] at hj
      cases hj
      cases hp
    rw [List.getElem?_set_ne ej] at hj
    obtain ⟨x, z1, w⟩ := st.ok.at_ j r hj hp
    exact ⟨x, z1, w.keep fun b f => away j b ⟨r, x, hj, z1, f⟩ fun z => ej z.symm⟩
  · by_cases ej : i = j
    · subst ej
      rw [List.getElem?_set_self hi] at hj
      cases hj
      exact ⟨v, qs, h2, tr', nd⟩
    · rw [List.getElem?_set_ne ej] at hj
      obtain ⟨x, ps2, z1, z2, z3⟩ := st.ok.tr_.tr j pw2 u hj
      exact ⟨x, ps2, z1, z2.other (ps := ps2) (fun b hb => away j b ⟨_, x, hj, z1, (foot_tr z2).mpr hb⟩ fun z => ej z.symm) (fun b hb => hb), z3⟩
  · have ej : i ≠ j := fun e => by
      subst e
      rw [List.getElem?_set_self hi] at hj
      cases hj
    rw [List.getElem?_set_ne ej] at hj
    by_cases ek : i = k
    · subst ek
      rw [List.getElem?_set_self hi] at hk
      cases hk
      obtain ⟨v', x, u0, g1, g2, g3, g4, g5⟩ := st.ok.tr_.al j i w _ _ hj h1
      rw [h2] at g1
      cases g1
      obtain ⟨u', g6, g7, g8⟩ := hal j w u0 x hj g3 g4 g5
      exact ⟨v, x, u', h2, g2, g6, g7, g8⟩
    · rw [List.getElem?_set_ne ek] at hk
      obtain ⟨v', x, u0, g1, g2, g3, g4, g5⟩ := st.ok.tr_.al j k w _ _ hj hk
      obtain ⟨v2, ps2, z1, z2, _⟩ := st.ok.tr_.tr k _ _ hk
      rw [g1] at z1
      cases z1
      exact ⟨v', x, u0, g1, g2, g3, g4, z2.walk_other g3 (fun b hb => away k b ⟨_, v', hk, g1, (foot_tr z2).mpr hb⟩ fun z => ek z.symm) g5⟩
  · rcases key j b hb with ⟨_, z⟩ | ⟨_, z⟩
    · rcases hq b z with y | ⟨_, y, _⟩
      · exact st.own i b (oq b y)
      · exact y
    · exact st.own j b z
  · have cross : ∀ k, b ∈ qs → k ≠ i → OwnAt H env σ k b → False := fun k z hk y => by
      rcases hq b z with x | ⟨_, _, x⟩
      · exact hk (st.sep k i b y (oq b x))
      · exact x k y
    rcases key j b hj with ⟨ej, z⟩ | ⟨ej, z⟩
    · rcases key k b hk with ⟨ek, y⟩ | ⟨ek, y⟩
      · rw [ej, ek]
      · exact (cross k z ek y).elim
    · rcases key k b hk with ⟨ek, y⟩ | ⟨ek, y⟩
      · exact (cross j y ej z).elim
      · exact st.sep j k b z y
  · by_cases ej : i = j
    · subst ej
      rw [List.getElem?_set_self hi] at hj
      cases hj
      obtain ⟨v', g1, g2⟩ := st.pin i _ _ h1
      rw [h2] at g1
      cases g1
      refine ⟨v, h2, fun n w hw => ?_⟩
      obtain ⟨a, u0, g3, g4, g5, g6⟩ := g2 n w hw
      obtain ⟨u', g7, g8, g9⟩ := hpn w (List.mem_of_getElem? hw) u0 a g4 g5 g6
      exact ⟨a, u', g3, g7, g8, g9⟩
    · rw [List.getElem?_set_ne ej] at hj
      obtain ⟨x, g1, g2⟩ := st.pin j _ _ hj
      obtain ⟨v2, ps2, z1, z2, _⟩ := st.ok.tr_.tr j _ _ hj
      rw [g1] at z1
      cases z1
      refine ⟨x, g1, fun n w hw => ?_⟩
      obtain ⟨a, u0, g3, g4, g5, g6⟩ := g2 n w hw
      exact ⟨a, u0, g3, g4, g5, z2.walk_other g4 (fun b hb => away j b ⟨_, x, hj, g1, (foot_tr z2).mpr hb⟩ fun z => ej z.symm) g6⟩
end
end Mn
namespace Mn
open PySem PySem.Spec PyProof.Rows L2
theorem stepK_inj {k : Kd} {s s' : Stp} {j : Nat} (h : stepK k s = some j) (h' : stepK k s' = some j) : s = s' := by
  cases k with
  | ls =>
    cases s with
    | ix a =>
      cases s' with
      | ix b => cases h; cases h'; rfl
      | fl g => cases h'
    | fl f => cases h
  | tp =>
    cases s with
    | ix a =>
      cases s' with
      | ix b => cases h; cases h'; rfl
      | fl g => cases h'
    | fl f => cases h
  | ob nm fs =>
    cases s with
    | ix a => cases h
    | fl f =>
      cases s' with
      | ix b => cases h'
      | fl g =>
        have h : fs.findIdx? (fun x => x == f) = some j := h
        have h' : fs.findIdx? (fun x => x == g) = some j := h'
        obtain ⟨l1, e1, _⟩ := List.findIdx?_eq_some_iff_getElem.mp h
        obtain ⟨l2, e2, _⟩ := List.findIdx?_eq_some_iff_getElem.mp h'
        have e1 := eq_of_beq e1
        have e2 := eq_of_beq e2
        rw [← e1, ← e2]
theorem stepH_keep {H H' : Hp} {v : V} {s : Stp} (h : ∀ p, v = .ref p → H' p = H p) : stepH H' v s = stepH H v s := by
  cases v with
  | ref p =>
    have e := h p rfl
    cases s with
    | ix k =>
      show (match H' p with | some (.lst vs) => vs[k]? | some (.frz _ (.tup vs)) => vs[k]? | _ => none) = (match H p with | some (.lst vs) => vs[k]? | some (.frz _ (.tup vs)) => vs[k]? | _ => none)
      rw [e]
    | fl f =>
      show (match H' p with | some (.ins _ _ fs) => fs.lookup f | _ => none) = (match H p with | some (.ins _ _ fs) => fs.lookup f | _ => none)
      rw [e]
  | _ => cases s <;> rfl
section
variable {K : PySem.W.Frag} {pl : Pl} {F0 H0 F H F' H' : Hp} {env : Ev} {σ : L2.St} {c : Cl}
theorem TrAll.two : ∀ {vs : List V} {ts : List OT} {ps : List Addr} {i j : Nat} {t u : OT}, TrAll K F H vs ts ps → ps.Nodup → ts[i]? = some t → ts[j]? = some u → i ≠ j → ∃ v w qs qs', vs[i]? = some v ∧ vs[j]? = some w ∧ Tr K F H v t qs ∧ Tr K F H w u qs' ∧ ∀ b ∈ qs, b ∉ qs'
  | _, _, _, i, j, t, u, .nil, _, h, _, _ => by simp at h
  | _, _, _, 0, 0, t, u, .cons r s, _, _, _, n => absurd rfl n
  | _, _, _, 0, j + 1, t, u, .cons (v := v) r s, nd, h, h', n => by
    simp at h
    subst h
    obtain ⟨w, p1, p', p2, g1, g2, g3, _⟩ := s.nth (j := j) (by simpa using h')
    refine ⟨v, w, _, p', rfl, by simpa using g1, r, g2, fun b hb hb' => ?_⟩
    rw [g3] at nd
    exact (List.nodup_append.mp nd).2.2 b hb b (by simp [hb']) rfl
  | _, _, _, i + 1, 0, t, u, .cons (v := v) r s, nd, h, h', n => by
    simp at h'
    subst h'
    obtain ⟨w, p1, p', p2, g1, g2, g3, _⟩ := s.nth (j := i) (by simpa using h)
    refine ⟨w, v, p', _, by simpa using g1, rfl, g2, r, fun b hb hb' => ?_⟩
    rw [g3] at nd
    exact (List.nodup_append.mp nd).2.2 b hb' b (by simp [hb]) rfl
  | _, _, _, i + 1, j + 1, t, u, .cons r s, nd, h, h', n => by
    obtain ⟨v, w, qs, qs', h1, h2, h3, h4, h5⟩ := TrAll.two (i := i) (j := j) s (List.nodup_append.mp nd).2.1 (by simpa using h) (by simpa using h') (fun e => n (by rw [e]))
    exact ⟨v, w, qs, qs', by simpa using h1, by simpa using h2, h3, h4, h5⟩
theorem Tr.two {v : V} {k : Kd} {ts : List OT} {ps : List Addr} {s s' : Stp} {j j' : Nat} {t u : OT} (a : Tr K F H v (.nd k ts) ps) (nd : ps.Nodup) (hs : stepK k s = some j) (ht : ts[j]? = some t) (hs' : stepK k s' = some j') (hu : ts[j']? = some u) (ne : j ≠ j') :
    ∃ w w' qs qs', stepH H v s = some w ∧ stepH H v s' = some w' ∧ Tr K F H w t qs ∧ Tr K F H w' u qs' ∧ ∀ b ∈ qs, b ∉ qs' := by
  generalize e : OT.nd k ts = t0 at a
  cases a with
  | lf _ => cases e
  | dk _ _ _ => cases e
  | @ls p vs ts' ps f h a =>
    cases e
    obtain ⟨x, y, qs, qs', g1, g2, g3, g4, g5⟩ := a.two (List.nodup_cons.mp nd).2 ht hu ne
    cases s with
    | fl f => cases hs
    | ix i =>
      cases hs
      cases s' with
      | fl f => cases hs'
      | ix i' =>
        cases hs'
        refine ⟨x, y, qs, qs', ?_, ?_, g3, g4, g5⟩
        · show (match H p with | some (.lst vs) => vs[j]? | some (.frz _ (.tup vs)) => vs[j]? | _ => none) = _
          rw [h]; exact g1
        · show (match H p with | some (.lst vs) => vs[j']? | some (.frz _ (.tup vs)) => vs[j']? | _ => none) = _
          rw [h]; exact g2
  | @tp p o vs ts' ps f h g a =>
    cases e
    obtain ⟨x, y, qs, qs', g1, g2, g3, g4, g5⟩ := a.two (List.nodup_cons.mp nd).2 ht hu ne
    cases s with
    | fl f => cases hs
    | ix i =>
      cases hs
      cases s' with
      | fl f => cases hs'
      | ix i' =>
        cases hs'
        refine ⟨x, y, qs, qs', ?_, ?_, g3, g4, g5⟩
        · show (match H p with | some (.lst vs) => vs[j]? | some (.frz _ (.tup vs)) => vs[j]? | _ => none) = _
          rw [h]; exact g1
        · show (match H p with | some (.lst vs) => vs[j']? | some (.frz _ (.tup vs)) => vs[j']? | _ => none) = _
          rw [h]; exact g2
  | @ob p C dx nm fvs ts' ps f f2 h h2 c a =>
    cases e
    obtain ⟨x, y, qs, qs', g1, g2, g3, g4, g5⟩ := a.two (List.nodup_cons.mp (List.nodup_cons.mp nd).2).2 ht hu ne
    cases s with
    | ix i => cases hs
    | fl f0 =>
      cases s' with
      | ix i => cases hs'
      | fl f1 =>
        obtain ⟨x2, l1, l2⟩ := lookup_at hs
        obtain ⟨y2, l3, l4⟩ := lookup_at hs'
        rw [l2] at g1
        cases g1
        rw [l4] at g2
        cases g2
        refine ⟨x, y, qs, qs', ?_, ?_, g3, g4, g5⟩
        · show (match H p with | some (.ins _ _ fs) => fs.lookup f0 | _ => none) = _
          rw [h]; exact l1
        · show (match H p with | some (.ins _ _ fs) => fs.lookup f1 | _ => none) = _
          rw [h]; exact l3
theorem Tr.within {v x : V} {t u : OT} {w : List Stp} {ps qs : List Addr} (a : Tr K F H v t ps) (h : t.sub w = some u) (hw : walkH H v w = some x) (b : Tr K F H x u qs) : ∀ p ∈ qs, p ∈ ps := by
  obtain ⟨y, p1, p', p2, g1, g2, g3, _⟩ := a.at_ h
  rw [hw] at g1
  cases g1
  rw [← g2.det b]
  intro p hp
  rw [g3]
  simp [hp]
theorem Tr.beside : ∀ {w w' : List Stp} {v x y : V} {t t0 u0 u : OT} {ps ps0 : List Addr}, Tr K F H v t ps → ps.Nodup → t.sub w = some t0 → walkH H v w = some x → Tr K F H x t0 ps0 → (∀ b ∈ ps, b ∉ ps0 → H' b = H b) → t.sub w' = some u0 → u0.isNd = true → walkH H v w' = some y → (pre w w' = false ∨ (w' = w ∧ u.isNd = true)) →
    ∃ u', (t.put w u).sub w' = some u' ∧ u'.isNd = true ∧ walkH H' v w' = some y
  | [], w', v, x, y, t, t0, u0, u, ps, ps0, a, nd, h, hw, a0, ke, h', n', hw', d => by
    rcases d with d | ⟨rfl, d⟩
    · unfold pre at d; rw [List.isPrefixOf_nil_left] at d; cases d
    · cases hw'
      exact ⟨u, rfl, d, rfl⟩
  | s :: r, w', v, x, y, t, t0, u0, u, ps, ps0, a, nd, h, hw, a0, ke, h', n', hw', d => by
    cases t with
    | lf d => cases h
    | dk ks ds => cases h
    | nd k ts =>
      obtain ⟨j, h1, h⟩ := Option.bind_eq_some_iff.mp (show (stepK k s).bind (fun j => (ts[j]?).bind fun u => u.sub r) = some t0 from h)
      obtain ⟨t', h2, h⟩ := Option.bind_eq_some_iff.mp h
      obtain ⟨v1, p1, p', p2, e1, e2, e3, e4, _⟩ := a.step h1 h2
      have hw1 : walkH H v1 r = some x := by
        have : (stepH H v s).bind (fun u => walkH H u r) = some x := hw
        rw [e1] at this
        exact this
      have in0 : ∀ p ∈ ps0, p ∈ p' := e2.within h hw1 a0
      have hroot : ∀ p, v = .ref p → H' p = H p := fun p e => by
        have hp := e4 p e
        refine ke p (by rw [e3]; simp [hp]) fun z => ?_
        rw [e3] at nd
        exact (List.nodup_append.mp (List.nodup_append.mp nd).1).2.2 p hp p (in0 p z) rfl
      have hput : (OT.nd k ts).put (s :: r) u = .nd k (ts.set j (t'.put r u)) := by
        show (match stepK k s with | some j => (match ts[j]? with | some x => OT.nd k (ts.set j (x.put r u)) | none => OT.nd k ts) | none => OT.nd k ts) = _
        rw [h1]
        dsimp only
        rw [h2]
      rw [hput]
      cases w' with
      | nil =>
        cases hw'
        exact ⟨_, rfl, rfl, rfl⟩
      | cons s' r' =>
        obtain ⟨j', g1, g⟩ := Option.bind_eq_some_iff.mp (show (stepK k s').bind (fun j => (ts[j]?).bind fun u => u.sub r') = some u0 from h')
        obtain ⟨t2, g2, g⟩ := Option.bind_eq_some_iff.mp g
        by_cases es : s = s'
        · subst es
          rw [h1] at g1
          cases g1
          rw [h2] at g2
          cases g2
          have hw2 : walkH H v1 r' = some y := by
            have : (stepH H v s).bind (fun u => walkH H u r') = some y := hw'
            rw [e1] at this
            exact this
          have nd1 : p'.Nodup := by
            rw [e3] at nd
            exact (List.nodup_append.mp (List.nodup_append.mp nd).1).2.1
          obtain ⟨u', q1, q2, q3⟩ := Tr.beside (w := r) (w' := r') (u := u) e2 nd1 h hw1 a0 (fun b hb hn => ke b (by rw [e3]; simp [hb]) hn) g n' hw2 (by
            rcases d with d | ⟨d, z⟩
            · refine .inl ?_
              unfold pre at d ⊢
              rw [List.isPrefixOf_cons₂] at d
              simpa using d
            · cases d; exact .inr ⟨rfl, z⟩)
          refine ⟨u', ?_, q2, ?_⟩
          · show (stepK k s).bind (fun j' => ((ts.set j (t'.put r u))[j']?).bind fun u => u.sub r') = some u'
            rw [h1]
            show ((ts.set j (t'.put r u))[j]?).bind _ = _
            rw [List.getElem?_set_self (List.getElem?_eq_some_iff.mp h2).1]
            exact q1
          · show (stepH H' v s).bind _ = _
            rw [stepH_keep hroot, e1]
            exact q3
        · have nej : j ≠ j' := fun e => es (stepK_inj h1 (by rw [e]; exact g1))
          obtain ⟨w1, w2, qs, qs', q1, q2, q3, q4, q5⟩ := a.two nd h1 h2 g1 g2 nej
          rw [e1] at q1
          cases q1
          have ep : p' = qs := e2.det q3
          subst ep
          have hw2 : walkH H w2 r' = some y := by
            have : (stepH H v s').bind (fun u => walkH H u r') = some y := hw'
            rw [q2] at this
            exact this
          have in2 : ∀ b ∈ qs', b ∈ ps := a.within (w := [s']) (by
            show (stepK k s').bind _ = _
            rw [g1]
            show (ts[j']?).bind _ = _
            rw [g2]
            rfl) (by
            show (stepH H v s').bind _ = _
            rw [q2]
            rfl) q4
          refine ⟨u0, ?_, n', ?_⟩
          · show (stepK k s').bind (fun i => ((ts.set j (t'.put r u))[i]?).bind fun u => u.sub r') = some u0
            rw [g1]
            show ((ts.set j (t'.put r u))[j']?).bind _ = _
            rw [List.getElem?_set_ne nej, g2]
            exact g
          · show (stepH H' v s').bind _ = _
            rw [stepH_keep hroot, q2]
            exact q4.walk_other g (fun b hb => ke b (in2 b hb) fun z => q5 b (in0 b z) hb) hw2
def named (env : Ev) (i : Nat) (w : List Stp) : Prop := (∃ j : Nat, env[j]? = some (some (.al i w))) ∨ ∃ pw t, env[i]? = some (some (.tr pw t)) ∧ w ∈ pw
theorem free_no {i : Nat} {w w' : List Stp} (h : free env i w = true) (n : named env i w') : pre w w' = false := by
  unfold free at h
  simp only [Bool.and_eq_true, List.all_eq_true] at h
  obtain ⟨h1, h2⟩ := h
  rcases n with ⟨j, e⟩ | ⟨pw, t, e, m⟩
  · have := h1 _ (List.mem_of_getElem? e)
    simpa using this
  · rw [e] at h2
    have := (List.all_eq_true.mp h2) _ m
    simpa using this
theorem OT.put_append {u : OT} : ∀ {w r : List Stp} {t : OT}, (t.put w u).sub (w ++ r) = if (t.sub w).isSome then u.sub r else none
  | [], r, t => rfl
  | s :: w, r, t => by
    cases t with
    | lf d => rfl
    | dk ks ds => rfl
    | nd k ts =>
      show ((match stepK k s with | some j => (match ts[j]? with | some x => OT.nd k (ts.set j (x.put w u)) | none => OT.nd k ts) | none => OT.nd k ts) : OT).sub (s :: (w ++ r)) = if ((stepK k s).bind (fun j => (ts[j]?).bind fun u => u.sub w)).isSome then _ else _
      cases h1 : stepK k s with
      | none =>
        dsimp only
        show (stepK k s).bind _ = _
        rw [h1]
        rfl
      | some j =>
        dsimp only
        cases h2 : ts[j]? with
        | none =>
          dsimp only
          show (stepK k s).bind (fun j => (ts[j]?).bind _) = _
          rw [h1]
          show (ts[j]?).bind _ = _
          rw [h2]
          rw [Option.bind_some, h2]
          rfl
        | some x =>
          dsimp only
          show (stepK k s).bind (fun i => ((ts.set j (x.put w u))[i]?).bind fun u => u.sub (w ++ r)) = _
          rw [h1]
          show ((ts.set j (x.put w u))[j]?).bind _ = _
          rw [List.getElem?_set_self (List.getElem?_eq_some_iff.mp h2).1]
          show (x.put w u).sub (w ++ r) = _
          rw [OT.put_append, Option.bind_some, h2]
          rfl
theorem StOk.putAt (st : StOk K pl F0 H0 F H env σ) {q : Nat × List Stp} {t0 u : OT} {x : V} {ps0 qs : List Addr} (hq : treeAt env q.1 q.2 = some t0) (hp : PlAt σ H q x) (nu : u.isNd = true) (tr0 : Tr K F H x t0 ps0) (tr' : Tr K F H' x u qs) (nd : qs.Nodup)
    (hqs : ∀ b ∈ qs, b ∈ ps0 ∨ (F b = none ∧ H0 b = none ∧ ∀ j, ¬ OwnAt H env σ j b)) (oth : ∀ b, b ∉ ps0 → b ∉ qs → H' b = H b)
    (blw : ∀ s r u0 y, t0.sub (s :: r) = some u0 → u0.isNd = true → walkH H x (s :: r) = some y → named env q.1 (q.2 ++ s :: r) → ∃ u', u.sub (s :: r) = some u' ∧ u'.isNd = true ∧ walkH H' x (s :: r) = some y) :
    ∃ env', setTree env q.1 q.2 u = some env' ∧ StOk K pl F0 H0 F H' env' σ := by
  obtain ⟨i, w⟩ := q
  dsimp only at hq blw
  unfold treeAt at hq
  obtain ⟨t, h1, h2⟩ := bnd hq
  obtain ⟨pw, h3⟩ := rootAt_eq h1
  obtain ⟨v, ps, h4, h5, h6⟩ := st.ok.tr_.tr _ _ _ h3
  obtain ⟨v', g1, g2⟩ := hp
  dsimp only at g1 g2 ⊢
  have e : v' = v := by
    have g1 : σ[i]? = some (some v') := g1
    have h4 : σ[i]? = some (some v) := h4
    rw [h4] at g1
    cases g1
    rfl
  subst e
  obtain ⟨x', p1, p', p2, k1, k2, k3, k4⟩ := h5.at_ h2
  rw [g2] at k1
  cases k1
  have ep := tr0.det k2
  subst ep
  have nd1 := h6
  rw [k3] at nd1
  have dj1 : ∀ b ∈ p1, b ∉ ps0 := fun b hb hz => (List.nodup_append.mp (List.nodup_append.mp nd1).1).2.2 b hb b hz rfl
  have dj2 : ∀ b ∈ p2, b ∉ ps0 := fun b hb hz => (List.nodup_append.mp nd1).2.2 b (by simp [hz]) b hb rfl
  have oi : ∀ b ∈ ps, OwnAt H env σ i b := fun b hb => ⟨_, _, h3, h4, (foot_tr h5).mpr hb⟩
  have dq1 : ∀ b ∈ p1, b ∉ qs := fun b hb hz => by
    rcases hqs b hz with y | ⟨_, _, y⟩
    · exact dj1 b hb y
    · exact y i (oi b (by rw [k3]; simp [hb]))
  have dq2 : ∀ b ∈ p2, b ∉ qs := fun b hb hz => by
    rcases hqs b hz with y | ⟨_, _, y⟩
    · exact dj2 b hb y
    · exact y i (oi b (by rw [k3]; simp [hb]))
  have ke : ∀ b, b ∈ p1 ++ p2 → H' b = H b := fun b hb => by
    rcases List.mem_append.mp hb with hb | hb
    · exact oth b (dj1 b hb) (dq1 b hb)
    · exact oth b (dj2 b hb) (dq2 b hb)
  obtain ⟨m1, m2⟩ := k4 H' u qs ke tr'
  refine ⟨env.set i (some (.tr pw (t.put w u))), ?_, ?_⟩
  · unfold setTree
    rw [h3]
    rfl
  have keep : ∀ w' u0 y, named env i w' → t.sub w' = some u0 → u0.isNd = true → walkH H v' w' = some y → ∃ u', (t.put w u).sub w' = some u' ∧ u'.isNd = true ∧ walkH H' v' w' = some y := fun w' u0 y hn hs hi hw => by
    cases hpre : pre w w' with
    | false =>
      refine Tr.beside (u := u) h5 h6 h2 g2 tr0 (fun b hb hb' => ?_) hs hi hw (.inl hpre)
      refine ke b ?_
      rw [k3] at hb
      simp at hb ⊢
      rcases hb with z | z | z
      · exact .inl z
      · exact absurd z hb'
      · exact .inr z
    | true =>
      unfold pre at hpre
      obtain ⟨r, rfl⟩ := List.isPrefixOf_iff_prefix.mp hpre
      rw [OT.sub_append, h2] at hs
      rw [walkH_append, g2] at hw
      have hs : t0.sub r = some u0 := hs
      have hw : walkH H x r = some y := hw
      rw [OT.put_append, h2, walkH_append, m2]
      show ∃ u', u.sub r = some u' ∧ u'.isNd = true ∧ walkH H' x r = some y
      cases r with
      | nil => cases hs; cases hw; exact ⟨u, rfl, nu, rfl⟩
      | cons s r => exact blw s r u0 y hs hi hw hn
  refine st.trW h3 h4 h5 m1 ?_ (fun b hb => ?_) (fun b hb hb' => ?_) (fun j w' u0 y hj hs hi hw => keep w' u0 y (.inl ⟨j, hj⟩) hs hi hw) (fun w' hw' u0 y hs hi hw => keep w' u0 y (.inr ⟨pw, t, h3, hw'⟩) hs hi hw)
  · obtain ⟨n1, n2, n3⟩ := List.nodup_append.mp nd1
    obtain ⟨n4, n5, n6⟩ := List.nodup_append.mp n1
    refine List.nodup_append.mpr ⟨List.nodup_append.mpr ⟨n4, nd, fun a ha b hb e => dq1 a ha (e ▸ hb)⟩, n2, fun a ha b hb e => ?_⟩
    rcases List.mem_append.mp ha with ha | ha
    · exact n3 a (by simp [ha]) b hb e
    · exact dq2 b hb (e ▸ ha)
  · simp only [List.mem_append] at hb
    rcases hb with (hb | hb) | hb
    · exact .inl (by rw [k3]; simp [hb])
    · rcases hqs b hb with y | y
      · exact .inl (by rw [k3]; simp [y])
      · exact .inr y
    · exact .inl (by rw [k3]; simp [hb])
  · refine oth b (fun z => hb (by rw [k3]; simp [z])) fun z => hb' (by simp [z])
end
end Mn
namespace Mn
open PySem PySem.Spec PyProof.Rows L2
section
variable {K : PySem.W.Frag} {pl : Pl} {F0 H0 F H F' H' : Hp} {env : Ev} {σ : L2.St} {c : Cl}
theorem TrAll.other {ps : List Addr} (ke : ∀ b ∈ ps, H' b = H b) {vs : List V} {ts : List OT} {qs : List Addr} (a : TrAll K F H vs ts qs) (s : ∀ b ∈ qs, b ∈ ps) : TrAll K F H' vs ts qs := a.move (L := ps) (Same.refl _) (fun b f _ _ => f) (fun b hb => ke b hb) s
theorem TrAll.append : ∀ {vs ws : List V} {ts us : List OT} {ps qs : List Addr}, TrAll K F H vs ts ps → TrAll K F H ws us qs → TrAll K F H (vs ++ ws) (ts ++ us) (ps ++ qs)
  | _, _, _, _, _, _, .nil, h => h
  | _, _, _, _, _, _, .cons r s, h => by
    rw [List.append_assoc]
    exact .cons r (TrAll.append s h)
theorem TrAll.ofRp : ∀ {vs : List V} {ds : List PyData}, RpAll K F vs ds → TrAll K F H vs (ds.map OT.lf) []
  | _, _, .nil => .nil
  | _, _, .cons r t => .cons (ps := []) (.lf r) (TrAll.ofRp t)
theorem rowsK_zip : ∀ {ks : List Int} {ds : List PyData} {p : List Int × List PyData}, ks.length = ds.length → rowsK ((ks.map PyData.int).zip ds) = some p → p = (ks, ds)
  | [], [], p, _, h => by cases h; rfl
  | [], _ :: _, p, l, h => by cases l
  | _ :: _, [], p, l, h => by cases l
  | k :: ks, d :: ds, p, l, h => by
    obtain ⟨p', h1, h2⟩ := mpd (show (rowsK ((ks.map PyData.int).zip ds)).map _ = some p from h)
    have := rowsK_zip (ks := ks) (ds := ds) (by simpa using l) h1
    subst this
    rw [h2]
theorem onTr : ∀ {qs : List Addr} {dss : List (List PyData)}, InAll K F H qs dss → TrAll K F H (qs.map V.ref) (dss.map fun ds => OT.nd .ls (ds.map .lf)) qs
  | _, _, .nil => .nil
  | _, _, .cons f h ra t => .cons (ps := [_]) (.ls f h (TrAll.ofRp ra)) (onTr t)
theorem View.tree {v : V} {r : RV} {u : OT} (w : View K F H v r) (h : ofRV r = some u) : ∃ qs, Tr K F H v u qs ∧ qs.Nodup ∧ ∀ b ∈ qs, Foot H r v b := by
  cases w with
  | fz q => cases h; exact ⟨[], .lf q, by simp, fun b hb => by simp at hb⟩
  | @own p o _ f e q =>
    cases q with
    | lst ra =>
      cases h
      refine ⟨[p], .ls f e (TrAll.ofRp ra), by simp, fun b hb => ?_⟩
      rw [List.mem_singleton] at hb
      subst hb
      exact (rfl : V.ref _ = V.ref _)
    | @dK ob kvs ds ra =>
      obtain ⟨p', h1, h2⟩ := mpd (show (rowsK (((kvs.map fun x => x.1).map PyData.int).zip ds)).map _ = some u from h)
      have := rowsK_zip (by rw [List.length_map, ← ra.length, List.length_map]) h1
      subst this
      rw [← h2]
      refine ⟨[p], .dk f e ra, by simp, fun b hb => ?_⟩
      rw [List.mem_singleton] at hb
      subst hb
      exact (rfl : V.ref _ = V.ref _)
    | dT kn ra => cases h
    | on a nd np =>
      cases h
      refine ⟨p :: _, .ls f e (onTr a), List.nodup_cons.mpr ⟨fun z => np _ z rfl, nd⟩, fun b hb => ?_⟩
      rcases List.mem_cons.mp hb with rfl | hb
      · exact .inl rfl
      · exact .inr ⟨p, _, rfl, e, List.mem_map.mpr ⟨b, hb, rfl⟩⟩
theorem tof_new {e : Ex} {r : RV} {u : OT} {v : V} (h : tofD e r = some u) (w : View K F' H' v r) (n : isVar e = false → New r v H H') : ∃ qs, Tr K F' H' v u qs ∧ qs.Nodup ∧ ∀ b ∈ qs, H b = none := by
  unfold tofD at h
  by_cases hb : (isVar e && r.isOwn) = true
  · rw [if_pos hb] at h; cases h
  rw [if_neg hb] at h
  obtain ⟨qs, h1, h2, h3⟩ := w.tree h
  refine ⟨qs, h1, h2, fun b hq => ?_⟩
  cases hv : isVar e with
  | false => exact n hv b (h3 b hq)
  | true =>
    rw [hv, Bool.true_and] at hb
    cases r with
    | fz d => exact (h3 b hq).elim
    | _ => exact absurd rfl hb
theorem StOk.newOwn (st : StOk K pl F0 H0 F H env σ) (x : Ext F H F' H') {b : Addr} {o : HO} (hb : H b = none) (hb' : H' b = some o) : H0 b = none ∧ ∀ j, ¬ OwnAt H' env σ j b := ⟨st.ext.same.free hb, fun j q => by
  obtain ⟨_, o, e⟩ := (q.back st.ok x.same).there st.ok
  rw [hb] at e; cases e⟩
theorem listH {p : Addr} {vs : List V} (e : H p = some (.lst vs)) {k : Nat} {r : List Stp} : walkH H (.ref p) (.ix k :: r) = (vs[k]?).bind fun u => walkH H u r := by
  show ((match H p with | some (.lst vs) => vs[k]? | some (.frz _ (.tup vs)) => vs[k]? | _ => none) : Option V).bind _ = _
  rw [e]
theorem listT {ts : List OT} {k : Nat} {r : List Stp} : (OT.nd .ls ts).sub (.ix k :: r) = (ts[k]?).bind fun u => u.sub r := rfl
theorem sub_nd {t u : OT} : ∀ {w : List Stp}, t.sub w = some u → u.isNd = true → t.isNd = true
  | [], h, n => by cases h; exact n
  | s :: w, h, n => by
    cases t with
    | lf d => cases h
    | _ => rfl
theorem StOk.relist (st : StOk K pl F0 H0 F H env σ) {q : Nat × List Stp} {ts ts2 : List OT} {a : Addr} {vs vs2 : List V} {ps' qs2 : List Addr} (hq : treeAt env q.1 q.2 = some (.nd .ls ts)) (hp : PlAt σ H q (.ref a)) (fa : F a = none) (ea : H a = some (.lst vs)) (ta : TrAll K F H vs ts ps') (na : a ∉ ps') (ta2 : TrAll K F H vs2 ts2 qs2) (na2 : a ∉ qs2) (nd : qs2.Nodup)
    (hqs : ∀ b ∈ qs2, b ∈ ps' ∨ (H0 b = none ∧ ∀ j, ¬ OwnAt H env σ j b))
    (kp : ∀ (j : Nat) r u0, named env q.1 (q.2 ++ .ix j :: r) → ts[j]? = some u0 → u0.isNd = true → vs2[j]? = vs[j]? ∧ ts2[j]? = ts[j]?) :
    ∃ env', setTree env q.1 q.2 (.nd .ls ts2) = some env' ∧ StOk K pl F0 H0 F (L2.upd H a (.lst vs2)) env' σ := by
  have tr0 : Tr K F H (.ref a) (.nd .ls ts) (a :: ps') := .ls fa ea ta
  have ke : ∀ b ∈ ps', L2.upd H a (.lst vs2) b = H b := fun b hb => upd_ne fun e => na (e ▸ hb)
  have ke2 : ∀ b ∈ qs2, L2.upd H a (.lst vs2) b = H b := fun b hb => upd_ne fun e => na2 (e ▸ hb)
  have tr' : Tr K F (L2.upd H a (.lst vs2)) (.ref a) (.nd .ls ts2) (a :: qs2) := .ls fa upd_same (ta2.other ke2 fun b hb => hb)
  refine st.putAt hq hp rfl tr0 tr' (List.nodup_cons.mpr ⟨na2, nd⟩) (fun b hb => ?_) (fun b hb hb' => upd_ne fun e => hb (by simp [e])) fun s r u0 y hs hi hw hn => ?_
  · rcases List.mem_cons.mp hb with rfl | hb
    · exact .inl (by simp)
    · rcases hqs b hb with z | ⟨z1, z2⟩
      · exact .inl (by simp [z])
      · exact .inr ⟨(ta2.there b hb).1, z1, z2⟩
  · cases s with
    | fl f => cases hs
    | ix j =>
      rw [listT] at hs
      obtain ⟨u1, h1, h2⟩ := bnd hs
      obtain ⟨k1, k2⟩ := kp j r u1 hn h1 (sub_nd h2 hi)
      rw [listH ea] at hw
      obtain ⟨x1, h3, h4⟩ := bnd hw
      refine ⟨u0, ?_, hi, ?_⟩
      · rw [listT, k2, h1]; exact h2
      · rw [listH upd_same, k1, h3]
        obtain ⟨x2, p1, p', p2, g1, g2, g3, _⟩ := ta.nth h1
        rw [h3] at g1
        cases g1
        exact g2.walk_other h2 (fun b hb => ke b (by rw [g3]; simp [hb])) h4
theorem putF_ne {f g : Str} {v : V} (n : g ≠ f) (fs : List (Str × V)) : (putF f v fs).lookup g = fs.lookup g := by
  rw [lookup_putF, if_neg n]
theorem putFs_find : ∀ {fs : List Str} {ts : List OT} {f g : Str} {u : OT} {j : Nat}, fs.length = ts.length → g ≠ f → fs.findIdx? (fun x => x == g) = some j → (putFs fs ts f u).1.findIdx? (fun x => x == g) = some j ∧ (putFs fs ts f u).2[j]? = ts[j]?
  | [], _, f, g, u, j, l, n, h => by simp at h
  | _ :: _, [], f, g, u, j, l, n, h => by cases l
  | x :: fs, t :: ts, f, g, u, j, l, n, h => by
    unfold putFs
    rw [List.findIdx?_cons] at h
    by_cases e : x = f
    · rw [if_pos e]
      have e2 : (x == g) = false := by
        rw [beq_eq_false_iff_ne]
        exact fun z => n (by rw [← z, e])
      refine ⟨by rw [List.findIdx?_cons]; exact h, ?_⟩
      rw [e2] at h
      obtain ⟨j', h1, rfl⟩ := Option.map_eq_some_iff.mp (by simpa using h : (fs.findIdx? (fun x => x == g)).map (· + 1) = some j)
      rfl
    · rw [if_neg e]
      by_cases e2 : (x == g) = true
      · rw [if_pos e2] at h
        cases h
        exact ⟨by rw [List.findIdx?_cons, if_pos e2], rfl⟩
      · rw [if_neg e2] at h
        obtain ⟨j', h1, rfl⟩ := Option.map_eq_some_iff.mp h
        obtain ⟨k1, k2⟩ := putFs_find (u := u) (by simpa using l) n h1
        refine ⟨?_, ?_⟩
        · rw [List.findIdx?_cons, if_neg e2, k1]; rfl
        · simpa using k2
theorem fldAt_find : ∀ {fs : List Str} {ts : List OT} {f : Str} {j : Nat}, fs.length = ts.length → fs.findIdx? (fun x => x == f) = some j → fldAt fs ts f = ts[j]?
  | [], _, f, j, l, h => by simp at h
  | _ :: _, [], f, j, l, h => by cases l
  | x :: fs, t :: ts, f, j, l, h => by
    unfold fldAt
    rw [List.findIdx?_cons] at h
    by_cases e : x = f
    · rw [if_pos e]
      rw [if_pos (by rw [e]; exact beq_self_eq_true _)] at h
      cases h
      rfl
    · rw [if_neg e]
      rw [if_neg (fun z => e (eq_of_beq z))] at h
      obtain ⟨j', h1, rfl⟩ := Option.map_eq_some_iff.mp h
      rw [fldAt_find (by simpa using l) h1]
      simp
theorem put_tr {f : Str} {v : V} {u : OT} {qs : List Addr} (tu : Tr K F H v u qs) (ndq : qs.Nodup) : ∀ {fvs : List (Str × V)} {ts : List OT} {ps : List Addr}, TrAll K F H (fvs.map fun x => x.2) ts ps → ps.Nodup → (∀ b ∈ qs, b ∉ ps) →
    ∃ qs2, TrAll K F H ((putF f v fvs).map fun x => x.2) (putFs (fvs.map fun x => x.1) ts f u).2 qs2 ∧ ((putF f v fvs).map fun x => x.1) = (putFs (fvs.map fun x => x.1) ts f u).1 ∧ qs2.Nodup ∧ ∀ b ∈ qs2, b ∈ ps ∨ b ∈ qs
  | [], ts, ps, a, nd, dj => by
    cases a with
    | nil => exact ⟨qs ++ [], .cons tu .nil, rfl, by simpa using ndq, fun b hb => .inr (by simpa using hb)⟩
  | (g, x) :: fvs, ts, ps, a, nd, dj => by
    cases a with
    | @cons _ _ t ts' p1 p2 r s =>
      obtain ⟨n1, n2, n3⟩ := List.nodup_append.mp nd
      by_cases e : g = f
      · refine ⟨qs ++ p2, ?_, ?_, List.nodup_append.mpr ⟨ndq, n2, fun a ha b hb e => dj a ha (by rw [e]; simp [hb])⟩, fun b hb => ?_⟩
        · simp only [putF, putFs, List.map_cons, if_pos e]
          exact .cons tu s
        · simp only [putF, putFs, List.map_cons, if_pos e]
        · rcases List.mem_append.mp hb with hb | hb
          · exact .inr hb
          · exact .inl (by simp [hb])
      · obtain ⟨q2, k1, k2, k3, k4⟩ := put_tr tu ndq s n2 (fun b hb z => dj b hb (by simp [z]))
        refine ⟨p1 ++ q2, ?_, ?_, List.nodup_append.mpr ⟨n1, k3, fun a ha b hb e => ?_⟩, fun b hb => ?_⟩
        · simp only [putF, putFs, List.map_cons, if_neg e]
          exact .cons r k1
        · simp only [putF, putFs, List.map_cons, if_neg e]
          rw [k2]
        · subst e
          rcases k4 a hb with z | z
          · exact n3 a ha a z rfl
          · exact dj a z (by simp [ha])
        · rcases List.mem_append.mp hb with hb | hb
          · exact .inl (by simp [hb])
          · rcases k4 b hb with z | z
            · exact .inl (by simp [z])
            · exact .inr z
theorem StOk.refield (st : StOk K pl F0 H0 F H env σ) {q : Nat × List Stp} {nm f : Str} {ts : List OT} {a C dx : Addr} {fvs : List (Str × V)} {v : V} {u : OT} {ps' qs : List Addr} (hq : treeAt env q.1 q.2 = some (.nd (.ob nm (fvs.map fun x => x.1)) ts)) (hp : PlAt σ H q (.ref a)) (fa : F a = none) (fd : F dx = none) (ea : H a = some (.ins C dx fvs)) (ed : H dx = some (.own a)) (ca : ClsAt K nm C) (ta : TrAll K F H (fvs.map fun x => x.2) ts ps') (nd : (a :: dx :: ps').Nodup) (tu : Tr K F H v u qs) (ndq : qs.Nodup)
    (hqs : ∀ b ∈ qs, H0 b = none ∧ (∀ j, ¬ OwnAt H env σ j b) ∧ b ∉ a :: dx :: ps')
    (kp : ∀ x, fldAt (fvs.map fun x => x.1) ts f = some x → x.isNd = true → ∀ r, ¬ named env q.1 (q.2 ++ .fl f :: r)) :
    ∃ env', setTree env q.1 q.2 (.nd (.ob nm (putFs (fvs.map fun x => x.1) ts f u).1) (putFs (fvs.map fun x => x.1) ts f u).2) = some env' ∧ StOk K pl F0 H0 F (L2.upd H a (.ins C dx (putF f v fvs))) env' σ := by
  obtain ⟨nda, ndd⟩ := List.nodup_cons.mp nd
  obtain ⟨ndx, ndp⟩ := List.nodup_cons.mp ndd
  obtain ⟨qs2, k1, k2, k3, k4⟩ := put_tr (f := f) tu ndq ta ndp (fun b hb z => (hqs b hb).2.2 (by simp [z]))
  have tr0 : Tr K F H (.ref a) (.nd (.ob nm (fvs.map fun x => x.1)) ts) (a :: dx :: ps') := .ob fa fd ea ed ca ta
  have nq2 : ∀ b ∈ qs2, b ≠ a ∧ b ≠ dx := fun b hb => by
    rcases k4 b hb with z | z
    · exact ⟨fun e => nda (by rw [← e]; simp [z]), fun e => ndx (e ▸ z)⟩
    · have := (hqs b z).2.2
      simp at this
      exact ⟨this.1, this.2.1⟩
  have hda : dx ≠ a := fun e => nda (by rw [← e]; simp)
  have ke2 : ∀ b ∈ qs2, L2.upd H a (.ins C dx (putF f v fvs)) b = H b := fun b hb => upd_ne (nq2 b hb).1
  have ke : ∀ b ∈ ps', L2.upd H a (.ins C dx (putF f v fvs)) b = H b := fun b hb => upd_ne fun e => nda (by rw [← e]; simp [hb])
  have tr' : Tr K F (L2.upd H a (.ins C dx (putF f v fvs))) (.ref a) (.nd (.ob nm (putFs (fvs.map fun x => x.1) ts f u).1) (putFs (fvs.map fun x => x.1) ts f u).2) (a :: dx :: qs2) := by
    rw [← k2]
    exact .ob fa fd upd_same (by rw [upd_ne hda]; exact ed) ca (k1.other ke2 fun b hb => hb)
  refine st.putAt hq hp rfl tr0 tr' (List.nodup_cons.mpr ⟨fun z => ?_, List.nodup_cons.mpr ⟨fun z => (nq2 _ z).2 rfl, k3⟩⟩) (fun b hb => ?_) (fun b hb hb' => upd_ne fun e => hb (by simp [e])) fun s r u0 y hs hi hw hn => ?_
  · rcases List.mem_cons.mp z with z | z
    · exact hda z.symm
    · exact (nq2 _ z).1 rfl
  · rcases List.mem_cons.mp hb with rfl | hb
    · exact .inl (by simp)
    · rcases List.mem_cons.mp hb with rfl | hb
      · exact .inl (by simp)
      · rcases k4 b hb with z | z
        · exact .inl (by simp [z])
        · exact .inr ⟨(tu.there b z).1, (hqs b z).1, (hqs b z).2.1⟩
  · cases s with
    | ix j => cases hs
    | fl g =>
      obtain ⟨j, h1, h2⟩ := bnd (show (stepK (.ob nm (fvs.map fun x => x.1)) (.fl g)).bind (fun j => (ts[j]?).bind fun u => u.sub r) = some u0 from hs)
      obtain ⟨u1, h2, h3⟩ := bnd h2
      have hlen : (fvs.map fun x => x.1).length = ts.length := by rw [List.length_map, ← ta.length, List.length_map]
      have ng : g ≠ f := fun e => by
        subst e
        refine kp u1 ?_ (sub_nd h3 hi) r hn
        rw [fldAt_find hlen h1]; exact h2
      obtain ⟨g1, g2⟩ := putFs_find (u := u) hlen ng h1
      have hw2 : ((match H a with | some (.ins _ _ fs) => fs.lookup g | _ => none) : Option V).bind (fun x => walkH H x r) = some y := hw
      rw [ea] at hw2
      obtain ⟨x1, h4, h5⟩ := bnd hw2
      refine ⟨u0, ?_, hi, ?_⟩
      · show (stepK (.ob nm (putFs (fvs.map fun x => x.1) ts f u).1) (.fl g)).bind (fun j => ((putFs (fvs.map fun x => x.1) ts f u).2[j]?).bind fun u => u.sub r) = some u0
        rw [show stepK (.ob nm (putFs (fvs.map fun x => x.1) ts f u).1) (.fl g) = some j from g1]
        show ((putFs (fvs.map fun x => x.1) ts f u).2[j]?).bind _ = _
        rw [g2, h2]
        exact h3
      · show ((match L2.upd H a (.ins C dx (putF f v fvs)) a with | some (.ins _ _ fs) => fs.lookup g | _ => none) : Option V).bind (fun x => walkH (L2.upd H a (.ins C dx (putF f v fvs))) x r) = some y
        rw [upd_same]
        show ((putF f v fvs).lookup g).bind _ = _
        have h4 : fvs.lookup g = some x1 := h4
        rw [putF_ne ng, h4]
        obtain ⟨x2, l1, l2⟩ := lookup_at h1
        have l1 : fvs.lookup g = some x2 := l1
        rw [h4] at l1
        cases l1
        obtain ⟨x3, p1, p', p2, m1, m2, m3, _⟩ := ta.nth h2
        rw [l2] at m1
        cases m1
        exact m2.walk_other h3 (fun b hb => ke b (by rw [m3]; simp [hb])) h5
end
end Mn
namespace Mn
open PySem PySem.Spec PyProof.Rows L2
section
variable {K : PySem.W.Frag} {pl : Pl} {F0 H0 F H F' H' : Hp} {env : Ev} {σ : L2.St} {c : Cl}
mutual
theorem Tr.flatB (t : ∀ a xs, TupN K F a xs → TupN K F' a xs) (nn : ∀ b, F b = none → F' b = none) : ∀ {v : V} {u : OT} {ps : List Addr}, Tr K F H v u ps → u.flatL = true → Tr K F' H v u ps
  | _, _, _, .lf r, e => .lf (Rp.flat t r (by simpa [OT.flatL] using e))
  | _, _, _, .dk f h r, e => .dk (nn _ f) h (RpAll.flat t r (by simpa [OT.flatL] using e))
  | _, _, _, .ls f h a, e => .ls (nn _ f) h (TrAll.flatB t nn a (by simpa [OT.flatL] using e))
  | _, _, _, .tp f h g a, e => .tp (nn _ f) h g (TrAll.flatB t nn a (by simpa [OT.flatL] using e))
  | _, _, _, .ob f f2 h h2 c a, e => .ob (nn _ f) (nn _ f2) h h2 c (TrAll.flatB t nn a (by simpa [OT.flatL] using e))
theorem TrAll.flatB (t : ∀ a xs, TupN K F a xs → TupN K F' a xs) (nn : ∀ b, F b = none → F' b = none) : ∀ {vs : List V} {us : List OT} {ps : List Addr}, TrAll K F H vs us ps → OT.flatLs us = true → TrAll K F' H vs us ps
  | _, _, _, .nil, _ => .nil
  | _, _, _, .cons r s, e => by
    simp only [OT.flatLs, Bool.and_eq_true] at e
    exact .cons (Tr.flatB t nn r e.1) (TrAll.flatB t nn s e.2)
end
end
end Mn
namespace Mn
open PySem PySem.Spec PyProof.Rows L2
section
variable {X : Cx} {s : Sx} {c : Cl}
theorem var_i (C : CO X s c) {i : Nat} {x : Str} {px : Pos} (hi : s.N[i]? = some x) (hv : s.vis x = true) (hk : okN x = true) : PE X (.Name x px) (tVar i) := pe_var (by rw [C.N]; exact hi) (C.vis hv) (okN1 hk).1 (okN1 hk).2
theorem name_base {x nm : Str} {px : Pos} {env : Env} : attributeBase (.Name x px) nm env (eval (.Name x px) env) = eval (.Name x px) env := rfl
theorem dataAt {K : PySem.W.Frag} {F0 H0 F H : Hp} {env : Ev} {σ : L2.St} {a : Ex} {r : RV} {d : PyData} {Q : VK} (st : StOk K pl F0 H0 F H env σ) (h : ev c env a = some r) (ho : ownD a r = some d)
    (k : ∀ v F' H', Ext F H F' H' → Rp K F' v d → Q v H') : tE K c a σ H Q :=
  ⟨F, env, r, st.ok, h, fun v F1 H1 x1 w1 n1 => by
    obtain ⟨_, F2, x2, w2⟩ := own_rp ho x1 w1 n1
    exact k v F2 H1 x2 w2⟩
theorem PS.len {st : Stmt} {t t' : TS} (h : PS X st t) (f : ∀ D σ H, σ.length = X.N.length → t' D σ H → t D σ H) : PS X st t' := ⟨fun pins s σ H D I q => h.run pins s σ H D I (f D σ H I.len q)⟩
theorem set_len {K : PySem.W.Frag} {F0 H0 F H : Hp} {env : Ev} {σ : L2.St} (st : StOk K pl F0 H0 F H env σ) {i : Nat} {x : Str} (C : CO X s c) (hi : s.N[i]? = some x) (hN : σ.length = X.N.length) : i < env.length := by
  rw [st.ok.len, hN, C.N]
  exact (List.getElem?_eq_some_iff.mp hi).1
theorem swap_call {f : Expr} {xs : List Expr} {ks : List Keyword} {p : Pos} (t : Option Expr) (l : Nat) (env : Env) : swapsWith (.Call f xs ks p) t l env = pure false := rfl
theorem swap_tup {v : Expr} {ts : List Expr} {k : Nat} {p : Pos} (l : Nat) (env : Env) : swapsWithSole [.Tuple ts k p] v l env = pure false := by
  show swapsWith v (some (.Tuple ts k p)) l env = pure false
  cases v <;> rfl
theorem stores_tup {v : Expr} {ts : List Expr} {k : Nat} {p : Pos} (h : isTup v = false) (env : Env) : swappedStores [.Tuple ts k p] v env = pure none := by
  cases v with
  | Tuple _ _ _ => cases h
  | _ => rfl
structure COS (X : Cx) (s : Sx) (c : Cl) (W : XK) : Prop extends CO X s c where
  tk : Takes X (fun cv dd _ H => W cv dd H)
  po : PassesOwn (model X.prog X.w) X.A X.env X.xe
  stk : X.stack = X.env :: X.outer
  frm : X.env.frame = some X.env.locals
  pa : ∀ hd : Option Value, PassesOwnAt (model X.prog X.w) (X.A.mark hd) X.A X.env X.xe
theorem CO.other {X : Cx} {s : Sx} {c : Cl} (C : CO X s c) (pn : List (Addr × Obj)) (xe : Value → Shared → Prop) : CO (X.tr pn xe) s c :=
  ⟨C.sc, C.N, C.nd, C.fn, C.calm, C.un, C.bn, fun f x h => let ⟨np, h1, h2⟩ := C.fns f x h; ⟨np, h1, ⟨h2.ex⟩⟩, C.gls, fun f x h => let ⟨np, h1, h2⟩ := C.xfn f x h; ⟨np, h1, ⟨h2.ex⟩⟩, C.xc, C.x1, C.gd, C.ofs, fun f cn x q h => let ⟨h0, np, h1, h2⟩ := C.tfn f cn x q h; ⟨h0, np, h1, ⟨h2.ex⟩⟩, fun f x h => let ⟨h0, np, h1, h2⟩ := C.mkc f x h; ⟨h0, np, h1, ⟨h2.ex⟩⟩, fun f x h => let ⟨np, h1, h2⟩ := C.rfn f x h; ⟨np, h1, ⟨h2.ex⟩⟩, C.al, fun cl m s h => ⟨(C.im cl m s h).ex⟩, C.ja, fun g sm h => let ⟨np, h1, h2⟩ := C.en g sm h; ⟨np, h1, ⟨h2.ex⟩⟩, C.hm⟩
theorem COS.nox {X : Cx} {s : Sx} {c : Cl} {W : XK} (C : COS X s c W) : COS X.nox s c (fun _ _ _ => False) where
  toCO := C.toCO.other X.pn _
  tk := fun _ _ ⟨_, _, _, _, _, _, _, _, _, _, _, _, _, _, _, _, h⟩ => h.elim
  po := PassesOwn.never
  stk := C.stk
  frm := C.frm
  pa := fun _ => PassesOwnAt.never
theorem forL_step {K : PySem.W.Frag} {W : XK} {tg : Tg} {it : Mn.Itr} {b : Sms} {σ : L2.St} {H : Hp} {D : Ends} (h : tS K W c (.for_ tg it b) D σ H) : tFor (tI K c it) (gS K tg) (tSs K W c b) D σ H := by
  obtain ⟨pl, F0, H0, F, env, o, st, h, post⟩ := h
  have h : (if borI c env it = true then none else (evi c env it).bind fun items => forL (fun env x => (bindT tg env x).bind fun env' => exSs c b env') items env) = some o := by simpa only [exS] using h
  by_cases hb : borI c env it = true
  · rw [if_pos hb] at h; cases h
  rw [if_neg hb] at h
  obtain ⟨items, h1, h2⟩ := bnd h
  refine ⟨F, env, items, st.ok, h1, fun J F1 H1 x1 wd wf => ?_⟩
  obtain ⟨F2, x2, wd⟩ := wf (by simpa using hb)
  have st2 := st.step x2
  let f : Ev → PyData → Option Out := fun env x => (bindT tg env x).bind fun env' => exSs c b env'
  have h2 : forL f items env = some o := h2
  let Pv : Nat → L2.St → Hp → Prop := fun i σ' H' => ∃ F' env', StOk K pl F2 H0 F' H' env' σ' ∧ forL f (items.drop i) env' = some o
  refine ⟨fun i m σ' H' => m = items.length - i ∧ i ≤ items.length ∧ Pv i σ' H', ⟨items.length, by simp, Nat.zero_le _, F2, env, st2.based, h2⟩, ?_⟩
  rintro i m σ' H' ⟨rfl, hi, F', env', st', hf⟩
  obtain ⟨w1, w2⟩ := wd H' F' (st'.ext.fr.trans st'.ext.sub) st'.ext.fr st'.ext.sub
  by_cases hlt : i < items.length
  · obtain ⟨go, yl⟩ := w2 i items[i] (by simp [hlt])
    have hd : items.drop i = items[i] :: items.drop (i + 1) := List.drop_eq_getElem_cons hlt
    rw [hd] at hf
    obtain ⟨o', hf1, hf2⟩ := bnd (show (f env' items[i]).bind _ = some o from hf)
    obtain ⟨env2, hf3, hf4⟩ := bnd (show (bindT tg env' items[i]).bind _ = some o' from hf1)
    refine .inr ⟨go, Pv (i + 1), fun σ2 H2 p => ⟨items.length - (i + 1), by omega, rfl, hlt, p⟩, fun x H3 y => ?_⟩
    obtain ⟨F3, x3, rp⟩ := yl x H3 y
    have st3 := st'.step x3
    refine ⟨F3, env', items[i], env2, st3.ok, rp, hf3, fun σ2 _ ok2 ho kp => ?_⟩
    refine ⟨pl, F2, H0, F3, env2, o', ⟨st3.ext, ok2, fun j p q => st3.own j p (ho j p q), fun j k p q1 q2 => st3.sep j k p (ho j p q1) (ho k p q2), st3.pin.keeps kp⟩, hf4, ?_⟩
    cases o' with
    | nx e2 => exact fun F4 σ4 H4 s4 => ⟨F4, e2, s4, hf2⟩
    | ct e2 => exact fun F4 σ4 H4 s4 => ⟨F4, e2, s4, hf2⟩
    | bk e2 =>
      cases hf2
      exact fun F4 σ4 H4 s4 => post F4 σ4 H4 (s4.rebase st2.ext)
    | rt r =>
      cases hf2
      have up : ∀ {F4 H4}, Ext F2 H0 F4 H4 → Ext F0 H0 F4 H4 := fun x4 => ⟨st2.ext.fr.trans x4.fr, x4.sub, x4.same, fun b o e => (x4.new b o e).elim (fun q => st2.ext.new b o q) .inr⟩
      exact ⟨fun v F4 H4 x4 w n => post.1 v F4 H4 (up x4) w n, fun d e F4 H4 cv dd x4 q => post.2 d e F4 H4 cv dd (up x4) q⟩
    | re r e2 =>
      cases hf2
      exact ⟨fun v F4 σ4 H4 s4 w n => post.1 v F4 σ4 H4 (s4.rebase st2.ext) w n, fun d e F4 σ4 H4 cv dd s4 q => post.2 d e F4 σ4 H4 cv dd (s4.rebase st2.ext) q⟩
  · have e : i = items.length := by omega
    subst e
    rw [List.drop_length] at hf
    cases hf
    exact .inl ⟨w1, post F' σ' H' (st'.rebase st2.ext)⟩
end
section
variable {X : Cx} {s : Sx} {c : Cl} {Wx : WX}
end
end Mn
namespace Mn
open PySem PySem.Spec PyProof.Rows L2
theorem setTree_go {env env' : Ev} {i : Nat} {w : List Stp} {u : OT} {o : Out} (h : setTree env i w u = some env') (h2 : (setTree env i w u).map Out.nx = some o) : o = .nx env' := by
  rw [h] at h2
  cases h2
  rfl
theorem PlAt.ext {σ : L2.St} {H H' : Hp} {q : Nat × List Stp} {v : V} (p : PlAt σ H q v) (e : Same H H') : PlAt σ H' q v := let ⟨r, h1, h2⟩ := p; ⟨r, h1, walkH_mono e h2⟩
section
variable {K : PySem.W.Frag} {pl : Pl} {F0 H0 F H F1 H1 F' H' : Hp} {env : Ev} {σ : L2.St} {c : Cl}
theorem putNew (st : StOk K pl F0 H0 F H env σ) (x : Ext F H F1 H1) {qs : List Addr} {v : V} {u : OT} (tr : Tr K F1 H1 v u qs) (n : ∀ b ∈ qs, H b = none) : ∀ b ∈ qs, H0 b = none ∧ ∀ j, ¬ OwnAt H1 env σ j b := fun b hb => by
  obtain ⟨_, o, e⟩ := tr.there b hb
  exact st.newOwn x (n b hb) e
theorem lsAt (ok : EnvOk K F H env σ) {q : Nat × List Stp} {ts : List OT} (h : treeAt env q.1 q.2 = some (.nd .ls ts)) {v : V} (pl : PlAt σ H q v) : ∃ a vs ps', v = .ref a ∧ F a = none ∧ H a = some (.lst vs) ∧ TrAll K F H vs ts ps' ∧ a ∉ ps' ∧ ps'.Nodup ∧ OwnAt H env σ q.1 a ∧ ∀ b ∈ ps', OwnAt H env σ q.1 b := by
  obtain ⟨ps, tr, nd⟩ := ok.place h pl
  obtain ⟨ps2, tr2, ow⟩ := ok.place2 h pl
  rw [← tr.det tr2] at ow
  obtain ⟨a, vs, ps', rfl, f, e, ta, rfl⟩ := tr.lsE
  obtain ⟨n1, n2⟩ := List.nodup_cons.mp nd
  exact ⟨a, vs, ps', rfl, f, e, ta, n1, n2, ow a (by simp), fun b hb => ow b (by simp [hb])⟩
theorem swap_atr {v o : Expr} {f : Str} {p : Pos} (l : Nat) (env : Env) : swapsWith v (some (.Attribute o f p)) l env = pure false := by
  cases v <;> rfl
theorem StOk.push (st : StOk K pl F0 H0 F H env σ) {q : Nat × List Stp} {ts : List OT} {a : Addr} {v : V} {u : OT} {qs : List Addr} (hq : treeAt env q.1 q.2 = some (.nd .ls ts)) (hp : PlAt σ H q (.ref a)) (tu : Tr K F H v u qs) (nd : qs.Nodup) (n : ∀ b ∈ qs, H0 b = none ∧ ∀ j, ¬ OwnAt H env σ j b) :
    ∃ vs, H a = some (.lst vs) ∧ vs.length = ts.length ∧ ∃ env', setTree env q.1 q.2 (.nd .ls (ts ++ [u])) = some env' ∧ StOk K pl F0 H0 F (L2.upd H a (.lst (vs ++ [v]))) env' σ := by
  obtain ⟨a', vs, ps', e, fa, ea, ta, na, np, oa, ob⟩ := lsAt st.ok hq hp
  cases e
  have l := ta.length
  refine ⟨vs, ea, l, st.relist hq hp fa ea ta na (ta.append (.cons tu .nil)) (fun z => ?_) (List.nodup_append.mpr ⟨np, by simpa using nd, fun x hx y hy e => ?_⟩) (fun b hb => ?_) fun j r u0 _ h1 _ => ?_⟩
  · rcases List.mem_append.mp z with z | z
    · exact na z
    · exact (n a (by simpa using z)).2 _ oa
  · subst e
    exact (n x (by simpa using hy)).2 _ (ob x hx)
  · rcases List.mem_append.mp hb with z | z
    · exact .inl z
    · exact .inr (n b (by simpa using z))
  · have hj : j < ts.length := (List.getElem?_eq_some_iff.mp h1).1
    rw [List.getElem?_append_left (by omega), List.getElem?_append_left hj]
    exact ⟨rfl, rfl⟩
end
section
variable {X : Cx} {s : Sx} {c : Cl} {W : XK}
theorem snd_tapP {p : Pth} {d0 e : Ex} {tg : Tg} {it : Itr} {own : List Nat} {st : Stmt} (C : COS X s c W) (h : chkS (.tapP p d0 e tg it own) s st = true) : PS X st (tS X.K W c (.tapP p d0 e tg it own)) := by
  unfold chkS at h
  split at h
  · simp only [Bool.and_eq_true, decide_eq_true_eq] at h
    obtain ⟨⟨⟨⟨⟨h1, h2⟩, h3⟩, h4⟩, h5⟩, h6⟩ := h
    subst h1
    have hp0 := chk_plain h5
    have hp := chk_plain h6
    have hc := h6
    unfold chkE at hc
    split at hc
    · rename_i elt tg' iter ifs kk scope pp
      simp only [Bool.and_eq_true, decide_eq_true_eq] at hc
      obtain ⟨⟨⟨⟨⟨⟨k0, k1⟩, k2⟩, k3⟩, k4⟩, k5⟩, k6⟩ := hc
      subst k0
      have P := pe_lc (pos := pp) (g := gS X.K tg) (tt := tTs X.K c .emp) (te := tE X.K c e) C.calm C.nd (sndI it C.toCO k3) (blkOk_by (own := ownN s own) (by rw [C.N, C.sc]; exact k1)) (fun s1 H A cl fp => pg_tg C.toCO.blk k4) (fun s1 H A cl fp => sndTs .emp C.toCO.blk k6) (fun s1 H A cl fp => (sndP e C.toCO.blk k5).pe) (set_of (chkI_plain k3) _)
      rw [ownN_map] at P
      have PT := fun (kt : Nat) (pt : Pos) => pe_tupN (x1 := kt) (pos := pt) (pa_cons (sndP d0 C.toCO h5).pe (pa_cons P pa_nil (star_of hp _ _)) (star_of hp0 _ _))
      refine PS.imp (ps_expr (pe_bm PySem.F.plainAttrs_list PySem.F.slot_list_append PySem.F.type_list_append mt_append (sndPth p C.toCO h4) (pa_cons (PT _ _) pa_nil (star_of (by rfl) _ _)) (base_of h3 _ _ _) (few1 (by rfl) _) h2 (star_of (by rfl) _ _) (by rfl)) (swap_call _ _ _)) fun D σ H ⟨pl, F0, H0, F, env, o, st, h, post⟩ => ?_
      obtain ⟨q, g1, h⟩ := bnd (show (evP c env p).bind _ = some o by simpa only [exS] using h)
      obtain ⟨r0, f1, h⟩ := bnd h
      obtain ⟨d, f2, h⟩ := bnd h
      obtain ⟨items, g2, h⟩ := bnd h
      obtain ⟨dss, g3, h⟩ := bnd h
      obtain ⟨ts, g4, h⟩ := bnd h
      obtain ⟨g5, h⟩ := itd' h
      obtain ⟨t, g6, g7⟩ := bnd g4
      obtain rfl := kids_eq g7
      refine ⟨F, env, q, st.ok, g1, fun v F1 H1 x1 hpl => ?_⟩
      have st1 := st.step x1
      obtain ⟨a, vs, ps', rfl, fa, ea, _⟩ := lsAt st1.ok g6 hpl
      refine ⟨.inl ⟨rfl, vs, SqL.of ea⟩, ?_⟩
      refine ⟨F1, env, r0, st1.ok, f1, fun v0 F1' H1' y1 w1 n1 => ?_⟩
      obtain ⟨_, F1s, y1', rp0⟩ := own_rp f2 y1 w1 n1
      have st1s := st1.step y1'
      refine compD_ok k2 st1s.ok g2 g3 g5.1 fun v F2 H2 x2 w2 n2 => ?_
      refine ⟨by show 2 ≤ sizeLine; decide, fun pp ob to hn => ?_⟩
      have x3 : Ext F2 H2 F2 (L2.upd H2 pp (.frz ob (.tup [v0, v]))) := Ext.lay0 x2.sub hn
      have xx := x2.trans x3
      have st2 := st1s.step xx
      obtain ⟨qs, tu, nd, nw⟩ := w2.tree (u := .nd .ls (dss.map fun ds => .nd .ls (ds.map .lf))) rfl
      have tu3 := tu.ext x3
      have hpq : pp ∉ qs := fun z => by
        obtain ⟨_, o', e'⟩ := tu.there pp z
        rw [hn] at e'
        cases e'
      have tt : Tr X.K F2 (L2.upd H2 pp (.frz ob (.tup [v0, v]))) (.ref pp) (.nd .tp [.lf d, .nd .ls (dss.map fun ds => .nd .ls (ds.map .lf))]) (pp :: ([] ++ (qs ++ []))) := .tp (x2.sub.free hn) upd_same to (.cons (.lf (rp0.mono xx.fr)) (.cons tu3 .nil))
      rw [List.nil_append, List.append_nil] at tt
      obtain ⟨vs2, e2, l, env', hs, st3⟩ := st2.push g6 (hpl.ext (y1'.same.trans xx.same)) tt (List.nodup_cons.mpr ⟨hpq, nd⟩) (putNew st1s xx tt fun b hb => by
        rcases List.mem_cons.mp hb with rfl | hb
        · exact x2.same.free hn
        · exact n2 b (nw b hb))
      have ea2 := xx.same _ _ (y1'.same _ _ ea)
      rw [ea2] at e2
      cases e2
      have := setTree_go hs h
      subst this
      exact ⟨a, vs, .ref pp, rfl, rfl, ea2, by rw [l]; exact LIM_lt g5.2, post F2 σ _ st3⟩
    · cases hc
  · cases h
theorem snd_tfl {p : Pth} {f : Str} {e : Ex} {st : Stmt} (C : COS X s c W) (h : chkS (.tfl p f e) s st = true) : PS X st (tS X.K W c (.tfl p f e)) := by
  unfold chkS at h
  split at h
  · simp only [Bool.and_eq_true, decide_eq_true_eq] at h
    obtain ⟨⟨⟨h1, h2⟩, h3⟩, h4⟩ := h
    have h1 := h1.symm
    subst h1
    refine PS.imp (ps_fld (sndPth p C.toCO h3) (sndP e C.toCO h4).pe (swap_atr _ _)) fun D σ H ⟨pl, F0, H0, F, env, o, st, h, post⟩ => ?_
    obtain ⟨r, g2, h⟩ := bnd (show (ev c env e).bind _ = some o by simpa only [exS] using h)
    obtain ⟨q, g1, h⟩ := bnd h
    obtain ⟨u, g8, h⟩ := bnd h
    obtain ⟨t, g6, h⟩ := bnd h
    refine ⟨F, env, r, st.ok, g2, fun v F1 H1 x1 w1 n1 => ?_⟩
    have st1 := st.step x1
    refine ⟨F1, env, q, st1.ok, g1, fun x F2 H2 x2 hpl => ?_⟩
    have st2 := st1.step x2
    cases t with
    | lf d => cases h
    | dk ks ds => cases h
    | nd kd ts =>
      cases kd with
      | ls => cases h
      | tp => cases h
      | ob nm fs =>
        obtain ⟨g9, h⟩ := itd' h
        simp only [Bool.and_eq_true, decide_eq_true_eq, List.contains_iff_mem] at g9
        obtain ⟨⟨k1, k2⟩, k3⟩ := g9
        obtain ⟨ps, tr, nd⟩ := st2.ok.place g6 hpl
        obtain ⟨ps2, tr2, ow⟩ := st2.ok.place2 g6 hpl
        rw [← tr.det tr2] at ow
        obtain ⟨a, C0, dx, fvs, ps', rfl, fa, fd, ea, ed, ca, ta, rfl, rfl⟩ := tr.obE
        obtain ⟨c1, c2⟩ := C.toCO.ofs _ _ k1 C0 ca
        obtain ⟨qs, tu, ndq, nw⟩ := tof_new g8 w1 n1
        have tu2 := tu.ext x2
        have nn := putNew st (x1.trans x2) tu2 nw
        obtain ⟨env', hs, st3⟩ := st2.refield (f := f) g6 hpl fa fd ea ed ca ta nd tu2 ndq (fun b hb => ⟨(nn b hb).1, (nn b hb).2, fun z => (nn b hb).2 _ (ow b z)⟩) (fun x hx hi r hn => by
          rw [hx] at k3
          rcases (Bool.or_eq_true _ _).mp k3 with k3 | k3
          · rw [hi] at k3; cases k3
          · have := free_no k3 hn
            unfold pre at this
            rw [show q.2 ++ .fl f :: r = (q.2 ++ [.fl f]) ++ r by simp] at this
            rw [List.isPrefixOf_iff_prefix.mpr (List.prefix_append _ _)] at this
            cases this)
        have := setTree_go hs h
        subst this
        exact ⟨a, C0, dx, fvs, rfl, ea, c1, c2, by simpa using k2, post F2 σ _ st3⟩
  · cases h
end
end Mn
namespace Mn
open PySem PySem.Spec PyProof.Rows L2
section
variable {K : PySem.W.Frag} {pl : Pl} {F0 H0 F H F' H' : Hp} {env : Ev} {σ : L2.St} {c : Cl}
def FzOk (K : PySem.W.Frag) (F : Hp) (env : Ev) (σ : L2.St) : Prop := env.length = σ.length ∧ ∀ (i : Nat) r, env[i]? = some (some r) → ∃ d v, r = .fz d ∧ σ[i]? = some (some v) ∧ Rp K F v d
theorem FzOk.mono (e : Same F F') (h : FzOk K F env σ) : FzOk K F' env σ := ⟨h.1, fun i r q => let ⟨d, v, h1, h2, h3⟩ := h.2 i r q; ⟨d, v, h1, h2, h3.mono e⟩⟩
theorem FzOk.set (h : FzOk K F env σ) {i : Nat} {v : V} {d : PyData} (hi : i < env.length) (r : Rp K F v d) : FzOk K F (env.set i (some (.fz d))) (σ.set i (some v)) := by
  refine ⟨by rw [List.length_set, List.length_set]; exact h.1, fun j u q => ?_⟩
  by_cases e : i = j
  · subst e
    rw [List.getElem?_set_self hi] at q
    cases q
    exact ⟨d, v, rfl, List.getElem?_set_self (by rw [← h.1]; exact hi), r⟩
  · rw [List.getElem?_set_ne e] at q
    obtain ⟨d', v', h1, h2, h3⟩ := h.2 j u q
    exact ⟨d', v', h1, by rw [List.getElem?_set_ne e]; exact h2, h3⟩
theorem FzOk.envOk (h : FzOk K F env σ) (s : Same F H) : EnvOk K F H env σ where
  sub := s
  len := h.1
  at_ := fun i r q _ => by
    obtain ⟨d, v, rfl, h2, h3⟩ := h.2 i r q
    exact ⟨v, h2, .fz h3⟩
  tr_ := {
    tr := fun i pw t q => by
      obtain ⟨d, v, h1, _⟩ := h.2 i _ q
      cases h1
    al := fun j i w pw t q _ => by
      obtain ⟨d, v, h1, _⟩ := h.2 j _ q
      cases h1 }
theorem FzOk.st (h : FzOk K F env σ) (x : Ext F0 H0 F H) : StOk K pl F0 H0 F H env σ where
  ext := x
  ok := h.envOk x.sub
  own := fun i p ⟨r, v, h1, h2, h3⟩ => by
    obtain ⟨d, v', rfl, _⟩ := h.2 i r h1
    exact h3.elim
  sep := fun i j p ⟨r, v, h1, h2, h3⟩ _ => by
    obtain ⟨d, v', rfl, _⟩ := h.2 i r h1
    exact h3.elim
  pin := fun i pw t q => by
    obtain ⟨d, v, h1, _⟩ := h.2 i _ q
    cases h1
theorem fzEv_at : ∀ {env : Ev} {i : Nat} {r : RV}, fzEv env = true → env[i]? = some (some r) → ∃ d, r = .fz d
  | [], i, r, _, q => by simp at q
  | x :: env, 0, r, h, q => by
    simp at q
    subst q
    cases r with
    | fz d => exact ⟨d, rfl⟩
    | _ => simp [fzEv] at h
  | x :: env, i + 1, r, h, q => by
    refine fzEv_at (env := env) (i := i) ?_ (by simpa using q)
    cases x with
    | none => exact h
    | some u =>
      cases u with
      | fz d => exact h
      | _ => simp [fzEv] at h
theorem prs_noOb : ∀ {ts : List OT}, OT.prs ts = true → OT.noObs ts = true
  | [], _ => rfl
  | t :: ts, h => by
    unfold OT.prs at h
    split at h
    · rename_i e; cases e
    · rename_i d us r e
      cases e
      rw [Bool.and_eq_true] at h
      simp only [OT.noObs, OT.noOb, Kd.isOb, h.1, prs_noOb h.2]
      rfl
    · cases h
theorem prsAt : ∀ {ts : List OT} {vs : List V} {ps : List Addr}, TrAll K F H vs ts ps → OT.prs ts = true → ∀ (t : Nat) (x : V), vs[t]? = some x → ∃ p o w l ys, x = .ref p ∧ H p = some (.frz o (.tup [w, .ref l])) ∧ l ∈ ps ∧ H l = some (.lst ys)
  | _, _, _, .nil, _, t, x, q => by simp at q
  | _, _, _, .cons a as, h, t, x, q => by
    unfold OT.prs at h
    split at h
    · rename_i e; cases e
    · rename_i d us r e
      cases e
      rw [Bool.and_eq_true] at h
      cases t with
      | zero =>
        simp at q
        subst q
        cases a with
        | tp f e1 to k =>
          cases k with
          | cons k1 k2 =>
            cases k2 with
            | cons k3 k4 =>
              cases k4
              cases k3 with
              | ls f3 e3 _ => exact ⟨_, _, _, _, _, rfl, e1, by simp, e3⟩
      | succ t =>
        obtain ⟨p, o, w, l, ys, h1, h2, h3, h4⟩ := prsAt as h.2 t x (by simpa using q)
        exact ⟨p, o, w, l, ys, h1, h2, List.mem_append_right _ h3, h4⟩
    · cases h
end
section
variable {X : Cx} {s : Sx} {c : Cl} {W : XK}
def tClr (i : Nat) : TS := fun D σ H => ∃ p vs, σ[i]? = some (some (.ref p)) ∧ H p = some (.lst vs) ∧ D.nx σ (L2.upd H p (.lst []))
theorem psCl (C : CO X s c) {i : Nat} {st : Stmt} (h : chkCl s i st = true) : PS X st (tClr i) := by
  unfold chkCl at h
  split at h
  · simp only [Bool.and_eq_true, decide_eq_true_eq] at h
    obtain ⟨⟨⟨⟨h1, h2⟩, h3⟩, h4⟩, h5⟩ := h
    subst h1
    refine PS.imp (ps_expr (pe_bm0 PySem.F.plainAttrs_list PySem.F.slot_list_clear PySem.F.type_list_clear mt_clear (var_i C h3 h4 h5) name_base h2) (swap_call _ _ _)) fun D σ H ⟨p, vs, hσ, hH, post⟩ => ?_
    exact ⟨.ref p, hσ, .inl ⟨rfl, vs, SqL.of hH⟩, p, vs, rfl, rfl, hH, post⟩
  · cases h
theorem psA (C : CO X s c) {i : Nat} {e : Ex} {st : Stmt} (h : chkA s i e st = true) : PS X st (tAsg (tE X.K c e) (gName i)) := by
  unfold chkA at h
  split at h
  · simp only [Bool.and_eq_true, decide_eq_true_eq] at h
    obtain ⟨⟨h1, h2⟩, h3⟩ := h
    exact ps_asgN C h1 h2 h3
  · cases h
theorem wipeE_at {r : RV} {j : Nat} : ∀ {own : List Nat} {env : Ev}, (wipeE env own)[j]? = some (some r) → j ∉ own ∧ env[j]? = some (some r)
  | [], env, h => ⟨by simp, h⟩
  | v :: own, env, h => by
    have h : ((wipeE env own).set v none)[j]? = some (some r) := h
    by_cases e : v = j
    · subst e
      rw [List.getElem?_set] at h
      simp at h
    · rw [List.getElem?_set_ne e] at h
      obtain ⟨h1, h2⟩ := wipeE_at (own := own) h
      exact ⟨by simp [h1]; exact fun z => e z.symm, h2⟩
theorem wipeE_len : ∀ {own : List Nat} {env : Ev}, (wipeE env own).length = env.length
  | [], env => rfl
  | v :: own, env => by
    show ((wipeE env own).set v none).length = _
    rw [List.length_set, wipeE_len]
theorem asFz_eq {r : RV} {d : PyData} (h : asFz r = some d) : r = .fz d := by
  cases r with
  | fz d => cases h; rfl
  | _ => cases h
theorem asTr_eq {r : RV} {ts : List OT} (h : asTr r = some ts) : ∃ pw, r = .tr pw (.nd .ls ts) := by
  unfold asTr at h
  split at h
  · cases h; exact ⟨_, rfl⟩
  · cases h
theorem snd_hnd {h : Hnd} {r : Sms} {a b d e f g : Stmt} {xs : List Stmt} (C : COS X s c W) (hc : chkHnd h s a b d e f g = true) (R : PSs X xs (tSs X.K W c r)) : PSs X (a :: b :: d :: e :: f :: g :: xs) (tSs X.K W c (.hnd h r)) := by
  unfold chkHnd at hc
  simp only [Bool.and_eq_true] at hc
  obtain ⟨⟨⟨⟨⟨h1, h2⟩, h3⟩, h4⟩, h5⟩, h6⟩ := hc
  split at h4
  case h_2 => cases h4
  simp only [Bool.and_eq_true] at h4
  obtain ⟨h4, h7⟩ := h4
  unfold chkRf at h7
  split at h7
  case h_2 => cases h7
  split at h6
  case h_2 => cases h6
  rename_i ya pa yb pb kk pt yp pp stc pf
  simp only [Bool.and_eq_true, decide_eq_true_eq] at h6
  obtain ⟨⟨⟨⟨⟨⟨⟨a1, a2⟩, b1⟩, b2⟩, p1⟩, p2⟩, p3⟩, c1⟩ := h6
  obtain ⟨l1, l2⟩ := C.toCO.locv a2
  obtain ⟨l3, l4⟩ := C.toCO.locv b2
  rw [← C.N] at a1 b1
  have P6 : PS X (.For (.Tuple [.Name ya pa, .Name yb pb] kk pt) (.Name yp pp) [stc] [] pf) (tFor (iList X.K (tVar h.ip)) (gTup X.K 2 (gCons (gName h.ia) (gCons (gName h.ib) gNil))) (tSeq (tClr h.ib) tNext)) := ps_for C.po C.calm (pi_list (var_i C.toCO p1 p2 p3)) (pg_tup C.calm (pgs_cons (pg_name C.nd a1 l1 l2) (pgs_cons (pg_name C.nd b1 l3 l4) pgs_nil))) (pss_cons (psCl C.toCO c1) pss_nil)
  refine PSs.imp (pss_cons (psA C.toCO h1) (pss_cons (psA C.toCO h2) (pss_cons (psA C.toCO h3) (pss_cons (ps_if (sndP _ C.toCO h4).pt (pss_cons (ps_ret (sndP _ C.toCO h7).pe) pss_nil) pss_nil) (pss_cons (psCl C.toCO h5) (pss_cons P6 R)))))) fun D σ H ⟨pl, F0, H0, F, env, o, st, hx, post⟩ => ?_
  obtain ⟨o1, hx, hrest⟩ := bnd (show (hndD c h env).bind _ = some o by simpa only [exSs] using hx)
  obtain ⟨rr, q1, hx⟩ := bnd (show ((env[h.ip]?).join).bind _ = some o1 from hx)
  obtain ⟨ts, q2, hx⟩ := bnd hx
  obtain ⟨⟨g1, g2, g3, g4, g5⟩, hx⟩ := itd' hx
  obtain ⟨r1, e1, hx⟩ := bnd hx
  obtain ⟨d1, o1', hx⟩ := bnd hx
  obtain ⟨r2, e2, hx⟩ := bnd hx
  obtain ⟨ws, o2', hx⟩ := bnd hx
  obtain ⟨r3, e3, hx⟩ := bnd hx
  obtain ⟨d3, o3', hx⟩ := bnd hx
  obtain ⟨r4, e4, hx⟩ := bnd hx
  obtain ⟨k, o4', hx⟩ := bnd hx
  obtain rfl := asRow_eq o2'
  obtain rfl := asFz_eq o3'
  obtain rfl := asBool_eq o4'
  obtain ⟨pw, rfl⟩ := asTr_eq q2
  have hip := joinE q1
  have lip := g4 h.ip (by simp [Hnd.sl])
  have li1 := g4 h.i1 (by simp [Hnd.sl])
  have li2 := g4 h.i2 (by simp [Hnd.sl])
  have li3 := g4 h.i3 (by simp [Hnd.sl])
  have lia := g4 h.ia (by simp [Hnd.sl])
  have lib := g4 h.ib (by simp [Hnd.sl])
  simp only [Hnd.sl, List.nodup_cons, List.mem_cons, List.not_mem_nil, or_false, not_or, List.nodup_nil, and_true] at g3
  obtain ⟨⟨n01, n02, n03, n0a, n0b⟩, ⟨n12, n13, n1a, n1b⟩, ⟨n23, n2a, n2b⟩, ⟨n3a, n3b⟩, nab, _⟩ := g3
  -- the tree
  obtain ⟨root, ps, z1, tr, nd⟩ := st.ok.tr_.tr _ _ _ hip
  have own : ∀ b ∈ ps, H0 b = none := fun b hb => st.own h.ip b ⟨_, root, hip, z1, (foot_tr tr).mpr hb⟩
  have there := tr.there
  classical
  let F1 : Hp := fun b => if b ∈ ps then H b else F b
  have f1in : ∀ b ∈ ps, F1 b = H b := fun b hb => if_pos hb
  have f1out : ∀ b, b ∉ ps → F1 b = F b := fun b hb => if_neg hb
  have FF1 : Same F F1 := fun b u q => by
    rw [f1out b fun z => by rw [(there b z).1] at q; cases q]
    exact q
  have F1H : Same F1 H := fun b u q => by
    by_cases z : b ∈ ps
    · rw [f1in b z] at q; exact q
    · rw [f1out b z] at q; exact st.ok.sub _ _ q
  have rt0 : Rp X.K F1 root (.list (OT.ds ts)) := by
    have := tr.lend FF1 (by simp only [OT.noOb, Kd.isOb, prs_noOb g1]; rfl) f1in
    rw [OT.d] at this
    exact this
  have old : ∀ (j : Nat) u, j ≠ h.ip → env[j]? = some (some u) → ∃ d v, u = .fz d ∧ σ[j]? = some (some v) ∧ Rp X.K F v d := fun j u hj q => by
    obtain ⟨d, rfl⟩ := fzEv_at (env := env.set h.ip none) g2 (by rw [List.getElem?_set_ne (fun z => hj z.symm)]; exact q)
    obtain ⟨v, y1, y2⟩ := st.ok.at_ j _ q rfl
    exact ⟨d, v, rfl, y1, y2.rpF⟩
  have ok1 : FzOk X.K F1 (env.set h.ip (some (.fz (.list (OT.ds ts))))) σ := by
    refine ⟨by rw [List.length_set]; exact st.ok.len, fun j u q => ?_⟩
    by_cases ej : h.ip = j
    · subst ej
      rw [List.getElem?_set_self lip] at q
      cases q
      exact ⟨_, root, rfl, z1, rt0⟩
    · rw [List.getElem?_set_ne ej] at q
      obtain ⟨d, v, y1, y2, y3⟩ := old j u (fun z => ej z.symm) q
      exact ⟨d, v, y1, y2, y3.mono FF1⟩
  obtain ⟨ra, vs, ps', rfl, fa, ea, ta, rfl⟩ := tr.lsE
  -- stay
  refine ⟨F1, _, r1, ok1.envOk F1H, e1, fun v1 F2 H2 x2 w1 m1 => ?_⟩
  obtain ⟨_, F2', y2, rp1⟩ := own_rp o1' x2 w1 m1
  have ok2 := (ok1.mono y2.fr).set (i := h.i1) (by rw [List.length_set]; exact li1) rp1
  -- widths
  refine ⟨F2', _, _, ok2.envOk y2.sub, e2, fun v2 F3 H3 x3 w2 m2 => ?_⟩
  obtain ⟨q, vs2, rfl, hq, fq, eq, ra2⟩ := view_row w2 (m2 g5)
  have y3 := x3.freeze hq fq eq
  have rp2 : Rp X.K (L2.upd F3 q (.lst vs2)) (.ref q) (.list ws) := .lst upd_same (ra2.mono (Same.upd fq))
  have ok3 := (ok2.mono y3.fr).set (i := h.i2) (by rw [List.length_set, List.length_set]; exact li2) rp2
  -- found
  refine ⟨_, _, _, ok3.envOk y3.sub, e3, fun v3 F4 H4 x4 w3 _ => ?_⟩
  have rp3 : Rp X.K F4 v3 d3 := w3.rpF
  have ok4 := (ok3.mono x4.fr).set (i := h.i3) (by rw [List.length_set, List.length_set, List.length_set]; exact li3) rp3
  -- the test
  refine ⟨F4, _, k, ok4.envOk x4.sub, e4, fun F5 H5 x5 => ?_⟩
  have xx : Ext F1 H F5 H5 := y2.trans (y3.trans (x4.trans x5))
  have ext1 : ∀ {F' H' : Hp}, Ext F1 H F' H' → Ext F0 H0 F' H' := fun x => ⟨st.ext.fr.trans (FF1.trans x.fr), x.sub, st.ext.same.trans x.same, fun b u q => by
    rcases x.new b u q with z | z
    · by_cases y : b ∈ ra :: ps'
      · exact .inr (own b y)
      · rw [f1out b y] at z
        exact st.ext.new b u z
    · exact .inr (st.ext.same.free z)⟩
  cases k with
  | true =>
    have hx : some (Out.rt (.fz (.bool false))) = some o1 := hx
    cases hx
    cases hrest
    refine iteT ⟨F5, _, _, (ok4.mono x5.fr).envOk x5.sub, rfl, fun v F6 H6 x6 w6 n6 => ?_⟩
    exact post.1 v F6 H6 (ext1 (xx.trans x6)) (.inl w6) newFz
  | false =>
    obtain ⟨hfl, hx⟩ := itd' (show (if flatD d3 then some (Out.nx (hndE h env d3)) else none) = some o1 from hx)
    cases hx
    have hrest : exSs c r (hndE h env d3) = some o := hrest
    refine iteF ?_
    -- the lists that are cleared
    let Lq : Addr → Prop := fun b => (b ∈ ra :: ps' ∧ ∃ ys, H b = some (.lst ys)) ∨ b = q
    have hq0 : H q = none := y2.same.free hq
    have eq5 : H5 q = some (.lst vs2) := x5.same _ _ (x4.same _ _ eq)
    let σ4 : L2.St := ((σ.set h.i1 (some v1)).set h.i2 (some (.ref q))).set h.i3 (some v3)
    have len4 : σ4.length = σ.length := by simp only [σ4, List.length_set]
    have sl : env.length = σ.length := st.ok.len
    have s4q : σ4[h.i2]? = some (some (.ref q)) := by
      show (((σ.set h.i1 (some v1)).set h.i2 (some (.ref q))).set h.i3 (some v3))[h.i2]? = _
      rw [List.getElem?_set_ne (fun z => n23 z.symm), List.getElem?_set_self (by rw [List.length_set]; omega)]
    have s43 : σ4[h.i3]? = some (some v3) := by
      show (((σ.set h.i1 (some v1)).set h.i2 (some (.ref q))).set h.i3 (some v3))[h.i3]? = _
      rw [List.getElem?_set_self (by rw [List.length_set, List.length_set]; omega)]
    have s4o : ∀ j, j ≠ h.i1 → j ≠ h.i2 → j ≠ h.i3 → σ4[j]? = σ[j]? := fun j j1 j2 j3 => by
      show (((σ.set h.i1 (some v1)).set h.i2 (some (.ref q))).set h.i3 (some v3))[j]? = _
      rw [List.getElem?_set_ne (fun z => j3 z.symm), List.getElem?_set_ne (fun z => j2 z.symm), List.getElem?_set_ne (fun z => j1 z.symm)]
    refine ⟨q, vs2, s4q, eq5, ?_⟩
    have hra : H5 ra = some (.lst vs) := xx.same _ _ ea
    have raq : ra ≠ q := fun z => by subst z; rw [ea] at hq0; cases hq0
    have s4p : σ4[h.ip]? = some (some (.ref ra)) := by rw [s4o _ n01 n02 n03]; exact z1
    refine ⟨.ref ra, s4p, ra, rfl, ⟨vs, SqL.of (by rw [upd_ne raq]; exact hra)⟩, ?_⟩
    obtain ⟨nr, _⟩ := List.nodup_cons.mp nd
    let Wv : Nat → Nat → L2.St → Hp → Prop := fun t m σ' H' => m = vs.length - t ∧ t ≤ vs.length ∧ σ'.length = σ.length ∧ (∀ j, j ≠ h.ia → j ≠ h.ib → σ'[j]? = σ4[j]?) ∧ (∀ b, ¬ Lq b → H' b = H5 b) ∧ (∀ b, Lq b → ∃ ys, H' b = some (.lst ys)) ∧ H' ra = some (.lst vs)
    have lq5 : ∀ b, Lq b → ∃ ys, H5 b = some (.lst ys) := fun b hb => by
      rcases hb with ⟨_, ys, hb⟩ | rfl
      · exact ⟨ys, xx.same _ _ hb⟩
      · exact ⟨_, eq5⟩
    refine ⟨Wv, ⟨vs.length, by simp, Nat.zero_le _, len4, fun j _ _ => rfl, fun b hb => upd_ne (fun z => hb (.inr z)), fun b hb => ?_, by rw [upd_ne raq]; exact hra⟩, ?_⟩
    · by_cases z : b = q
      · subst z; exact ⟨[], upd_same⟩
      · rw [upd_ne z]; exact lq5 b hb
    rintro t m σ' H' ⟨rfl, ht, sl', so, ho, hl, hr⟩
    by_cases hlt : t < vs.length
    · refine .inr ⟨⟨vs, vs[t], SqL.of hr, List.getElem?_eq_getElem hlt⟩, fun σ2 H2 => Wv (t + 1) (vs.length - (t + 1)) σ2 H2, fun σ2 H2 p => ⟨_, by omega, p⟩, ?_⟩
      rintro x H3' ⟨rfl, hx⟩
      have hx := hx _ (SqL.of hr)
      rw [List.getElem?_eq_getElem hlt] at hx
      cases hx
      obtain ⟨p, ob, w, l, ys, k1, k2, k3, k4⟩ := prsAt ta g1 t vs[t] (List.getElem?_eq_getElem hlt)
      have np : ¬ Lq p := fun z => by
        rcases z with ⟨_, ys', z⟩ | rfl
        · rw [k2] at z; cases z
        · rw [k2] at hq0; cases hq0
      have lq : Lq l := .inl ⟨List.mem_cons_of_mem _ k3, ys, k4⟩
      have lra : l ≠ ra := fun z => by subst z; exact nr k3
      obtain ⟨ys', hl'⟩ := hl l lq
      rw [k1]
      refine ⟨p, [w, .ref l], rfl, .inl (.inr ⟨ob, by rw [ho p np]; exact xx.same _ _ k2⟩), rfl, w, [.ref l], rfl, .ref l, [], rfl, rfl, l, ys', ?_, hl', ?_⟩
      · rw [List.getElem?_set_self (by rw [List.length_set]; omega)]
      · refine ⟨rfl, hlt, by rw [List.length_set, List.length_set]; exact sl', fun j j1 j2 => ?_, fun b hb => ?_, fun b hb => ?_, by rw [upd_ne (fun z => lra z.symm)]; exact hr⟩
        · rw [List.getElem?_set_ne (fun z => j2 z.symm), List.getElem?_set_ne (fun z => j1 z.symm)]
          exact so j j1 j2
        · rw [upd_ne (fun z => by subst z; exact hb lq)]
          exact ho b hb
        · by_cases z : b = l
          · subst z; exact ⟨[], upd_same⟩
          · rw [upd_ne z]; exact hl b hb
    · refine .inl ⟨⟨vs, SqL.of hr, by omega⟩, ?_⟩
      let F6 : Hp := fun b => if Lq b then none else F5 b
      have f6 : ∀ b, ¬ Lq b → F6 b = F5 b := fun b hb => if_neg hb
      have f6' : ∀ b u, F6 b = some u → ¬ Lq b ∧ F5 b = some u := fun b u z => by
        by_cases y : Lq b
        · have : F6 b = none := if_pos y
          rw [this] at z; cases z
        · exact ⟨y, by rw [← f6 b y]; exact z⟩
      have fl : ∀ b u, F b = some u → F6 b = some u := fun b u z => by
        have nb : ¬ Lq b := fun y => by
          rcases y with ⟨y, _⟩ | rfl
          · rw [(there b y).1] at z; cases z
          · rw [st.ok.sub _ _ z] at hq0; cases hq0
        rw [f6 b nb]
        exact xx.fr _ _ (FF1 _ _ z)
      have x5' := ext1 xx
      have ext6 : Ext F0 H0 F6 H' := by
        refine ⟨fun b u z => fl b u (st.ext.fr _ _ z), fun b u z => ?_, fun b u z => ?_, fun b u z => ?_⟩
        · obtain ⟨y1, y2⟩ := f6' b u z
          rw [ho b y1]
          exact xx.sub _ _ y2
        · have nb : ¬ Lq b := fun y => by
            rcases y with ⟨y, _⟩ | rfl
            · rw [own b y] at z; cases z
            · rw [st.ext.same _ _ z] at hq0; cases hq0
          rw [ho b nb]
          exact x5'.same _ _ z
        · exact x5'.new b u (f6' b u z).2
      have fz6 : FzOk X.K F6 (hndE h env d3) σ' := by
        refine ⟨by unfold hndE; rw [List.length_set, wipeE_len]; omega, fun j u z => ?_⟩
        unfold hndE at z
        by_cases ej : h.i3 = j
        · subst ej
          rw [List.getElem?_set_self (by rw [wipeE_len]; exact li3)] at z
          cases z
          refine ⟨d3, v3, rfl, by rw [so _ n3a n3b]; exact s43, Rp.flat (fun a xs t => ?_) (rp3.mono x5.fr) hfl⟩
          rcases t with ⟨ob, t1, t2⟩ | t
          · refine .inl ⟨ob, ?_, t2⟩
            rw [f6 a fun y => by
              obtain ⟨ys, y⟩ := lq5 a y
              rw [xx.sub _ _ t1] at y
              cases y]
            exact t1
          · exact .inr t
        · rw [List.getElem?_set_ne ej] at z
          obtain ⟨nj, z⟩ := wipeE_at z
          simp only [Hnd.sl, List.mem_cons, List.not_mem_nil, or_false, not_or] at nj
          obtain ⟨j0, j1, j2, j3, ja, jb⟩ := nj
          obtain ⟨d, v, y1, y2, y3⟩ := old j u j0 z
          exact ⟨d, v, y1, by rw [so j ja jb, s4o j j1 j2 j3]; exact y2, y3.mono fl⟩
      exact ⟨pl, F0, H0, F6, _, o, fz6.st ext6, hrest, post⟩
end
end Mn
namespace Mn
open PySem PySem.Spec PyProof.Rows L2
def LentAt (K : PySem.W.Frag) (env : Ev) (σ : L2.St) (F' H' : Hp) (vs : List V) (ds : List PyData) : Prop := ∃ F1, Same F' F1 ∧ Same F1 H' ∧ NoTu F' F1 ∧ (∀ a o, F1 a = some o → F' a = some o ∨ ∃ j r, env[j]? = some (some r) ∧ r.pl = true ∧ OwnAt H' env σ j a) ∧ RpAll K F1 vs ds
theorem LentAt.none {K : PySem.W.Frag} {env : Ev} {σ : L2.St} {F' H' : Hp} {vs : List V} {ds : List PyData} (s : Same F' H') (r : RpAll K F' vs ds) : LentAt K env σ F' H' vs ds := ⟨F', Same.refl _, s, NoTu.refl _, fun _ _ e => .inl e, r⟩
theorem LentAt.fz {K : PySem.W.Frag} {env : Ev} {σ : L2.St} {F' H' : Hp} {vs : List V} {ds : List PyData} {v : V} {d : PyData} (r : Rp K F' v d) (h : LentAt K env σ F' H' vs ds) : LentAt K env σ F' H' (v :: vs) (d :: ds) := by
  obtain ⟨F1, s1, s2, n, o, w⟩ := h
  exact ⟨F1, s1, s2, n, o, .cons (r.mono s1) w⟩
theorem LentAt.own {K : PySem.W.Frag} {env : Ev} {σ : L2.St} {F' H' : Hp} {vs : List V} {ds : List PyData} {v : V} {r : RV} {i : Nat} (he : env[i]? = some (some r)) (hs : σ[i]? = some (some v)) (w : View K F' H' v r) (h : LentAt K env σ F' H' vs ds) : LentAt K env σ F' H' (v :: vs) (r.d :: ds) := by
  obtain ⟨F1, s1, s2, n, o, rs⟩ := h
  obtain ⟨F2, ⟨s3, o3⟩, s4, n4, rp⟩ := w.lendX s1 s2 n
  refine ⟨F2, s1.trans s3, s4, n4, fun a u e => ?_, .cons rp (rs.mono s3)⟩
  rcases o3 a u e with z | z
  · exact o a u z
  · exact .inr ⟨i, r, he, w.pl, r, v, he, hs, z⟩
section
variable {X : Cx} {s : Sx} {c : Cl}
end
end Mn
namespace Mn
open PySem PySem.Spec PyProof.Rows L2
section
variable {K : PySem.W.Frag} {pl : Pl} {F0 H0 F H F' H' : Hp} {env : Ev} {σ : L2.St} {c : Cl}
end
section
variable {X : Cx} {s : Sx} {c : Cl} {Wx : WX}
end
end Mn
namespace Mn
open PySem PySem.Spec PyProof.Rows L2
section
variable {K : PySem.W.Frag} {pl : Pl} {F0 H0 F H F' H' : Hp} {env : Ev} {σ : L2.St} {c : Cl}
end
section
variable {X : Cx} {s : Sx} {c : Cl} {W : XK}
def tCR (K : PySem.W.Frag) (c : Cl) (f : Nat) (es : Exs) : TE := fun σ H Q => ∃ F env t, EnvOk K F H env σ ∧ ((evb c env es).bind fun p => if p.2 then none else c.callr f p.1) = some t ∧ ∀ v F' H' qs, Ext F H F' H' → Tr K F' H' v t qs → qs.Nodup → (∀ b ∈ qs, H b = none) → Q v H'
theorem pe_R (C : CO X s c) {f : Nat} {es : Exs} {fe : Expr} {xs : List Expr} {ks : List Keyword} {p : Pos} (h : chkR2 f es s (.Call fe xs ks p) = true) : PE X (.Call fe xs ks p) (tCR X.K c f es) := by
  unfold chkR2 at h
  split at h
  · rename_i y yp xs' p' hE
    cases hE
    simp only [Bool.and_eq_true, decide_eq_true_eq, Bool.not_eq_true'] at h
    obtain ⟨⟨⟨⟨h1, h2⟩, h3⟩, h4⟩, h5⟩ := h
    obtain ⟨np, hnp, ⟨CX, k, fa, fd, ps, hr, hm, hk, hb, F, hx⟩⟩ := C.rfn f _ h1
    have hp := chks_plain h5
    cases xs with
    | nil => cases h4
    | cons e xs =>
      refine PE.imp (pe_call (dvs := []) (ds := []) (E := E0) F hr (C.glo h2) hm hk hb .nil (fun _ _ _ _ _ _ _ h => (hx _ _ _ _ _ h).elim) (sndEs es C h5).2.1 (okN1 h3).1 (star_of (hp e (by simp)) xs _) (plain_any fun x hx => hp x (List.mem_cons_of_mem _ hx))) fun σ H Q ⟨Fh, env, t, ok, g, q⟩ => ?_
      obtain ⟨⟨ds, b⟩, g1, g2⟩ := bnd g
      dsimp only at g2
      by_cases hb : b = true
      · rw [if_pos hb] at g2; cases g2
      rw [if_neg hb] at g2
      refine ⟨Fh, env, ds, b, ok, g1, fun vs F' H' xt w1 w2 => ?_⟩
      simp only [List.append_nil]
      exact ⟨F', ds, t, xt.sub, w2 (by simpa using hb), hnp ds t g2, g2, fun v F2 H2 qs x2 tu nd n => q v F2 H2 qs (xt.trans x2) tu nd fun b hb => xt.same.free (n b hb)⟩
  · cases h
theorem snd_asT {i f : Nat} {es : Exs} {st : Stmt} (C : COS X s c W) (h : chkS (.asT i f es) s st = true) : PS X st (tS X.K W c (.asT i f es)) := by
  unfold chkS at h
  split at h
  · simp only [Bool.and_eq_true, decide_eq_true_eq] at h
    obtain ⟨⟨h1, h2⟩, h3⟩ := h
    obtain ⟨l1, l2⟩ := C.toCO.locv h2
    refine PS.len (ps_set C.nd (by rw [C.N]; exact h1) l1 (pe_R C.toCO h3) (swap_call _ _ _) l2) fun D σ H hN ⟨pl, F0, H0, F, env, o, st, h, post⟩ => ?_
    have hlt := set_len st C.toCO h1 hN
    have h : ((evb c env es).bind fun p => if p.2 then none else (c.callr f p.1).bind fun t => if noAl env i then some (Out.nx (env.set i (some (.tr [] t)))) else none) = some o := by simpa only [exS] using h
    obtain ⟨p, g1, h⟩ := bnd h
    by_cases hb : p.2 = true
    · rw [if_pos hb] at h; cases h
    rw [if_neg hb] at h
    obtain ⟨t, g2, h⟩ := bnd h
    obtain ⟨na, h⟩ := itd' h
    cases h
    exact ⟨F, env, t, st.ok, by rw [g1]; show (if p.2 = true then none else _) = _; rw [if_neg hb]; exact g2, fun v F1 H1 qs x tu nd n => post F1 _ H1 (st.setTr x hlt tu nd n na)⟩
  · cases h
theorem snd_rtV {i : Nat} {st : Stmt} (C : COS X s c W) (h : chkS (.rtV i) s st = true) : PS X st (tS X.K W c (.rtV i)) := by
  unfold chkS at h
  split at h
  · refine PS.imp (ps_ret (chkV_ok C.toCO h).1) fun D σ H ⟨pl, F0, H0, F, env, o, st, h, post⟩ => ?_
    obtain ⟨r, g1, h⟩ := bnd (show ((env[i]?).join).bind _ = some o by simpa only [exS] using h)
    have g1 := joinE g1
    cases r with
    | tr pw t =>
      cases pw with
      | nil =>
        cases h
        obtain ⟨v, ps, h1, h2, h3⟩ := st.ok.tr_.tr i _ _ g1
        exact ⟨v, h1, post.1 v F H st.ext (.inr ⟨_, _, ps, rfl, h2, h3⟩) fun p hp => st.own i p ⟨_, v, g1, h1, hp⟩⟩
      | cons _ _ => cases h
    | _ => cases h
  · cases h
end
end Mn
namespace Mn
open PySem PySem.Spec PyProof.Rows L2
section
variable {K : PySem.W.Frag} {pl pl' : Pl} {F0 H0 F H F' H' : Hp} {env : Ev} {σ : L2.St} {c : Cl}
end
end Mn
namespace Mn
open PySem PySem.Spec PyProof.Rows L2
section
variable {X : Cx} {s : Sx} {c : Cl} {W : XK}
end
end Mn
namespace Mn
open PySem PySem.Spec PyProof.Rows L2
section
variable {X : Cx} {s : Sx} {c : Cl} {Wx : WX}
end
end Mn
namespace Mn
open PySem PySem.Spec PyProof.Rows L2
section
variable {K : PySem.W.Frag} {pl : Pl} {F0 H0 F H F' H' : Hp} {env : Ev} {σ : L2.St}
theorem StOk.wipe (st : StOk K pl F0 H0 F H env σ) : ∀ own : List Nat, StOk K pl F0 H0 F H (wipeE env own) σ
  | [] => st
  | v :: vs => (StOk.wipe st vs).del v
end
section
variable {K : PySem.W.Frag} {c : Cl} {Wx : WX}
end
end Mn
namespace Mn
open PySem PySem.Spec PyProof.Rows L2
section
variable {X : Cx} {s : Sx} {c : Cl} {Wx : WX}
def tEt (K : PySem.W.Frag) (c : Cl) (t : Tt) : TE := fun σ H Q => ∃ pl F0 H0 F env z, StOk K pl F0 H0 F H env σ ∧ evTt c t env = some z ∧ ∀ F' H', StOk K pl F0 H0 F' H' z.2 σ → Q (.bl z.1) H'
def tTt (K : PySem.W.Frag) (c : Cl) (t : Tt) : TT := fun σ H Q => ∃ pl F0 H0 F env z, StOk K pl F0 H0 F H env σ ∧ evTt c t env = some z ∧ ∀ F' H', StOk K pl F0 H0 F' H' z.2 σ → Q z.1 H'
structure SndT (X : Cx) (c : Cl) (t : Tt) (e : Expr) : Prop where
  pe : PE X e (tEt X.K c t)
  pt : PT X e (tTt X.K c t)
  pw : ∀ op vs pos, e = .BoolOp op vs pos → PW X e (tTt X.K c t)
end
section
variable {X : Cx} {s : Sx} {c : Cl} {W : XK}
end
end Mn
namespace Mn
open PySem PySem.Spec PyProof.Rows L2
def tHs (K : PySem.W.Frag) (c : Cl) (hs : List Hst) : TS := fun D σ H => ∃ pl F0 H0 F env env', StOk K pl F0 H0 F H env σ ∧ exHs c env hs = some env' ∧ ∀ F' H' σ', StOk K pl F0 H0 F' H' env' σ' → D.nx σ' H'
section
variable {X : Cx} {s : Sx} {c : Cl}
theorem AskAt.mono {K : PySem.W.Frag} {cs : List Str} {v : V} {H H' : Hp} {nm : Str} (h : AskAt K cs v H nm) (x : Same H H') : AskAt K cs v H' nm := by
  obtain ⟨a, C, dd, q1, q2, q3, q4⟩ := h
  exact ⟨a, C, dd, q1, x _ _ q2, fun d e => let ⟨fs, q⟩ := q3 d e; ⟨fs, x _ _ q⟩, q4⟩
inductive HL (K : PySem.W.Frag) (c : Cl) : List Hcl → List (Value × Option Nat × TS) → Prop
  | nil : HL K c [] []
  | cons {h : Hcl} {hs : List Hcl} {E : Addr} {l : List (Value × Option Nat × TS)} : h.D ∈ c.cls → ClsAt K h.D E → HL K c hs l → HL K c (h :: hs) ((.ref E, h.n, tHs K c h.b) :: l)
end
end Mn
namespace Mn
open PySem PySem.Spec PyProof.Rows L2
section
variable {X : Cx} {x1 x2 : Str} {c1 c2 : Value} {body rest orelse : List Stmt} {st0 : Stmt} {q1 q2 q3 q4 q5 : Pos} {k1 : Nat} {tb : WX → TS} {ts u : TS} {W0 : WX}
end
end Mn
namespace Mn
open PySem PySem.Spec PyProof.Rows L2
section
variable {X : Cx} {s : Sx} {c : Cl}
end
end Mn
namespace Mn
open PySem PySem.Spec PyProof.Rows L2
section
variable {M : Model} {A : Around} {E : Value → Shared → Prop} {s : Shared} {env : Env}
end
section
variable {X : Cx} {pins : List (Addr × Obj)} {σ : L2.St} {H H' : Hp} {s0 s s' : Shared} {W : WX} {u : Value} {C : Addr}
end
end Mn
namespace Mn
open PySem PySem.Spec PyProof.Rows L2
section
variable {X : Cx}
end
end Mn
namespace Mn
open PySem PySem.Spec PyProof.Rows L2
section
variable {X : Cx}
end
section
variable {X : Cx} {s : Sx} {c : Cl} {Wx : WX}
end
end Mn
namespace Mn
open PySem PySem.Spec PyProof.Rows L2
section
variable {X : Cx} {s : Sx} {c : Cl} {Wx : WX}
end
end Mn
namespace Mn
open PySem PySem.Spec PyProof.Rows L2
end Mn
namespace Mn
open PySem PySem.Spec PyProof.Rows L2
section
variable {X : Cx} {s : Sx} {c : Cl}
mutual
theorem sndS : ∀ (a : Sm) {X : Cx} {s : Sx} {c : Cl} {W : XK}, COS X s c W → ∀ {st : Stmt}, chkS a s st = true → PS X st (tS X.K W c a)
  | .asg i e, X, s, c, W, C, st, h => by
    unfold chkS at h
    split at h
    · simp only [Bool.and_eq_true, decide_eq_true_eq] at h
      obtain ⟨⟨h1, h2⟩, h3⟩ := h
      refine PS.len (ps_asgN C.toCO h1 h2 h3) fun D σ H hN ⟨pl, F0, H0, F, env, o, st, h, post⟩ => ?_
      obtain ⟨r, h4, h5⟩ := bnd (show (ev c env e).bind _ = some o by simpa only [exS] using h)
      have hlt := set_len st C.toCO h1 hN
      by_cases hb : (isVar e && r.isOwn) = true
      · rw [if_pos hb] at h5; cases h5
      · rw [if_neg hb] at h5
        cases h5
        refine ⟨F, env, r, st.ok, h4, fun v F1 H1 x1 w1 n1 => post F1 _ H1 (st.set x1 hlt w1 ?_)⟩
        cases hv : isVar e with
        | false => exact n1 hv
        | true =>
          rw [hv, Bool.true_and] at hb
          cases r with
          | fz d => exact newFz
          | tr _ _ => exact absurd rfl hb
          | al _ _ => exact absurd rfl hb
          | ol _ => exact absurd rfl hb
          | od _ => exact absurd rfl hb
          | on _ => exact absurd rfl hb
          | xr _ => exact absurd rfl hb
    · cases h
  | .unp is e, X, s, c, W, C, st, h => by
    unfold chkS at h
    split at h
    · simp only [Bool.and_eq_true, Bool.not_eq_true'] at h
      obtain ⟨⟨h1, h2⟩, h3⟩ := h
      refine PS.imp (ps_asg (sndP e C.toCO h2).pe (pg_tg C.toCO (tg := .tp is) h1) (swap_tup _ _) (stores_tup h3 _) rfl) fun D σ H ⟨pl, F0, H0, F, env, o, st, h, post⟩ => ?_
      obtain ⟨r, h4, h5⟩ := bnd (show (ev c env e).bind _ = some o by simpa only [exS] using h)
      obtain ⟨d, h6, h7⟩ := bnd h5
      obtain ⟨env2, h8, rfl⟩ := mpd h7
      refine dataAt st h4 h6 fun v F1 H1 x1 rp => ?_
      have st1 := st.step x1
      exact ⟨F1, env, d, env2, st1.ok, rp, h8, fun σ2 _ ok2 ho kp => post F1 σ2 H1 ⟨st1.ext, ok2, fun j p q => st1.own j p (ho j p q), fun j k p q1 q2 => st1.sep j k p (ho j p q1) (ho k p q2), st1.pin.keeps kp⟩⟩
    · cases h
  | .app i e, X, s, c, W, C, st, h => by
    unfold chkS at h
    split at h
    · simp only [Bool.and_eq_true, decide_eq_true_eq] at h
      obtain ⟨⟨⟨⟨⟨h1, h2⟩, h3⟩, h4⟩, h5⟩, h6⟩ := h
      subst h1
      have hp := chk_plain h6
      refine PS.imp (ps_expr (pe_bm PySem.F.plainAttrs_list PySem.F.slot_list_append PySem.F.type_list_append mt_append (var_i C.toCO h3 h4 h5) (pa_cons (sndP e C.toCO h6).pe pa_nil (star_of hp _ _)) name_base (few1 hp _) h2 (star_of hp _ _) (by rfl)) (swap_call _ _ _)) fun D σ H ⟨pl, F0, H0, F, env, o, st, h, post⟩ => ?_
      obtain ⟨ds, g1, h⟩ := bnd (show (olAt env i).bind _ = some o by simpa only [exS] using h)
      obtain ⟨r, g2, h⟩ := bnd h
      obtain ⟨d, g3, h⟩ := bnd h
      obtain ⟨g4, rfl⟩ := itd h
      obtain ⟨p, vs, oa, hσ, hF, hH, ra⟩ := st.ol g1
      refine ⟨.ref p, hσ, .inl ⟨rfl, vs, SqL.of hH⟩, dataAt st g2 g3 fun v F1 H1 x1 rp => ?_⟩
      have st1 := st.step x1
      have hH1 := x1.same _ _ hH
      refine ⟨p, vs, v, rfl, rfl, hH1, by rw [ra.length]; exact LIM_lt g4, post F1 σ _ ?_⟩
      exact st1.upd oa rfl rfl hσ rfl (.lst ((ra.mono x1.fr).append (.cons rp .nil)))
    · cases h
  | .ext i e, X, s, c, W, C, st, h => by unfold chkS at h; cases h
  | .ins i k e, X, s, c, W, C, st, h => by unfold chkS at h; cases h
  | .pop j i e, X, s, c, W, C, st, h => by unfold chkS at h; cases h
  | .sti i k e, X, s, c, W, C, st, h => by unfold chkS at h; cases h
  | .stk i k e, X, s, c, W, C, st, h => by unfold chkS at h; cases h
  | .clr i, X, s, c, W, C, st, h => by unfold chkS at h; cases h
  | .popO i, X, s, c, W, C, st, h => by unfold chkS at h; cases h
  | .revO i, X, s, c, W, C, st, h => by unfold chkS at h; cases h
  | .rem i e, X, s, c, W, C, st, h => by unfold chkS at h; cases h
  | .tryB b D1 j n, X, s, c, W, C, st, h => by unfold chkS at h; cases h
  | .ifs t a b, X, s, c, W, C, st, h => by
    unfold chkS at h
    split at h
    · simp only [Bool.and_eq_true] at h
      obtain ⟨⟨h1, h2⟩, h3⟩ := h
      refine PS.imp (ps_if (sndP t C.toCO h1).pt (sndSs a C h2) (sndSs b C h3)) fun D σ H ⟨pl, F0, H0, F, env, o, st, h, post⟩ => ?_
      obtain ⟨k, g1, h⟩ := bnd (show ((ev c env t).bind asBool).bind _ = some o by simpa only [exS] using h)
      obtain ⟨r, g1, g2⟩ := bnd g1
      obtain rfl := asBool_eq g2
      refine ⟨F, env, k, st.ok, g1, fun F1 H1 x1 => ?_⟩
      cases k with
      | true => exact iteT ⟨pl, F0, H0, F1, env, o, st.step x1, h, post⟩
      | false => exact iteF ⟨pl, F0, H0, F1, env, o, st.step x1, h, post⟩
    · cases h
  | .for_ tg it b, X, s, c, W, C, st, h => by
    unfold chkS at h
    split at h
    · simp only [Bool.and_eq_true] at h
      obtain ⟨⟨h1, h2⟩, h3⟩ := h
      exact PS.imp (ps_for C.po C.calm (sndI it C.toCO h1) (pg_tg C.toCO h2) (sndSs b C h3) (set_of (chkI_plain h1) _)) fun D σ H h => forL_step h
    · cases h
  | .asgD i e tg it own, X, s, c, W, C, st, h => by unfold chkS at h; cases h
  | .asgL i e, X, s, c, W, C, st, h => by unfold chkS at h; cases h
  | .appD i e, X, s, c, W, C, st, h => by unfold chkS at h; cases h
  | .appI i k e, X, s, c, W, C, st, h => by unfold chkS at h; cases h
  | .popI i k, X, s, c, W, C, st, h => by unfold chkS at h; cases h
  | .stJ i k q0 e, X, s, c, W, C, st, h => by unfold chkS at h; cases h
  | .popD i, X, s, c, W, C, st, h => by unfold chkS at h; cases h
  | .retX e k, X, s, c, W, C, st, h => by unfold chkS at h; cases h
  | .stiD i k e, X, s, c, W, C, st, h => by unfold chkS at h; cases h
  | .forR j i b, X, s, c, W, C, st, h => by unfold chkS at h; cases h
  | .tryL b e, X, s, c, W, C, st, h => by unfold chkS at h; cases h
  | .tryN b, X, s, c, W, C, st, h => by
    unfold chkS at h
    split at h
    · refine PS.imp (ps_try_thru (sndSs b C.nox h) pss_nil) fun D σ H ⟨pl, F0, H0, F, env, o, st, h, post⟩ => ?_
      obtain ⟨o', h1, h2⟩ := bnd (show (exSs c b env).bind _ = some o by simpa only [exS] using h)
      by_cases hx : o'.isX = true
      · rw [if_pos hx] at h2; cases h2
      rw [if_neg hx] at h2
      cases h2
      refine ⟨pl, F0, H0, F, env, o, st, h1, ?_⟩
      cases o with
      | rt r => exact ⟨post.1, fun d e => by subst e; exact absurd rfl hx⟩
      | re r e2 => exact ⟨post.1, fun d e => by subst e; exact absurd rfl hx⟩
      | _ => exact post
    · cases h
  | .whl t b, X, s, c, W, C, st, h => by unfold chkS at h; cases h
  | .ret e, X, s, c, W, C, st, h => by
    unfold chkS at h
    split at h
    · by_cases hv : isVar e = true
      · cases e with
        | var i =>
          rename_i x0 pos0
          have h' := h
          unfold chkE at h'
          split at h'
          · simp only [Bool.and_eq_true, decide_eq_true_eq] at h'
            refine PS.imp (ps_ret (var_i C.toCO h'.1.1 h'.1.2 h'.2)) fun D σ H ⟨pl, F0, H0, F, env, o, st, h, post⟩ => ?_
            obtain ⟨r, g1, rfl⟩ := mpd (show (ev c env (.var i)).map Out.rt = some o by simpa only [exS] using h)
            obtain ⟨r', g3, g4⟩ := bnd (show ((env[i]?).join).bind plO = some r from g1)
            obtain ⟨rfl, g5⟩ := plO_eq g4
            have g2 : env[i]? = some (some r) := joinE g3
            obtain ⟨v, hv1, hv2⟩ := st.ok.at_ i r g2 g5
            exact ⟨v, hv1, post.1 v F H st.ext (.inl hv2) fun p hp => st.own i p ⟨_, _, g2, hv1, hp⟩⟩
          · cases h'
        | pth p =>
          rename_i x0 pos0
          have h' : chkP p s x0 = true := by simpa only [chkE] using h
          refine PS.imp (ps_ret (sndPth p C.toCO h')) fun D σ H ⟨pl, F0, H0, F, env, o, st, h, post⟩ => ?_
          obtain ⟨r, g1, rfl⟩ := mpd (show (ev c env (.pth p)).map Out.rt = some o by simpa only [exS] using h)
          obtain ⟨q, g2, g3⟩ := bnd (show (evP c env p).bind _ = some r by simpa only [ev] using g1)
          obtain ⟨t, g4, g5⟩ := bnd g3
          refine ⟨F, env, q, st.ok, g2, fun v F1 H1 x1 hpl => ?_⟩
          have st1 := st.step x1
          obtain ⟨ps, tr, ow⟩ := st1.ok.place2 g4 hpl
          exact post.1 v F1 H1 st1.ext (.inl (tr.view g5)) fun b hb => st1.own _ b (ow b (tr.viewF g5 hb))
        | _ => cases hv
      · refine PS.imp (ps_ret (sndP e C.toCO h).pe) fun D σ H ⟨pl, F0, H0, F, env, o, st, h, post⟩ => ?_
        obtain ⟨r, g1, rfl⟩ := mpd (show (ev c env e).map Out.rt = some o by simpa only [exS] using h)
        refine ⟨F, env, r, st.ok, g1, fun v F1 H1 x1 w1 n1 => post.1 v F1 H1 (st.ext.trans x1) (.inl w1) ?_⟩
        exact new_back st.ext.same (n1 (by simpa using hv))
    · cases h
  | .retN, X, s, c, W, C, st, h => by unfold chkS at h; cases h
  | .drp e, X, s, c, W, C, st, h => by
    unfold chkS at h
    split at h
    · refine PS.imp (ps_expr (sndP e C.toCO h).pe (swap_call _ _ _)) fun D σ H ⟨pl, F0, H0, F, env, o, st, h, post⟩ => ?_
      obtain ⟨r, g1, rfl⟩ := mpd (show (ev c env e).map (fun _ => Out.nx env) = some o by simpa only [exS] using h)
      exact ⟨F, env, r, st.ok, g1, fun v F1 H1 x1 w1 n1 => post F1 σ H1 (st.step x1)⟩
    · cases h
  | .rse C1 m, X, s, c, W, C, st, h => by unfold chkS at h; cases h
  | .rs1 C1 e, X, s, c, W, C, st, h => by unfold chkS at h; cases h
  | .asgC i f es, X, s, c, W, C, st, h => by unfold chkS at h; cases h
  | .retC f es, X, s, c, W, C, st, h => by unfold chkS at h; cases h
  | .retCf f es, X, s, c, W, C, st, h => by unfold chkS at h; cases h
  | .retC2 o f es g fs, X, s, c, W, C, st, h => by unfold chkS at h; cases h
  | .trse C1 m, X, s, c, W, C, st, h => by unfold chkS at h; cases h
  | .trs1 C1 e, X, s, c, W, C, st, h => by unfold chkS at h; cases h
  | .tasC i f es, X, s, c, W, C, st, h => by unfold chkS at h; cases h
  | .trtC f es, X, s, c, W, C, st, h => by unfold chkS at h; cases h
  | .tdrC f es, X, s, c, W, C, st, h => by unfold chkS at h; cases h
  | .drpC f es, X, s, c, W, C, st, h => by unfold chkS at h; cases h
  | .tryC i f es D1 j n, X, s, c, W, C, st, h => by unfold chkS at h; cases h
  | .tryE f es D1 j n, X, s, c, W, C, st, h => by unfold chkS at h; cases h
  | .tryM f es hs, X, s, c, W, C, st, h => by unfold chkS at h; cases h
  | .unpD is e tg it own, X, s, c, W, C, st, h => by unfold chkS at h; cases h
  | .par i j k l, X, s, c, W, C, st, h => by unfold chkS at h; cases h
  | .parE i j a b, X, s, c, W, C, st, h => by unfold chkS at h; cases h
  | .asgCc i f es tg it own, X, s, c, W, C, st, h => by unfold chkS at h; cases h
  | .tryEl i f es D1 D2 k el, X, s, c, W, C, st, h => by unfold chkS at h; cases h
  | .nop, X, s, c, W, C, st, h => by unfold chkS at h; cases h
  | .tnw i, X, s, c, W, C, st, h => by
    unfold chkS at h
    split at h
    · simp only [Bool.and_eq_true, decide_eq_true_eq] at h
      obtain ⟨h1, h2⟩ := h
      have h1' := h1
      rw [← C.N] at h1'
      obtain ⟨l1, l2⟩ := C.toCO.locv h2
      refine PS.len (ps_set C.nd h1' l1 (pe_lst pa_nil) (swap_no (fun _ _ _ _ q => by cases q) (fun _ _ _ _ q => by cases q) (fun _ _ _ _ _ q => by cases q) _ _ _) l2) fun D σ H hN ⟨pl, F0, H0, F, env, o, st, h, post⟩ => ?_
      obtain ⟨na, rfl⟩ := itd (show (if noAl env i = true then some (Out.nx (env.set i (some (.tr [] (.nd .ls []))))) else none) = some o by simpa only [exS] using h)
      have hlt := set_len st C.toCO h1 hN
      refine ⟨by show 0 ≤ sizeLine; decide, fun p n => ?_⟩
      exact post F _ _ (st.setTr (Ext.lay0 st.ok.sub n) hlt (.ls (st.ok.sub.free n) upd_same .nil) (by simp) (fun b hb => by rw [List.mem_singleton] at hb; subst hb; exact n) na)
    · cases h
  | .tal j p, X, s, c, W, C, st, h => by unfold chkS at h; cases h
  | .tap _ _, X, s, c, W, C, st, h => by unfold chkS at h; cases h
  | .tapD _ _ _ _ _, X, s, c, W, C, st, h => by unfold chkS at h; cases h
  | .tapP _ _ _ _ _ _, X, s, c, W, C, st, h => snd_tapP C h
  | .tapV _ _, X, s, c, W, C, st, h => by unfold chkS at h; cases h
  | .tst _ _ _, X, s, c, W, C, st, h => by unfold chkS at h; cases h
  | .tfl _ _ _, X, s, c, W, C, st, h => snd_tfl C h
  | .tcl _, X, s, c, W, C, st, h => by unfold chkS at h; cases h
  | .tfr j p b, X, s, c, W, C, st, h => by unfold chkS at h; cases h
  | .tcd _ _, X, s, c, W, C, st, h => by unfold chkS at h; cases h
  | .tca _ _ _, X, s, c, W, C, st, h => by unfold chkS at h; cases h
  | .rtc _ _, X, s, c, W, C, st, h => by unfold chkS at h; cases h
  | .rtcX _ _ _ _ _, X, s, c, W, C, st, h => by unfold chkS at h; cases h
  | .ifT t a b, X, s, c, W, C, st, h => by unfold chkS at h; cases h
  | .rtTt _ _, X, s, c, W, C, st, h => by unfold chkS at h; cases h
  | .rtcT _ _ _ _, X, s, c, W, C, st, h => by unfold chkS at h; cases h
  | .tryT _ _ _ _ _ _, X, s, c, W, C, st, h => by unfold chkS at h; cases h
  | .rtsC _ _, X, s, c, W, C, st, h => by unfold chkS at h; cases h
  | .asC _ _ _, X, s, c, W, C, st, h => by unfold chkS at h; cases h
  | .unC _ _ _, X, s, c, W, C, st, h => by unfold chkS at h; cases h
  | .asT _ _ _, X, s, c, W, C, st, h => snd_asT C h
  | .rtE _, X, s, c, W, C, st, h => by unfold chkS at h; cases h
  | .rtD _ _ _ _, X, s, c, W, C, st, h => by unfold chkS at h; cases h
  | .tas _ _, X, s, c, W, C, st, h => by unfold chkS at h; cases h
  | .tasD _ _ _ _ _, X, s, c, W, C, st, h => by unfold chkS at h; cases h
  | .tryR i g es D C1 k, X, s, c, W, C, st, h => by unfold chkS at h; cases h
  | .retZ e, X, s, c, W, C, st, h => by unfold chkS at h; cases h
  | .retF e, X, s, c, W, C, st, h => by unfold chkS at h; cases h
  | .tryTd _ _ _ _ _, X, s, c, W, C, st, h => by unfold chkS at h; cases h
  | .tryTf _ _ _ _ _ _, X, s, c, W, C, st, h => by unfold chkS at h; cases h
  | .retT e, X, s, c, W, C, st, h => by unfold chkS at h; cases h
  | .rtNT, X, s, c, W, C, st, h => by unfold chkS at h; cases h
  | .rtV _, X, s, c, W, C, st, h => snd_rtV C h
  | .rtP _, X, s, c, W, C, st, h => by unfold chkS at h; cases h
  | .nev, X, s, c, W, C, st, h => PS.imp ps_never fun D σ H ⟨pl, F0, H0, F, env, o, st, h, post⟩ => by cases h
  | .cont, X, s, c, W, C, st, h => by unfold chkS at h; cases h
  | .brk, X, s, c, W, C, st, h => by unfold chkS at h; cases h
theorem sndSs : ∀ (a : Sms) {X : Cx} {s : Sx} {c : Cl} {W : XK}, COS X s c W → ∀ {st : List Stmt}, chkSs a s st = true → PSs X st (tSs X.K W c a)
  | .nil, X, s, c, W, C, st, h => by
    unfold chkSs at h
    split at h
    · refine PSs.imp pss_nil fun D σ H ⟨pl, F0, H0, F, env, o, st, h, post⟩ => ?_
      cases h
      exact post F σ H st
    · cases h
  | .cons a r, X, s, c, W, C, st, h => by
    unfold chkSs at h
    split at h
    · simp only [Bool.and_eq_true] at h
      refine PSs.imp (pss_cons (sndS a C h.1) (sndSs r C h.2)) fun D σ H ⟨pl, F0, H0, F, env, o, st, h, post⟩ => ?_
      obtain ⟨o', g1, g2⟩ := bnd (show (exS c a env).bind _ = some o by simpa only [exSs] using h)
      refine ⟨pl, F0, H0, F, env, o', st, g1, ?_⟩
      cases o' with
      | nx e2 => exact fun F' σ' H' st' => ⟨pl, F0, H0, F', e2, o, st', g2, post⟩
      | rt r' => cases g2; exact post
      | re r' e2 => cases g2; exact post
      | bk e2 => cases g2; exact post
      | ct e2 => cases g2; exact post
    · cases h
  | .frz i r, X, s, c, W, C, st, h => by
    unfold chkSs at h
    refine PSs.imp (sndSs r C h) fun D σ H ⟨pl, F0, H0, F, env, o, st, h, post⟩ => ?_
    obtain ⟨v, g1, g2⟩ := bnd (show ((env[i]?).join).bind _ = some o by simpa only [exSs] using h)
    have g1' : env[i]? = some (some v) := by
      cases q : env[i]? with
      | none => rw [q] at g1; cases g1
      | some o => rw [q] at g1; exact congrArg some g1
    obtain ⟨g3, g2⟩ := itd' g2
    obtain ⟨F', st'⟩ := st.frz g1' g3
    exact ⟨pl, F0, H0, F', _, o, st', g2, post⟩
  | .hnd k r, X, s, c, W, C, st, h => by
    unfold chkSs at h
    split at h
    · simp only [Bool.and_eq_true] at h
      exact snd_hnd C h.1 (sndSs r C h.2)
    · cases h
  | .del i r, X, s, c, W, C, st, h => by
    unfold chkSs at h
    refine PSs.imp (sndSs r C h) fun D σ H ⟨pl, F0, H0, F, env, o, st, h, post⟩ => ?_
    exact ⟨pl, F0, H0, F, _, o, st.del i, by simpa only [exSs] using h, post⟩
end
end
end Mn
namespace Mn
open PySem PySem.Spec PyProof.Rows L2
structure COSN (X : Cx) (s : Sx) (c : Cl) (W : XK) : Prop extends CO X s c where
  tk : L2N.Takes X (fun cv dd _ H => W cv dd H)
  po : PassesOwn (model X.prog X.w) X.A X.env X.xe
  stk : X.stack = X.env :: X.outer
  frm : X.env.frame = some X.env.locals
mutual
def nOk : Sm → Bool
  | .ifs _ a b => nOks a && nOks b
  | .for_ _ _ b => nOks b
  | .rse _ _ => true
  | .asg _ _ => true
  | .app _ _ => true
  | .ret _ => true
  | _ => false
def nOks : Sms → Bool
  | .nil => true
  | .cons a r => nOk a && nOks r
  | .frz _ r => nOks r
  | .del _ r => nOks r
  | .hnd _ _ => false
end
mutual
theorem sndSN : ∀ (a : Sm) {X : Cx} {s : Sx} {c : Cl} {W : XK}, COSN X s c W → ∀ {st : Stmt}, nOk a = true → chkS a s st = true → PS X st (tS X.K W c a)
  | .asg i e, X, s, c, W, C, st, hn, h => by
    unfold chkS at h
    split at h
    · simp only [Bool.and_eq_true, decide_eq_true_eq] at h
      obtain ⟨⟨h1, h2⟩, h3⟩ := h
      refine PS.len (ps_asgN C.toCO h1 h2 h3) fun D σ H hN ⟨pl, F0, H0, F, env, o, st, h, post⟩ => ?_
      obtain ⟨r, h4, h5⟩ := bnd (show (ev c env e).bind _ = some o by simpa only [exS] using h)
      have hlt := set_len st C.toCO h1 hN
      by_cases hb : (isVar e && r.isOwn) = true
      · rw [if_pos hb] at h5; cases h5
      · rw [if_neg hb] at h5
        cases h5
        refine ⟨F, env, r, st.ok, h4, fun v F1 H1 x1 w1 n1 => post F1 _ H1 (st.set x1 hlt w1 ?_)⟩
        cases hv : isVar e with
        | false => exact n1 hv
        | true =>
          rw [hv, Bool.true_and] at hb
          cases r with
          | fz d => exact newFz
          | tr _ _ => exact absurd rfl hb
          | al _ _ => exact absurd rfl hb
          | ol _ => exact absurd rfl hb
          | od _ => exact absurd rfl hb
          | on _ => exact absurd rfl hb
          | xr _ => exact absurd rfl hb
    · cases h
  | .app i e, X, s, c, W, C, st, hn, h => by
    unfold chkS at h
    split at h
    · simp only [Bool.and_eq_true, decide_eq_true_eq] at h
      obtain ⟨⟨⟨⟨⟨h1, h2⟩, h3⟩, h4⟩, h5⟩, h6⟩ := h
      subst h1
      have hp := chk_plain h6
      refine PS.imp (ps_expr (pe_bm PySem.F.plainAttrs_list PySem.F.slot_list_append PySem.F.type_list_append mt_append (var_i C.toCO h3 h4 h5) (pa_cons (sndP e C.toCO h6).pe pa_nil (star_of hp _ _)) name_base (few1 hp _) h2 (star_of hp _ _) (by rfl)) (swap_call _ _ _)) fun D σ H ⟨pl, F0, H0, F, env, o, st, h, post⟩ => ?_
      obtain ⟨ds, g1, h⟩ := bnd (show (olAt env i).bind _ = some o by simpa only [exS] using h)
      obtain ⟨r, g2, h⟩ := bnd h
      obtain ⟨d, g3, h⟩ := bnd h
      obtain ⟨g4, rfl⟩ := itd h
      obtain ⟨p, vs, oa, hσ, hF, hH, ra⟩ := st.ol g1
      refine ⟨.ref p, hσ, .inl ⟨rfl, vs, SqL.of hH⟩, dataAt st g2 g3 fun v F1 H1 x1 rp => ?_⟩
      have st1 := st.step x1
      have hH1 := x1.same _ _ hH
      refine ⟨p, vs, v, rfl, rfl, hH1, by rw [ra.length]; exact LIM_lt g4, post F1 σ _ ?_⟩
      exact st1.upd oa rfl rfl hσ rfl (.lst ((ra.mono x1.fr).append (.cons rp .nil)))
    · cases h
  | .ifs t a b, X, s, c, W, C, st, hn, h => by
    simp only [nOk, Bool.and_eq_true] at hn
    unfold chkS at h
    split at h
    · simp only [Bool.and_eq_true] at h
      obtain ⟨⟨h1, h2⟩, h3⟩ := h
      refine PS.imp (ps_if (sndP t C.toCO h1).pt (sndSsN a C hn.1 h2) (sndSsN b C hn.2 h3)) fun D σ H ⟨pl, F0, H0, F, env, o, st, h, post⟩ => ?_
      obtain ⟨k, g1, h⟩ := bnd (show ((ev c env t).bind asBool).bind _ = some o by simpa only [exS] using h)
      obtain ⟨r, g1, g2⟩ := bnd g1
      obtain rfl := asBool_eq g2
      refine ⟨F, env, k, st.ok, g1, fun F1 H1 x1 => ?_⟩
      cases k with
      | true => exact iteT ⟨pl, F0, H0, F1, env, o, st.step x1, h, post⟩
      | false => exact iteF ⟨pl, F0, H0, F1, env, o, st.step x1, h, post⟩
    · cases h
  | .for_ tg it b, X, s, c, W, C, st, hn, h => by
    simp only [nOk] at hn
    unfold chkS at h
    split at h
    · simp only [Bool.and_eq_true] at h
      obtain ⟨⟨h1, h2⟩, h3⟩ := h
      exact PS.imp (ps_for C.po C.calm (sndI it C.toCO h1) (pg_tg C.toCO h2) (sndSsN b C hn h3) (set_of (chkI_plain h1) _)) fun D σ H h => forL_step h
    · cases h
  | .rse C1 m, X, s, c, W, C, st, hn, h => by unfold chkS at h; cases h
  | .ret e, X, s, c, W, C, st, hn, h => by
    unfold chkS at h
    split at h
    · by_cases hv : isVar e = true
      · cases e with
        | var i =>
          rename_i x0 pos0
          have h' := h
          unfold chkE at h'
          split at h'
          · simp only [Bool.and_eq_true, decide_eq_true_eq] at h'
            refine PS.imp (ps_ret (var_i C.toCO h'.1.1 h'.1.2 h'.2)) fun D σ H ⟨pl, F0, H0, F, env, o, st, h, post⟩ => ?_
            obtain ⟨r, g1, rfl⟩ := mpd (show (ev c env (.var i)).map Out.rt = some o by simpa only [exS] using h)
            obtain ⟨r', g3, g4⟩ := bnd (show ((env[i]?).join).bind plO = some r from g1)
            obtain ⟨rfl, g5⟩ := plO_eq g4
            have g2 : env[i]? = some (some r) := joinE g3
            obtain ⟨v, hv1, hv2⟩ := st.ok.at_ i r g2 g5
            exact ⟨v, hv1, post.1 v F H st.ext (.inl hv2) fun p hp => st.own i p ⟨_, _, g2, hv1, hp⟩⟩
          · cases h'
        | pth p =>
          rename_i x0 pos0
          have h' : chkP p s x0 = true := by simpa only [chkE] using h
          refine PS.imp (ps_ret (sndPth p C.toCO h')) fun D σ H ⟨pl, F0, H0, F, env, o, st, h, post⟩ => ?_
          obtain ⟨r, g1, rfl⟩ := mpd (show (ev c env (.pth p)).map Out.rt = some o by simpa only [exS] using h)
          obtain ⟨q, g2, g3⟩ := bnd (show (evP c env p).bind _ = some r by simpa only [ev] using g1)
          obtain ⟨t, g4, g5⟩ := bnd g3
          refine ⟨F, env, q, st.ok, g2, fun v F1 H1 x1 hpl => ?_⟩
          have st1 := st.step x1
          obtain ⟨ps, tr, ow⟩ := st1.ok.place2 g4 hpl
          exact post.1 v F1 H1 st1.ext (.inl (tr.view g5)) fun b hb => st1.own _ b (ow b (tr.viewF g5 hb))
        | _ => cases hv
      · refine PS.imp (ps_ret (sndP e C.toCO h).pe) fun D σ H ⟨pl, F0, H0, F, env, o, st, h, post⟩ => ?_
        obtain ⟨r, g1, rfl⟩ := mpd (show (ev c env e).map Out.rt = some o by simpa only [exS] using h)
        refine ⟨F, env, r, st.ok, g1, fun v F1 H1 x1 w1 n1 => post.1 v F1 H1 (st.ext.trans x1) (.inl w1) ?_⟩
        exact new_back st.ext.same (n1 (by simpa using hv))
    · cases h
  | .unp _ _, X, s, c, W, C, st, hn, h => by simp [nOk] at hn
  | .par _ _ _ _, X, s, c, W, C, st, hn, h => by unfold chkS at h; cases h
  | .parE _ _ _ _, X, s, c, W, C, st, hn, h => by unfold chkS at h; cases h
  | .ext _ _, X, s, c, W, C, st, hn, h => by unfold chkS at h; cases h
  | .ins _ _ _, X, s, c, W, C, st, hn, h => by unfold chkS at h; cases h
  | .pop _ _ _, X, s, c, W, C, st, hn, h => by unfold chkS at h; cases h
  | .sti _ _ _, X, s, c, W, C, st, hn, h => by unfold chkS at h; cases h
  | .stk _ _ _, X, s, c, W, C, st, hn, h => by unfold chkS at h; cases h
  | .clr _, X, s, c, W, C, st, hn, h => by unfold chkS at h; cases h
  | .popO _, X, s, c, W, C, st, hn, h => by unfold chkS at h; cases h
  | .revO _, X, s, c, W, C, st, hn, h => by unfold chkS at h; cases h
  | .rem _ _, X, s, c, W, C, st, hn, h => by unfold chkS at h; cases h
  | .tryB _ _ _ _, X, s, c, W, C, st, hn, h => by unfold chkS at h; cases h
  | .ifT _ _ _, X, s, c, W, C, st, hn, h => by unfold chkS at h; cases h
  | .rtTt _ _, X, s, c, W, C, st, hn, h => by unfold chkS at h; cases h
  | .whl _ _, X, s, c, W, C, st, hn, h => by unfold chkS at h; cases h
  | .tryN _, X, s, c, W, C, st, hn, h => by simp [nOk] at hn
  | .tryL _ _, X, s, c, W, C, st, hn, h => by unfold chkS at h; cases h
  | .rs1 _ _, X, s, c, W, C, st, hn, h => by unfold chkS at h; cases h
  | .asgC _ _ _, X, s, c, W, C, st, hn, h => by unfold chkS at h; cases h
  | .asgCc _ _ _ _ _ _, X, s, c, W, C, st, hn, h => by unfold chkS at h; cases h
  | .retC _ _, X, s, c, W, C, st, hn, h => by unfold chkS at h; cases h
  | .retCf _ _, X, s, c, W, C, st, hn, h => by unfold chkS at h; cases h
  | .retC2 _ _ _ _ _, X, s, c, W, C, st, hn, h => by unfold chkS at h; cases h
  | .drpC _ _, X, s, c, W, C, st, hn, h => by unfold chkS at h; cases h
  | .trse _ _, X, s, c, W, C, st, hn, h => by unfold chkS at h; cases h
  | .trs1 _ _, X, s, c, W, C, st, hn, h => by unfold chkS at h; cases h
  | .tasC _ _ _, X, s, c, W, C, st, hn, h => by unfold chkS at h; cases h
  | .trtC _ _, X, s, c, W, C, st, hn, h => by unfold chkS at h; cases h
  | .tdrC _ _, X, s, c, W, C, st, hn, h => by unfold chkS at h; cases h
  | .rtcX _ _ _ _ _, X, s, c, W, C, st, hn, h => by unfold chkS at h; cases h
  | .tryT _ _ _ _ _ _, X, s, c, W, C, st, hn, h => by unfold chkS at h; cases h
  | .tryTd _ _ _ _ _, X, s, c, W, C, st, hn, h => by unfold chkS at h; cases h
  | .tryTf _ _ _ _ _ _, X, s, c, W, C, st, hn, h => by unfold chkS at h; cases h
  | .retF _, X, s, c, W, C, st, hn, h => by unfold chkS at h; cases h
  | .retZ _, X, s, c, W, C, st, hn, h => by unfold chkS at h; cases h
  | .tryR _ _ _ _ _ _, X, s, c, W, C, st, hn, h => by unfold chkS at h; cases h
  | .rtcT _ _ _ _, X, s, c, W, C, st, hn, h => by unfold chkS at h; cases h
  | .rtsC _ _, X, s, c, W, C, st, hn, h => by unfold chkS at h; cases h
  | .tryC _ _ _ _ _ _, X, s, c, W, C, st, hn, h => by unfold chkS at h; cases h
  | .tryE _ _ _ _ _, X, s, c, W, C, st, hn, h => by unfold chkS at h; cases h
  | .tryM _ _ _, X, s, c, W, C, st, hn, h => by unfold chkS at h; cases h
  | .asgD _ _ _ _ _, X, s, c, W, C, st, hn, h => by unfold chkS at h; cases h
  | .asgL _ _, X, s, c, W, C, st, hn, h => by unfold chkS at h; cases h
  | .unpD _ _ _ _ _, X, s, c, W, C, st, hn, h => by unfold chkS at h; cases h
  | .tryEl _ _ _ _ _ _ _, X, s, c, W, C, st, hn, h => by unfold chkS at h; cases h
  | .appD _ _, X, s, c, W, C, st, hn, h => by unfold chkS at h; cases h
  | .appI _ _ _, X, s, c, W, C, st, hn, h => by unfold chkS at h; cases h
  | .popI _ _, X, s, c, W, C, st, hn, h => by unfold chkS at h; cases h
  | .popD _, X, s, c, W, C, st, hn, h => by unfold chkS at h; cases h
  | .stJ _ _ _ _, X, s, c, W, C, st, hn, h => by unfold chkS at h; cases h
  | .retX _ _, X, s, c, W, C, st, hn, h => by unfold chkS at h; cases h
  | .stiD _ _ _, X, s, c, W, C, st, hn, h => by unfold chkS at h; cases h
  | .forR _ _ _, X, s, c, W, C, st, hn, h => by unfold chkS at h; cases h
  | .retN, X, s, c, W, C, st, hn, h => by unfold chkS at h; cases h
  | .drp _, X, s, c, W, C, st, hn, h => by simp [nOk] at hn
  | .tnw _, X, s, c, W, C, st, hn, h => by simp [nOk] at hn
  | .tal _ _, X, s, c, W, C, st, hn, h => by unfold chkS at h; cases h
  | .tap _ _, X, s, c, W, C, st, hn, h => by unfold chkS at h; cases h
  | .tapD _ _ _ _ _, X, s, c, W, C, st, hn, h => by unfold chkS at h; cases h
  | .tapP _ _ _ _ _ _, X, s, c, W, C, st, hn, h => by simp [nOk] at hn
  | .tapV _ _, X, s, c, W, C, st, hn, h => by unfold chkS at h; cases h
  | .tst _ _ _, X, s, c, W, C, st, hn, h => by unfold chkS at h; cases h
  | .tfl _ _ _, X, s, c, W, C, st, hn, h => by simp [nOk] at hn
  | .tcl _, X, s, c, W, C, st, hn, h => by unfold chkS at h; cases h
  | .tfr _ _ _, X, s, c, W, C, st, hn, h => by unfold chkS at h; cases h
  | .tcd _ _, X, s, c, W, C, st, hn, h => by unfold chkS at h; cases h
  | .tca _ _ _, X, s, c, W, C, st, hn, h => by unfold chkS at h; cases h
  | .rtc _ _, X, s, c, W, C, st, hn, h => by unfold chkS at h; cases h
  | .asC _ _ _, X, s, c, W, C, st, hn, h => by unfold chkS at h; cases h
  | .unC _ _ _, X, s, c, W, C, st, hn, h => by unfold chkS at h; cases h
  | .asT _ _ _, X, s, c, W, C, st, hn, h => by simp [nOk] at hn
  | .retT _, X, s, c, W, C, st, hn, h => by unfold chkS at h; cases h
  | .rtNT, X, s, c, W, C, st, hn, h => by unfold chkS at h; cases h
  | .rtV _, X, s, c, W, C, st, hn, h => by simp [nOk] at hn
  | .rtP _, X, s, c, W, C, st, hn, h => by unfold chkS at h; cases h
  | .rtE _, X, s, c, W, C, st, hn, h => by unfold chkS at h; cases h
  | .rtD _ _ _ _, X, s, c, W, C, st, hn, h => by unfold chkS at h; cases h
  | .tas _ _, X, s, c, W, C, st, hn, h => by unfold chkS at h; cases h
  | .tasD _ _ _ _ _, X, s, c, W, C, st, hn, h => by unfold chkS at h; cases h
  | .nop, X, s, c, W, C, st, hn, h => by unfold chkS at h; cases h
  | .nev, X, s, c, W, C, st, hn, h => by simp [nOk] at hn
  | .cont, X, s, c, W, C, st, hn, h => by unfold chkS at h; cases h
  | .brk, X, s, c, W, C, st, hn, h => by unfold chkS at h; cases h
theorem sndSsN : ∀ (a : Sms) {X : Cx} {s : Sx} {c : Cl} {W : XK}, COSN X s c W → ∀ {st : List Stmt}, nOks a = true → chkSs a s st = true → PSs X st (tSs X.K W c a)
  | .nil, X, s, c, W, C, st, hn, h => by
    unfold chkSs at h
    split at h
    · refine PSs.imp pss_nil fun D σ H ⟨pl, F0, H0, F, env, o, st, h, post⟩ => ?_
      cases h
      exact post F σ H st
    · cases h
  | .cons a r, X, s, c, W, C, st, hn, h => by
    simp only [nOks, Bool.and_eq_true] at hn
    unfold chkSs at h
    split at h
    · simp only [Bool.and_eq_true] at h
      refine PSs.imp (pss_cons (sndSN a C hn.1 h.1) (sndSsN r C hn.2 h.2)) fun D σ H ⟨pl, F0, H0, F, env, o, st, h, post⟩ => ?_
      obtain ⟨o', g1, g2⟩ := bnd (show (exS c a env).bind _ = some o by simpa only [exSs] using h)
      refine ⟨pl, F0, H0, F, env, o', st, g1, ?_⟩
      cases o' with
      | nx e2 => exact fun F' σ' H' st' => ⟨pl, F0, H0, F', e2, o, st', g2, post⟩
      | rt r' => cases g2; exact post
      | re r' e2 => cases g2; exact post
      | bk e2 => cases g2; exact post
      | ct e2 => cases g2; exact post
    · cases h
  | .frz i r, X, s, c, W, C, st, hn, h => by
    simp only [nOks] at hn
    unfold chkSs at h
    refine PSs.imp (sndSsN r C hn h) fun D σ H ⟨pl, F0, H0, F, env, o, st, h, post⟩ => ?_
    obtain ⟨v, g1, g2⟩ := bnd (show ((env[i]?).join).bind _ = some o by simpa only [exSs] using h)
    have g1' : env[i]? = some (some v) := by
      cases q : env[i]? with
      | none => rw [q] at g1; cases g1
      | some o => rw [q] at g1; exact congrArg some g1
    obtain ⟨g3, g2⟩ := itd' g2
    obtain ⟨F', st'⟩ := st.frz g1' g3
    exact ⟨pl, F0, H0, F', _, o, st', g2, post⟩
  | .hnd k r, X, s, c, W, C, st, hn, h => by simp [nOks] at hn
  | .del i r, X, s, c, W, C, st, hn, h => by
    simp only [nOks] at hn
    unfold chkSs at h
    refine PSs.imp (sndSsN r C hn h) fun D σ H ⟨pl, F0, H0, F, env, o, st, h, post⟩ => ?_
    exact ⟨pl, F0, H0, F, _, o, st.del i, by simpa only [exSs] using h, post⟩
end
end Mn
namespace Mn
open PySem PySem.Spec PyProof.Rows L2
def spD (K : PySem.W.Frag) (np : Nat) (sem : List PyData → Option RV) : Sp := fun vs H Q _ => ∃ F ds r, Same F H ∧ RpAll K F vs ds ∧ ds.length = np ∧ sem ds = some r ∧ ∀ v F' H', Ext F H F' H' → View K F' H' v r → New r v H H' → Q v H'
def scB (N P : List Str) (sc : Scope) : Bool :=
  decide (sc.kind = .function) && !sc.isCoroutine && !sc.isGenerator && decide N.Nodup && decide (N.take P.length = P) && P.all (fun x => decide (sc.names.lookup x = some .local) || decide (sc.names.lookup x = some .cell)) && sc.names.all (fun y => !decide (y.2 = .free))
theorem scB_ok {N P : List Str} {sc : Scope} (h : scB N P sc = true) : FnScope N P sc := by
  unfold scB at h
  simp only [Bool.and_eq_true, Bool.not_eq_true', decide_eq_true_eq, List.all_eq_true, Bool.or_eq_true, decide_eq_false_iff_not] at h
  obtain ⟨⟨⟨⟨⟨⟨h1, h2⟩, h3⟩, h4⟩, h5⟩, h6⟩, h7⟩ := h
  exact ⟨h1, h2, h3, h4, h5, h6, h7⟩
structure TNs where
  tns : List (Option Str × Str × Nat) := []
  rns : List Str := []
  cns : List (Nat × Str) := []
def chkDT (fns gls xns : List Str) (tn : TNs) (N ps : List Str) (df : Df) (st : Stmt) : Bool :=
  scB N ps (defScope st) && decide (ps.length = df.np) && decide (N.length = df.n) && chkSs df.body ⟨defScope st, N, fun _ => true, fns, gls, xns, tn.tns, tn.rns, tn.cns⟩ (defBody st)
abbrev chkDX (fns gls xns N ps : List Str) (df : Df) (st : Stmt) : Bool := chkDT fns gls xns {} N ps df st
abbrev chkD (fns gls N ps : List Str) (df : Df) (st : Stmt) : Bool := chkDX fns gls [] N ps df st
structure XTab where
  rzs : List Str := []
  cls : List Str := []
  fls : List Str := []
  m0s : List Str := []
  m1s : List (Str × Str) := []
  gds : List (Str × List (Str × PyData)) := []
structure TTab where
  ts : List (List (List Stp) → OT → List PyData → Option (RV × OT)) := []
  rs : List (List PyData → Option OT) := []
  tc : List (Option (Str × Str)) := []
  ofs : List (Str × Str) := []
  als : List (Str × AlD) := []
  /-- methods of instances that nobody changes; what isinstance says of them -/
  ims : List ((Str × Str) × (List PyData → Option RV)) := []
  jas : List ((Str × Str) × Bool) := []
  /-- defs whose exceptions a clause takes that raises another one; classes that such a clause raises -/
  ens : List (Str × (List PyData → Option RV)) := []
  hms : List (Str × Str) := []
def tabT (sems : List (List PyData → Option RV)) (glb : List PyData) (xs : List (List PyData → Option RV)) (T : XTab) (tt : TTab) : Cl := ⟨fun j ds => (sems[j]?).bind fun s => s ds, fun j => glb[j]?, fun j ds => (xs[j]?).bind fun s => s ds, T.rzs, T.cls, T.fls, T.m0s, T.m1s, T.gds,
  fun j pw t ds => (tt.ts[j]?).bind fun s => s pw t ds, fun j ds => (tt.rs[j]?).bind fun s => s ds, fun j => (tt.tc[j]?).join, tt.ofs, tt.als, tt.ims, tt.jas, tt.ens, tt.hms⟩
abbrev tabX (sems : List (List PyData → Option RV)) (glb : List PyData) (xs : List (List PyData → Option RV)) (T : XTab) : Cl := tabT sems glb xs T {}
abbrev tabC (sems : List (List PyData → Option RV)) (glb : List PyData) : Cl := tabX sems glb [] {}
def spX (K : PySem.W.Frag) (np : Nat) (sem : List PyData → Option RV) : Sp := fun vs H Q E => ∃ F ds r, Same F H ∧ RpAll K F vs ds ∧ ds.length = np ∧ sem ds = some r ∧ (∀ v F' H', Ext F H F' H' → View K F' H' v r → New r v H H' → Q v H') ∧
  ∀ d, r = .xr d → ∀ F' H' cv dd, Ext F H F' H' → Xat K F' cv dd d → E cv dd H'
section
variable (P : Program) (w : World) (K : PySem.W.Frag) (mg : Str → Option Value) (base : Heap)
structure Cal (k : Nat) (nm : Str) (np : Nat) (sem : List PyData → Option RV) : Prop where
  len : ∀ ds r, sem ds = some r → ds.length = np
  ex : ∃ (f : Addr) (fd : FuncData) (ps : List Str), mg nm = some (.ref f) ∧ PySem.W.keepIn K (.ref f) = true ∧ Binds K fd ps [] ∧ FnOk P w K mg base CX0 k f fd ps (spD K np sem)
structure CalX (k : Nat) (nm : Str) (np : Nat) (sem : List PyData → Option RV) : Prop where
  len : ∀ ds r, sem ds = some r → ds.length = np
  ex : ∃ (f : Addr) (fd : FuncData) (ps : List Str), mg nm = some (.ref f) ∧ PySem.W.keepIn K (.ref f) = true ∧ Binds K fd ps [] ∧ FnOk P w K mg base (L2.CX P w) k f fd ps (spX K np sem)
structure CalN (k : Nat) (nm : Str) (np : Nat) (sem : List PyData → Option RV) : Prop where
  len : ∀ ds r, sem ds = some r → ds.length = np
  ex : ∃ (f : Addr) (fd : FuncData) (ps : List Str), mg nm = some (.ref f) ∧ PySem.W.keepIn K (.ref f) = true ∧ Binds K fd ps [] ∧ FnOk P w K mg base (L2N.CX P w) k f fd ps (spX K np sem)
structure CalT (k : Nat) (cn : Option Str) (nm : Str) (q np : Nat) (sem : List (List Stp) → OT → List PyData → Option (RV × OT)) : Prop where
  len : ∀ pw t ds z, sem pw t ds = some z → ds.length + 1 = np
  ex : ∃ (f : Addr) (fd : FuncData) (ps : List Str), PySem.W.keepIn K (.ref f) = true ∧ Binds K fd ps [] ∧ FnOk P w K mg base (L2.CX P w) k f fd ps (spT K q np (fitC (cn.map fun x => (x, nm))) sem) ∧
    match cn with
    | none => mg nm = some (.ref f)
    | some cl => q = 0 ∧ ∀ C, ClsAt K cl C → L2.Cls K C ∧ L2.Meth K C nm f
structure CalC (k : Nat) (nm : Str) (np : Nat) (sem : List (List Stp) → OT → List PyData → Option (RV × OT)) : Prop where
  len : ∀ pw t ds z, sem pw t ds = some z → ds.length + 1 = np
  ex : ∃ (C f : Addr) (fd : FuncData) (ps : List Str), mg nm = some (.ref C) ∧ ClsAt K nm C ∧ L2.Mk K C f ∧ Binds K fd ps [] ∧ FnOk P w K mg base (L2.CX P w) k f fd ps (spT K 0 np (fitC (some (nm, ("__init__" : Str)))) sem)
structure CalR (k : Nat) (nm : Str) (np : Nat) (sem : List PyData → Option OT) : Prop where
  len : ∀ ds t, sem ds = some t → ds.length = np
  ex : ∃ (f : Addr) (fd : FuncData) (ps : List Str), mg nm = some (.ref f) ∧ PySem.W.keepIn K (.ref f) = true ∧ Binds K fd ps [] ∧
    FnOk P w K mg base CX0 k f fd ps (fun vs H Q _ => ∃ F ds t, Same F H ∧ RpAll K F vs ds ∧ ds.length = np ∧ sem ds = some t ∧ ∀ v F' H' qs, Ext F H F' H' → Tr K F' H' v t qs → qs.Nodup → (∀ b ∈ qs, H b = none) → Q v H')
structure CalI (k : Nat) (cl m : Str) (sem : List PyData → Option RV) : Prop where
  ex : ∃ (f : Addr) (fd : FuncData) (ps : List Str) (np : Nat), PySem.W.keepIn K (.ref f) = true ∧ Binds K fd ps [] ∧ (∀ C, ClsAt K cl C → L2.Cls K C ∧ L2.Meth K C m f) ∧ (∀ ds r, sem ds = some r → ds.length = np) ∧ FnOk P w K mg base CX0 k f fd ps (spD K np sem)
structure TrsOk (k : Nat) (tn : TNs) (tt : TTab) : Prop where
  t : ∀ (f : Nat) cn x q, tn.tns[f]? = some (cn, x, q) → (tt.tc[f]?).join = (cn.map fun y => (y, x)) ∧ ∃ s j np, tt.ts[f]? = some s ∧ j ≤ k ∧ CalT P w K mg base j cn x q np s
  c : ∀ (f : Nat) x, (f, x) ∈ tn.cns → (tt.tc[f]?).join = some (x, ("__init__" : Str)) ∧ ∃ s j np, tt.ts[f]? = some s ∧ j + 1 ≤ k ∧ CalC P w K mg base j x np s
  r : ∀ (f : Nat) x, tn.rns[f]? = some x → ∃ s j np, tt.rs[f]? = some s ∧ j ≤ k ∧ CalR P w K mg base j x np s
  o : ∀ nm f, (nm, f) ∈ tt.ofs → ∀ C, ClsAt K nm C → L2.Cls K C ∧ L2.NoAttr K C f
  a : ∀ g d, tt.als.lookup g = some d → AlOk P w K mg base g d ∧ 1 ≤ k
  i : ∀ cl m s, tt.ims.lookup (cl, m) = some s → ∃ j, j ≤ k ∧ CalI P w K mg base j cl m s
  j : ∀ nm D b, tt.jas.lookup (nm, D) = some b → ∃ E, mg D = some (.ref E) ∧ ∀ C, ClsAt K nm C → IsJ K C E b
  n : ∀ g s, tt.ens.lookup g = some s → ∃ j np, j ≤ k ∧ CalN P w K mg base j g np s
  h : ∀ nm f, tt.hms.lookup nm = some f → X1H P w K mg base nm f ∧ 2 ≤ k
inductive CalsX (k : Nat) : List Str → List (List PyData → Option RV) → Prop
  | nil : CalsX k [] []
  | cons {j : Nat} {x : Str} {np : Nat} {s : List PyData → Option RV} {xs : List Str} {ss : List (List PyData → Option RV)} : CalX P w K mg base j x np s → j ≤ k → CalsX k xs ss → CalsX k (x :: xs) (s :: ss)
inductive Cals (k : Nat) : List Str → List (List PyData → Option RV) → Prop
  | nil : Cals k [] []
  | cons {j : Nat} {x : Str} {np : Nat} {s : List PyData → Option RV} {xs : List Str} {ss : List (List PyData → Option RV)} : Cal P w K mg base j x np s → j ≤ k → Cals k xs ss → Cals k (x :: xs) (s :: ss)
inductive Gls : List Str → List PyData → Prop
  | nil : Gls [] []
  | cons {x : Str} {d : PyData} {xs : List Str} {ds : List PyData} : (∃ u v, mg x = some u ∧ RelV v u ∧ ∀ F, Rp K F v d) → Gls xs ds → Gls (x :: xs) (d :: ds)
end
section
variable {P : Program} {w : World} {K : PySem.W.Frag} {mg : Str → Option Value} {base : Heap}
theorem TrsOk.none {k : Nat} : TrsOk P w K mg base k {} {} := ⟨fun f cn x q h => by simp at h, fun f x h => by simp at h, fun f x h => by simp at h, fun nm f h => by simp at h, fun g d h => (by cases h), fun cl m s h => (by cases h), fun nm D b h => (by cases h), fun g s h => (by cases h), fun nm f h => (by cases h)⟩
theorem Cals.get {k : Nat} {xs : List Str} {ss : List (List PyData → Option RV)} (h : Cals P w K mg base k xs ss) : ∀ {f : Nat} {x : Str}, xs[f]? = some x → ∃ s j np, ss[f]? = some s ∧ j ≤ k ∧ Cal P w K mg base j x np s := by
  induction h with
  | nil => intro f x h; simp at h
  | cons c l _ ih =>
    intro f x h
    cases f with
    | zero => simp at h; subst h; exact ⟨_, _, _, rfl, l, c⟩
    | succ f => exact ih (by simpa using h)
theorem CalsX.get {k : Nat} {xs : List Str} {ss : List (List PyData → Option RV)} (h : CalsX P w K mg base k xs ss) : ∀ {f : Nat} {x : Str}, xs[f]? = some x → ∃ s j np, ss[f]? = some s ∧ j ≤ k ∧ CalX P w K mg base j x np s := by
  induction h with
  | nil => intro f x h; simp at h
  | cons c l _ ih =>
    intro f x h
    cases f with
    | zero => simp at h; subst h; exact ⟨_, _, _, rfl, l, c⟩
    | succ f => exact ih (by simpa using h)
theorem Gls.get {xs : List Str} {ds : List PyData} (h : Gls K mg xs ds) : ∀ {g : Nat} {x : Str} {d : PyData}, xs[g]? = some x → ds[g]? = some d → ∃ u v, mg x = some u ∧ RelV v u ∧ ∀ F, Rp K F v d := by
  induction h with
  | nil => intro g x d h; simp at h
  | cons c _ ih =>
    intro g x d h1 h2
    cases g with
    | zero => simp at h1 h2; subst h1; subst h2; exact c
    | succ g => exact ih (by simpa using h1) (by simpa using h2)
theorem runD_len {c : Cl} {df : Df} {ds : List PyData} {r : RV} (h : runD c df ds = some r) : ds.length = df.np := by
  unfold runD at h
  split at h
  · assumption
  · cases h
theorem rpStart {F : Hp} : ∀ {vs : List V} {ds : List PyData}, RpAll K F vs ds → ∀ (m : Nat) (i : Nat) (r : RV), (ds.map (fun d => some (RV.fz d)) ++ List.replicate m none)[i]? = some (some r) → ∃ v, (vs.map some ++ List.replicate m (none : Option V))[i]? = some (some v) ∧ ∃ d, r = .fz d ∧ Rp K F v d
  | _, _, .nil, m, i, r, h => by
    simp only [List.map_nil, List.nil_append, List.getElem?_replicate] at h
    split at h <;> cases h
  | _, _, .cons a t, m, 0, r, h => by
    simp at h
    subst h
    exact ⟨_, rfl, _, rfl, a⟩
  | _, _, .cons a t, m, i + 1, r, h => by
    obtain ⟨v, h1, h2⟩ := rpStart t m i r (by simpa using h)
    exact ⟨v, by simpa using h1, h2⟩
section
variable {fns gls xns : List Str} {ss xss : List (List PyData → Option RV)} {gs : List PyData} {T : XTab} {k : Nat} {tn : TNs} {tt : TTab}
theorem no1 {k : Nat} : ∀ nm f, ([] : List (Str × Str)).lookup nm = some f → X1 P w K mg base nm f ∧ 2 ≤ k := fun _ _ h => by cases h
theorem co_mk (hs : Cals P w K mg base k fns ss) (hg : Gls K mg gls gs) (hx : CalsX P w K mg base k xns xss) (xc : XcOk K mg T.rzs T.cls T.fls T.m0s) (x1 : ∀ nm f, T.m1s.lookup nm = some f → X1 P w K mg base nm f ∧ 2 ≤ k) (gd : GdAt K mg w T.gds) (to : TrsOk P w K mg base k tn tt) (bn : ∀ x ∈ bnames, mg x = none) {X : Cx} {sc : Scope} {N : List Str}
    (e1 : X.prog = P) (e2 : X.w = w) (e3 : X.K = K) (e4 : X.mg = mg) (e5 : X.base = base) (e6 : X.env.scope = sc) (e7 : X.N = N) (nd : X.N.Nodup) (e8 : X.fn = fun _ => true) (cm : X.calm = true) (un : X.A.units + 200 < cLine) (hr : Room k X.A) :
    CO X ⟨sc, N, fun _ => true, fns, gls, xns, tn.tns, tn.rns, tn.cns⟩ (tabT ss gs xss T tt) := {
  sc := e6
  N := e7
  nd := nd
  fn := e8
  calm := cm
  un := un
  bn := by rw [e4]; exact bn
  fns := fun f x h => by
    subst e1 e2 e3 e4 e5
    obtain ⟨sm, j, np, q1, q2, c⟩ := hs.get h
    obtain ⟨fa, fd', ps', p1, p2, p3, p4⟩ := c.ex
    refine ⟨np, fun ds r h => c.len ds r ?_, ⟨CX0, j, fa, fd', ps', hr.mono q2, p1, p2, p3, ?_, fun _ _ _ _ _ h => h⟩⟩
    · have h : (ss[f]?).bind (fun s => s ds) = some r := h
      rw [q1] at h
      exact h
    · refine p4.imp fun vs H Q E ⟨F, ds, r, a1, a2, a3, a4, a5⟩ => ⟨F, ds, r, a1, a2, a3, ?_, a5⟩
      have h : (ss[f]?).bind (fun s => s ds) = some r := a4
      rw [q1] at h
      exact h
  gls := fun g x d h1 h2 => by subst e3 e4; exact hg.get h1 h2
  xfn := fun f x h => by
    subst e1 e2 e3 e4 e5
    obtain ⟨sm, j, np, q1, q2, c⟩ := hx.get h
    obtain ⟨fa, fd', ps', p1, p2, p3, p4⟩ := c.ex
    refine ⟨np, fun ds r h => c.len ds r ?_, ⟨j, fa, fd', ps', hr.mono q2, p1, p2, p3, ?_⟩⟩
    · have h : (xss[f]?).bind (fun s => s ds) = some r := h
      rw [q1] at h
      exact h
    · refine p4.imp fun vs H Q E ⟨F, ds, r, a1, a2, a3, a4, a5⟩ => ⟨F, ds, r, a1, a2, a3, ?_, a5⟩
      have h : (xss[f]?).bind (fun s => s ds) = some r := a4
      rw [q1] at h
      exact h
  xc := by rw [e3, e4]; exact xc
  x1 := fun nm f h => by
    subst e1 e2 e3 e4 e5
    exact ⟨(x1 nm f h).1, hr.mono (x1 nm f h).2⟩
  gd := by subst e2 e3 e4; exact gd
  ofs := by rw [e3]; exact to.o
  al := fun g d h => by
    subst e1 e2 e3 e4 e5
    exact ⟨(to.a g d h).1, (L2H.roomH_of hr).mono (to.a g d h).2⟩
  im := fun cl m s h => by
    subst e1 e2 e3 e4 e5
    obtain ⟨j, q2, c⟩ := to.i cl m s h
    obtain ⟨fa, fd', ps', np, p1, p2, p3, p4, p5⟩ := c.ex
    exact ⟨CX0, j, fa, fd', ps', np, hr.mono q2, p1, p2, p3, p4, p5.imp fun vs H Q E ⟨F, ds, r, a1, a2, a3, a4, a5⟩ => ⟨F, ds, r, a1, a2, a3, a4, a5⟩, fun _ _ _ _ _ h => h⟩
  ja := by rw [e3, e4]; exact to.j
  en := fun g sm h => by
    subst e1 e2 e3 e4 e5
    obtain ⟨j, np, q2, c⟩ := to.n g sm h
    obtain ⟨fa, fd', ps', p1, p2, p3, p4⟩ := c.ex
    exact ⟨np, c.len, ⟨j, fa, fd', ps', hr.mono q2, p1, p2, p3, p4.imp fun vs H Q E ⟨F, ds, r, a1, a2, a3, a4, a5⟩ => ⟨F, ds, r, a1, a2, a3, a4, a5⟩⟩⟩
  hm := fun nm f h => by
    subst e1 e2 e3 e4 e5
    exact ⟨(to.h nm f h).1, (L2H.roomH_of hr).mono (to.h nm f h).2⟩
  tfn := fun f cn x q h => by
    subst e1 e2 e3 e4 e5
    obtain ⟨h0, sm, j, np, q1, q2, c⟩ := to.t f cn x q h
    obtain ⟨fa, fd', ps', p1, p2, p3, p4⟩ := c.ex
    refine ⟨h0, np, fun pw t ds z h => c.len pw t ds z ?_, ⟨j, fa, fd', ps', hr.mono q2, p1, p2, ?_, ?_⟩⟩
    · have h : (tt.ts[f]?).bind (fun s => s pw t ds) = some z := h
      rw [q1] at h
      exact h
    · refine p3.imp fun vs H Q E ⟨F, v, t, ps, pw, ls, vs1, vs2, ds, r, u, a1, a2, a3, a4, a5, a6, a7, a8, a9, b1, b2, b3⟩ => ⟨F, v, t, ps, pw, ls, vs1, vs2, ds, r, u, a1, a2, a3, a4, a5, a6, a7, a8, a9, b1, ?_, b3⟩
      have h : (tt.ts[f]?).bind (fun s => s pw t ds) = some (r, u) := b2
      rw [q1] at h
      exact h
    · cases cn <;> exact p4
  mkc := fun f x h => by
    subst e1 e2 e3 e4 e5
    obtain ⟨h0, sm, j, np, q1, q2, c⟩ := to.c f x h
    obtain ⟨C, fa, fd', ps', p1, p2, p3, p4, p5⟩ := c.ex
    refine ⟨h0, np, fun pw t ds z h => c.len pw t ds z ?_, ⟨j, C, fa, fd', ps', hr.mono q2, p1, p2, p3, p4, ?_⟩⟩
    · have h : (tt.ts[f]?).bind (fun s => s pw t ds) = some z := h
      rw [q1] at h
      exact h
    · refine p5.imp fun vs H Q E ⟨F, v, t, ps, pw, ls, vs1, vs2, ds, r, u, a1, a2, a3, a4, a5, a6, a7, a8, a9, b1, b2, b3⟩ => ⟨F, v, t, ps, pw, ls, vs1, vs2, ds, r, u, a1, a2, a3, a4, a5, a6, a7, a8, a9, b1, ?_, b3⟩
      have h : (tt.ts[f]?).bind (fun s => s pw t ds) = some (r, u) := b2
      rw [q1] at h
      exact h
  rfn := fun f x h => by
    subst e1 e2 e3 e4 e5
    obtain ⟨sm, j, np, q1, q2, c⟩ := to.r f x h
    obtain ⟨fa, fd', ps', p1, p2, p3, p4⟩ := c.ex
    refine ⟨np, fun ds r h => c.len ds r ?_, ⟨CX0, j, fa, fd', ps', hr.mono q2, p1, p2, p3, ?_, fun _ _ _ _ _ h => h⟩⟩
    · have h : (tt.rs[f]?).bind (fun s => s ds) = some r := h
      rw [q1] at h
      exact h
    · refine p4.imp fun vs H Q E ⟨F, ds, r, a1, a2, a3, a4, a5⟩ => ⟨F, ds, r, a1, a2, a3, ?_, a5⟩
      have h : (tt.rs[f]?).bind (fun s => s ds) = some r := a4
      rw [q1] at h
      exact h }
theorem start_ok {F0 H : Hp} {N : List Str} {vs : List V} {ds : List PyData} {n np : Nat} (sm : Same F0 H) (ra : RpAll K F0 vs ds) (l : ds.length = np) (h3 : N.length = n) :
    StOk K (fun _ => []) F0 H F0 H (ds.map (fun d => some (RV.fz d)) ++ List.replicate (n - np) none) (L2.start N vs) := by
  have e0 : L2.start N vs = vs.map some ++ List.replicate (n - np) none := by
    unfold L2.start
    rw [ra.length, l, h3]
  have st : ∀ (i : Nat) (r : RV), (ds.map (fun d => some (RV.fz d)) ++ List.replicate (n - np) none)[i]? = some (some r) → ∃ d, r = .fz d := fun i r h => by
    obtain ⟨v, _, d, e, _⟩ := rpStart ra _ i r h
    exact ⟨d, e⟩
  have ok : EnvOk K F0 H (ds.map (fun d => some (RV.fz d)) ++ List.replicate (n - np) none) (L2.start N vs) := by
    rw [e0]
    refine ⟨sm, by simp [ra.length], fun i r h _ => ?_, ⟨fun i pw t h => ?_, fun j i w pw t h => ?_⟩⟩
    · obtain ⟨v, q1, d, rfl, q3⟩ := rpStart ra _ i r h
      exact ⟨v, q1, .fz q3⟩
    · obtain ⟨d, e⟩ := st i _ h; cases e
    · obtain ⟨d, e⟩ := st j _ h; cases e
  have no : ∀ i p, OwnAt H (ds.map (fun d => some (RV.fz d)) ++ List.replicate (n - np) none) (L2.start N vs) i p → False := fun i p ⟨r, u, q1, q2, q3⟩ => by
    obtain ⟨d, rfl⟩ := st i r q1
    exact q3
  exact ⟨.refl sm, ok, fun i p h => (no i p h).elim, fun i j p h _ => (no i p h).elim, fun i pw t h => by obtain ⟨d, e⟩ := st i _ h; cases e⟩
theorem fn_mkT {x qual : Str} {st : Stmt} {f : Addr} {fd : FuncData} {N ps : List Str} {df : Df}
    (F : Fun K x qual st f fd) (hc : chkDT fns gls xns tn N ps df st = true) (hs : Cals P w K mg base k fns ss) (hg : Gls K mg gls gs) (hx : CalsX P w K mg base k xns xss) (xc : XcOk K mg T.rzs T.cls T.fls T.m0s) (x1 : ∀ nm f, T.m1s.lookup nm = some f → X1 P w K mg base nm f ∧ 2 ≤ k) (bn : ∀ x ∈ bnames, mg x = none) (gd : GdAt K mg w T.gds := by first | assumption | exact GdAt.none) (to : TrsOk P w K mg base k tn tt := by first | assumption | exact TrsOk.none) :
    FnOk P w K mg base CX0 (k + 1) f fd ps (spD K df.np (runD (tabT ss gs xss T tt) df)) := by
  unfold chkDT at hc
  simp only [Bool.and_eq_true, decide_eq_true_eq] at hc
  obtain ⟨⟨⟨h1, h2⟩, h3⟩, h4⟩ := hc
  have S := scB_ok h1
  refine F.ok S (fun vs H Q E ⟨_, ds, r, _, ra, l, _, _⟩ => by rw [ra.length, l, h2]) fun cdv A outer s H vs Q E hr ⟨F0, ds, r, sm, ra, l, hq, post⟩ => ?_
  let X : Cx := (cxOf CX0 P w K mg base N qual (defScope st) f cdv A outer s H E).nox
  have un : X.A.units + 200 < cLine := by have := hr.un; show (A.deeper (envOfC qual (defScope st) s.heap.objs.size f cdv)).units + 200 < cLine; omega
  have C0 : CO X ⟨defScope st, N, fun _ => true, fns, gls, xns, tn.tns, tn.rns, tn.cns⟩ (tabT ss gs xss T tt) := co_mk hs hg hx xc x1 gd to bn rfl rfl rfl rfl rfl rfl rfl S.nd rfl rfl un hr
  have C : COS X ⟨defScope st, N, fun _ => true, fns, gls, xns, tn.tns, tn.rns, tn.cns⟩ (tabT ss gs xss T tt) (fun _ _ _ => False) := { toCO := C0, tk := fun _ _ ⟨_, _, _, _, _, _, _, _, _, _, _, _, _, _, _, _, h⟩ => h.elim, po := PassesOwn.never, stk := rfl, frm := rfl, pa := fun _ => PassesOwnAt.never }
  refine ⟨_, sndSs df.body C h4, ?_⟩
  unfold runD at hq
  rw [if_pos l] at hq
  obtain ⟨o, g1, g2⟩ := bnd hq
  refine ⟨_, F0, H, F0, _, o, start_ok sm ra l h3, g1, ?_⟩
  cases o with
  | rt r' =>
    dsimp only at g2
    by_cases hx' : (r'.isX || !r'.pl) = true
    · rw [if_pos hx'] at g2; cases g2
    rw [if_neg hx'] at g2
    cases g2
    simp only [Bool.or_eq_true, not_or, Bool.not_eq_true', Bool.not_eq_true, Bool.not_eq_false] at hx'
    refine ⟨fun v F1 H1 x1 w1 n1 => ?_, fun d e => by subst e; exact absurd hx'.1 (by simp [RV.isX])⟩
    rcases w1 with w1 | ⟨pw, t, ps, e, _⟩
    · exact post v F1 H1 x1 w1 n1
    · rw [e] at hx'; cases hx'.2
  | re r' e2 =>
    dsimp only at g2
    by_cases hx' : (r'.isX || !r'.pl) = true
    · rw [if_pos hx'] at g2; cases g2
    rw [if_neg hx'] at g2
    cases g2
    simp only [Bool.or_eq_true, not_or, Bool.not_eq_true', Bool.not_eq_true, Bool.not_eq_false] at hx'
    exact ⟨fun v F1 σ1 H1 s1 w1 n1 => post v F1 H1 s1.ext w1 fun p hp => (n1 p hp).1, fun d e => by subst e; exact absurd hx'.1 (by simp [RV.isX])⟩
  | nx e =>
    cases g2
    exact fun F1 σ1 H1 s1 => post .non F1 H1 s1.ext (.fz .non) newFz
  | bk e => cases g2
  | ct e => cases g2
theorem cal_mkT {x z : Str} {st : Stmt} {f : Addr} {fd : FuncData} {N ps : List Str} {df : Df}
    (F : Fun K z z st f fd) (hm : mg x = some (.ref f)) (hb : Binds K fd ps []) (hc : chkDT fns gls xns tn N ps df st = true) (hs : Cals P w K mg base k fns ss) (hg : Gls K mg gls gs) (hx : CalsX P w K mg base k xns xss) (xc : XcOk K mg T.rzs T.cls T.fls T.m0s) (x1 : ∀ nm f, T.m1s.lookup nm = some f → X1 P w K mg base nm f ∧ 2 ≤ k) (bn : ∀ x ∈ bnames, mg x = none) (gd : GdAt K mg w T.gds := by first | assumption | exact GdAt.none) (to : TrsOk P w K mg base k tn tt := by first | assumption | exact TrsOk.none) :
    Cal P w K mg base (k + 1) x df.np (runD (tabT ss gs xss T tt) df) :=
  ⟨fun ds r h => runD_len h, f, fd, ps, hm, F.kp, hb, fn_mkT F hc hs hg hx xc x1 bn gd to⟩
theorem runR_len {c : Cl} {df : Df} {ds : List PyData} {t : OT} (h : runR c df ds = some t) : ds.length = df.np := by
  unfold runR at h
  split at h
  · assumption
  · cases h
theorem fn_mkR {x : Str} {st : Stmt} {f : Addr} {fd : FuncData} {N ps : List Str} {df : Df}
    (F : Fun K x x st f fd) (hc : chkDT fns gls xns tn N ps df st = true) (hs : Cals P w K mg base k fns ss) (hg : Gls K mg gls gs) (hx : CalsX P w K mg base k xns xss) (xc : XcOk K mg T.rzs T.cls T.fls T.m0s) (x1 : ∀ nm f, T.m1s.lookup nm = some f → X1 P w K mg base nm f ∧ 2 ≤ k) (bn : ∀ x ∈ bnames, mg x = none) (gd : GdAt K mg w T.gds := by first | assumption | exact GdAt.none) (to : TrsOk P w K mg base k tn tt := by first | assumption | exact TrsOk.none) :
    FnOk P w K mg base CX0 (k + 1) f fd ps (fun vs H Q _ => ∃ F ds t, Same F H ∧ RpAll K F vs ds ∧ ds.length = df.np ∧ runR (tabT ss gs xss T tt) df ds = some t ∧ ∀ v F' H' qs, Ext F H F' H' → Tr K F' H' v t qs → qs.Nodup → (∀ b ∈ qs, H b = none) → Q v H') := by
  unfold chkDT at hc
  simp only [Bool.and_eq_true, decide_eq_true_eq] at hc
  obtain ⟨⟨⟨h1, h2⟩, h3⟩, h4⟩ := hc
  have S := scB_ok h1
  refine F.ok S (fun vs H Q E ⟨_, ds, r, _, ra, l, _, _⟩ => by rw [ra.length, l, h2]) fun cdv A outer s H vs Q E hr ⟨F0, ds, r, sm, ra, l, hq, post⟩ => ?_
  let X : Cx := (cxOf CX0 P w K mg base N x (defScope st) f cdv A outer s H E).nox
  have un : X.A.units + 200 < cLine := by have := hr.un; show (A.deeper (envOfC x (defScope st) s.heap.objs.size f cdv)).units + 200 < cLine; omega
  have C0 : CO X ⟨defScope st, N, fun _ => true, fns, gls, xns, tn.tns, tn.rns, tn.cns⟩ (tabT ss gs xss T tt) := co_mk hs hg hx xc x1 gd to bn rfl rfl rfl rfl rfl rfl rfl S.nd rfl rfl un hr
  have C : COS X ⟨defScope st, N, fun _ => true, fns, gls, xns, tn.tns, tn.rns, tn.cns⟩ (tabT ss gs xss T tt) (fun _ _ _ => False) := { toCO := C0, tk := fun _ _ ⟨_, _, _, _, _, _, _, _, _, _, _, _, _, _, _, _, h⟩ => h.elim, po := PassesOwn.never, stk := rfl, frm := rfl, pa := fun _ => PassesOwnAt.never }
  refine ⟨_, sndSs df.body C h4, ?_⟩
  unfold runR at hq
  rw [if_pos l] at hq
  obtain ⟨o, g1, g2⟩ := bnd hq
  have g3 : o = .rt (.tr [] r) := by
    cases o with
    | rt r' =>
      cases r' with
      | tr pw t =>
        cases pw with
        | nil => cases g2; rfl
        | cons _ _ => cases g2
      | _ => cases g2
    | _ => cases g2
  subst g3
  refine ⟨_, F0, H, F0, _, _, start_ok sm ra l h3, g1, fun v F1 H1 x1 w1 n1 => ?_, fun d e => by cases e⟩
  rcases w1 with w1 | ⟨pw, t, qs, e, tr, nd⟩
  · cases w1.pl
  · cases e
    exact post v F1 H1 qs x1 tr nd fun b hb => n1 b ((foot_tr tr).mpr hb)
theorem cal_mk {x z : Str} {st : Stmt} {f : Addr} {fd : FuncData} {N ps : List Str} {df : Df}
    (F : Fun K z z st f fd) (hm : mg x = some (.ref f)) (hb : Binds K fd ps []) (hc : chkD fns gls N ps df st = true) (hs : Cals P w K mg base k fns ss) (hg : Gls K mg gls gs) (bn : ∀ x ∈ bnames, mg x = none) :
    Cal P w K mg base (k + 1) x df.np (runD (tabC ss gs) df) := cal_mkT F hm hb hc hs hg .nil XcOk.none no1 bn
end
def scrD (ns : List Int) : PyData := .dict [(.none, .list (ns.map PyData.int))]
theorem law_sp {sem : List PyData → Option RV} {n : Nat} (h : ∀ ns : List Int, ns.length ≤ n → sem [scrD ns] = some (.fz (.bool true))) (H : Hp) (a : Addr) (ns : List Int) (hl : ns.length ≤ n) (hS : SqL K H a (ns.map V.int)) :
    spD K 1 sem [.ref a] H (fun v _ => v = .bl true) fun _ _ _ => False :=
  ⟨H, [scrD ns], _, Same.refl _, .cons (.scr hS) .nil, rfl, h ns hl, fun v F' H' x w n => w.bool⟩
end
end Mn
namespace Mn
open PySem PySem.Spec PyProof.Rows L2
section
variable {K : PySem.W.Frag} {mg : Str → Option Value} {x : Str}
theorem gl_int {i : Int} {t : Tok} (h : mg x = some (.int i t)) : ∃ u v, mg x = some u ∧ RelV v u ∧ ∀ F, Rp K F v (.int i) := ⟨_, .int i, h, ⟨t, rfl⟩, fun _ => .int i⟩
theorem gl_tup {a : Addr} {its : List Value} {n : Nat} {sl : Array (Option Value)} {vs : List V} {ds : List PyData} (h : mg x = some (.ref a)) (l : K.lookup a = some ⟨.type "tuple", none, .seq its.toArray n, sl⟩) (hv : Vals vs its) (hd : ∀ F, RpAll K F vs ds) (hl : its.length ≤ 1000) :
    ∃ u v, mg x = some u ∧ RelV v u ∧ ∀ F, Rp K F v (.tuple ds) :=
  ⟨_, .ref a, h, rfl, fun F => .tup (.inr ⟨_, its.toArray, n, l, rfl, rfl, rfl, by rw [sizeLine_eq]; simpa using Nat.le_trans hl (by decide), by simpa using hv⟩) (hd F)⟩
end
end Mn
namespace Mn
open PySem PySem.Spec PyProof.Rows L2
section
variable (P : Program) (w : World) (K : PySem.W.Frag) (mg : Str → Option Value) (base : Heap)
inductive CalsT (k : Nat) : List (Option Str × Str × Nat) → List (List (List Stp) → OT → List PyData → Option (RV × OT)) → List (Option (Str × Str)) → Prop
  | nil : CalsT k [] [] []
  | cons {j : Nat} {cn : Option Str} {x : Str} {q np : Nat} {s : List (List Stp) → OT → List PyData → Option (RV × OT)} {xs : List (Option Str × Str × Nat)} {ss : List (List (List Stp) → OT → List PyData → Option (RV × OT))} {cs : List (Option (Str × Str))} : CalT P w K mg base j cn x q np s → j ≤ k → CalsT k xs ss cs → CalsT k ((cn, x, q) :: xs) (s :: ss) ((cn.map fun y => (y, x)) :: cs)
inductive CalsR (k : Nat) : List Str → List (List PyData → Option OT) → Prop
  | nil : CalsR k [] []
  | cons {j : Nat} {x : Str} {np : Nat} {s : List PyData → Option OT} {xs : List Str} {ss : List (List PyData → Option OT)} : CalR P w K mg base j x np s → j ≤ k → CalsR k xs ss → CalsR k (x :: xs) (s :: ss)
inductive CalsC (k : Nat) (ts : List (List (List Stp) → OT → List PyData → Option (RV × OT))) (tc : List (Option (Str × Str))) : List (Nat × Str) → Prop
  | nil : CalsC k ts tc []
  | cons {j f : Nat} {x : Str} {np : Nat} {s : List (List Stp) → OT → List PyData → Option (RV × OT)} {xs : List (Nat × Str)} : ts[f]? = some s → (tc[f]?).join = some (x, ("__init__" : Str)) → CalC P w K mg base j x np s → j + 1 ≤ k → CalsC k ts tc xs → CalsC k ts tc ((f, x) :: xs)
end
section
variable {P : Program} {w : World} {K : PySem.W.Frag} {mg : Str → Option Value} {base : Heap} {k : Nat}
theorem CalsT.get {xs : List (Option Str × Str × Nat)} {ss : List (List (List Stp) → OT → List PyData → Option (RV × OT))} {cs : List (Option (Str × Str))} (h : CalsT P w K mg base k xs ss cs) : ∀ {f : Nat} {cn : Option Str} {x : Str} {q : Nat}, xs[f]? = some (cn, x, q) → (cs[f]?).join = (cn.map fun y => (y, x)) ∧ ∃ s j np, ss[f]? = some s ∧ j ≤ k ∧ CalT P w K mg base j cn x q np s := by
  induction h with
  | nil => intro f cn x q h; simp at h
  | cons c l _ ih =>
    intro f cn x q h
    cases f with
    | zero =>
      simp at h
      obtain ⟨rfl, rfl, rfl⟩ := h
      exact ⟨rfl, _, _, _, rfl, l, c⟩
    | succ f =>
      obtain ⟨h1, h2⟩ := ih (f := f) (by simpa using h)
      exact ⟨by simpa using h1, by simpa using h2⟩
theorem CalsR.get {xs : List Str} {ss : List (List PyData → Option OT)} (h : CalsR P w K mg base k xs ss) : ∀ {f : Nat} {x : Str}, xs[f]? = some x → ∃ s j np, ss[f]? = some s ∧ j ≤ k ∧ CalR P w K mg base j x np s := by
  induction h with
  | nil => intro f x h; simp at h
  | cons c l _ ih =>
    intro f x h
    cases f with
    | zero => simp at h; subst h; exact ⟨_, _, _, rfl, l, c⟩
    | succ f => exact ih (by simpa using h)
theorem CalsC.get {ts : List (List (List Stp) → OT → List PyData → Option (RV × OT))} {tc : List (Option (Str × Str))} {xs : List (Nat × Str)} (h : CalsC P w K mg base k ts tc xs) : ∀ {f : Nat} {x : Str}, (f, x) ∈ xs → (tc[f]?).join = some (x, ("__init__" : Str)) ∧ ∃ s j np, ts[f]? = some s ∧ j + 1 ≤ k ∧ CalC P w K mg base j x np s := by
  induction h with
  | nil => intro f x h; simp at h
  | cons h1 h2 c l _ ih =>
    intro f x h
    rcases List.mem_cons.mp h with e | h
    · cases e
      exact ⟨h2, _, _, _, h1, l, c⟩
    · exact ih h
def OfsOk (K : PySem.W.Frag) (ofs : List (Str × Str)) : Prop := ∀ nm f, (nm, f) ∈ ofs → ∀ C, ClsAt K nm C → L2.Cls K C ∧ L2.NoAttr K C f
theorem OfsOk.nil : OfsOk K [] := fun _ _ h => by simp at h
theorem OfsOk.cons {nm f : Str} {C : Addr} {ofs : List (Str × Str)} (hC : ClsAt K nm C) (c : L2.Cls K C) (n : L2.NoAttr K C f) (h : OfsOk K ofs) : OfsOk K ((nm, f) :: ofs) := fun nm' f' hm C' hC' => by
  rcases List.mem_cons.mp hm with e | hm
  · cases e
    have e1 : PySem.W.nsIn K mainGlobals nm = some (some (.ref C)) := hC
    have e2 : PySem.W.nsIn K mainGlobals nm = some (some (.ref C')) := hC'
    rw [e1] at e2
    cases e2
    exact ⟨c, n⟩
  · exact h nm' f' hm C' hC'
theorem trs_mk {tns : List (Option Str × Str × Nat)} {rns : List Str} {cns : List (Nat × Str)} {ts : List (List (List Stp) → OT → List PyData → Option (RV × OT))} {rs : List (List PyData → Option OT)} {tc : List (Option (Str × Str))} {ofs : List (Str × Str)} (t : CalsT P w K mg base k tns ts tc) (r : CalsR P w K mg base k rns rs) (c : CalsC P w K mg base k ts tc cns) (o : OfsOk K ofs) : TrsOk P w K mg base k ⟨tns, rns, cns⟩ ⟨ts, rs, tc, ofs, [], [], [], [], []⟩ :=
  ⟨fun f cn x q h => t.get h, fun f x h => c.get h, fun f x h => r.get h, o, fun g d h => (by cases h), fun cl m s h => (by cases h), fun nm D b h => (by cases h), fun g s h => (by cases h), fun nm f h => (by cases h)⟩
def ImsOk (P : Program) (w : World) (K : PySem.W.Frag) (mg : Str → Option Value) (base : Heap) (k : Nat) (ims : List ((Str × Str) × (List PyData → Option RV))) : Prop := ∀ cl m s, ims.lookup (cl, m) = some s → ∃ j, j ≤ k ∧ CalI P w K mg base j cl m s
def JasOk (K : PySem.W.Frag) (mg : Str → Option Value) (jas : List ((Str × Str) × Bool)) : Prop := ∀ nm D b, jas.lookup (nm, D) = some b → ∃ E, mg D = some (.ref E) ∧ ∀ C, ClsAt K nm C → IsJ K C E b
theorem ImsOk.nil : ImsOk P w K mg base k [] := fun _ _ _ h => by cases h
theorem JasOk.nil : JasOk K mg [] := fun _ _ _ h => by cases h
theorem ImsOk.cons {j : Nat} {cl m : Str} {s : List PyData → Option RV} {ims : List ((Str × Str) × (List PyData → Option RV))} (h : CalI P w K mg base j cl m s) (hj : j ≤ k) (t : ImsOk P w K mg base k ims) : ImsOk P w K mg base k (((cl, m), s) :: ims) := fun cl' m' s' e => by
  rw [List.lookup_cons] at e
  split at e
  · rename_i q
    cases e
    rw [beq_iff_eq] at q
    cases q
    exact ⟨j, hj, h⟩
  · exact t cl' m' s' e
theorem JasOk.cons {nm D : Str} {b : Bool} {E : Addr} {jas : List ((Str × Str) × Bool)} (hm : mg D = some (.ref E)) (h : ∀ C, ClsAt K nm C → IsJ K C E b) (t : JasOk K mg jas) : JasOk K mg (((nm, D), b) :: jas) := fun nm' D' b' e => by
  rw [List.lookup_cons] at e
  split at e
  · rename_i q
    cases e
    rw [beq_iff_eq] at q
    cases q
    exact ⟨E, hm, h⟩
  · exact t nm' D' b' e
end
end Mn
namespace Mn
open PySem PySem.Spec PyProof.Rows L2
@[simp] theorem plO_fz (d : PyData) : plO (.fz d) = some (.fz d) := rfl
@[simp] theorem plO_ol (d : List PyData) : plO (.ol d) = some (.ol d) := rfl
@[simp] theorem plO_od (d : List (PyData × PyData)) : plO (.od d) = some (.od d) := rfl
@[simp] theorem plO_on (d : List (List PyData)) : plO (.on d) = some (.on d) := rfl
@[simp] theorem q_ev_var (c : Cl) (env : Ev) (i : Nat) : ev c env (.var i) = ((env[i]?).join).bind plO := by simp only [ev]
@[simp] theorem q_ev_int (c : Cl) (env : Ev) (i : Int) : ev c env (.int i) = (some (.fz (.int i))) := by simp only [ev]
@[simp] theorem q_ev_str (c : Cl) (env : Ev) (x : Str) : ev c env (.str x) = (some (.fz (.str x))) := by simp only [ev]
@[simp] theorem q_ev_bl (c : Cl) (env : Ev) (b : Bool) : ev c env (.bl b) = (some (.fz (.bool b))) := by simp only [ev]
@[simp] theorem q_ev_non (c : Cl) (env : Ev)  : ev c env (.non ) = (some (.fz .none)) := by simp only [ev]
@[simp] theorem q_ev_glb (c : Cl) (env : Ev) (g : Nat) : ev c env (.glb g) = ((c.glb g).map .fz) := by simp only [ev]
@[simp] theorem q_ev_bin (c : Cl) (env : Ev) (o : Bo) (a : Ex) (b : Ex) : ev c env (.bin o a b) = ((ev c env a).bind fun x => (ev c env b).bind fun y => binD o x y) := by simp only [ev]
@[simp] theorem q_ev_neg (c : Cl) (env : Ev) (a : Ex) : ev c env (.neg a) = (((ev c env a).bind asInt).map fun i => .fz (.int (-i))) := by simp only [ev]
@[simp] theorem q_ev_not (c : Cl) (env : Ev) (a : Ex) : ev c env (.not a) = (((ev c env a).bind asBool).map fun b => .fz (.bool (!b))) := by simp only [ev]
@[simp] theorem q_ev_one (c : Cl) (env : Ev) (a : Ex) : ev c env (.one a) = ((ev c env a).bind fun r => (ownD a r).map .fz) := by simp only [ev]
@[simp] theorem q_ev_and (c : Cl) (env : Ev) (a : Ex) (b : Ex) : ev c env (.and a b) = (((ev c env a).bind asBool).bind fun k => if k then (ev c env b).bind fun r => (ownD b r).map .fz else some (.fz (.bool false))) := by simp only [ev]
@[simp] theorem q_ev_or (c : Cl) (env : Ev) (a : Ex) (b : Ex) : ev c env (.or a b) = (((ev c env a).bind asBool).bind fun k => if k then some (.fz (.bool true)) else (ev c env b).bind fun r => (ownD b r).map .fz) := by simp only [ev]
@[simp] theorem q_ev_cmp (c : Cl) (env : Ev) (o : Co) (a : Ex) (b : Ex) : ev c env (.cmp o a b) = ((ev c env a).bind fun x => (ev c env b).bind fun y => (cmpD o x.d y.d).map fun k => .fz (.bool k)) := by simp only [ev]
@[simp] theorem q_ev_chn (c : Cl) (env : Ev) (o : Co) (o' : Co) (a : Ex) (b : Ex) (e : Ex) : ev c env (.chn o o' a b e) = ((ev c env a).bind fun x => (ev c env b).bind fun y => (cmpD o x.d y.d).bind fun k => if k then (ev c env e).bind fun z => (cmpD o' y.d z.d).map fun k => .fz (.bool k) else some (.fz (.bool false))) := by simp only [ev]
@[simp] theorem q_ev_chn3 (c : Cl) (env : Ev) (o : Co) (o' : Co) (o2 : Co) (a : Ex) (b : Ex) (e : Ex) (d : Ex) : ev c env (.chn3 o o' o2 a b e d) = ((ev c env a).bind fun x => (ev c env b).bind fun y => (cmpD o x.d y.d).bind fun k => if k then (ev c env e).bind fun z => (cmpD o' y.d z.d).bind fun k => if k then (ev c env d).bind fun u => (cmpD o2 z.d u.d).map fun k => .fz (.bool k) else some (.fz (.bool false)) else some (.fz (.bool false))) := by simp only [ev]
@[simp] theorem q_ev_dsx (c : Cl) (env : Ev) (kvs : List (Str × Str)) (k : Ex) : ev c env (.dsx kvs k) = (ev c env k).bind fun r => dsxD kvs r := by simp only [ev]
@[simp] theorem q_isVar_dsx (kvs : List (Str × Str)) (k : Ex) : isVar (.dsx kvs k) = false := rfl
@[simp] theorem q_dsx (kvs : List (Str × Str)) (s : Str) : dsxD kvs (.fz (.str s)) = (strLook kvs s).map fun v => .fz (.str v) := rfl
@[simp] theorem q_mtI (x y : RV) : mtD .index x [y] = indexD x y := rfl
@[simp] theorem q_mtC (x y : RV) : mtD .count x [y] = countD x y := rfl
@[simp] theorem q_mtJ (x y : RV) : mtD .join x [y] = joinD x y := rfl
@[simp] theorem q_isVar_mkx (C : Str) (e : Ex) : isVar (.mkx C e) = false := rfl
@[simp] theorem q_isVar_gdx (x : Str) (k : Ex) : isVar (.gdx x k) = false := rfl
@[simp] theorem q_isVar_gin (x : Str) (k : Ex) (neg : Bool) : isVar (.gin x k neg) = false := rfl
@[simp] theorem q_isVar_lenD (i : Nat) : isVar (.lenD i) = false := rfl
@[simp] theorem q_isVar_lenI (i : Nat) (k : Ex) : isVar (.lenI i k) = false := rfl
@[simp] theorem q_isVar_jrv (a b : Ex) : isVar (.jrv a b) = false := rfl
@[simp] theorem q_isVar_rvt (a : Ex) : isVar (.rvt a) = false := rfl
@[simp] theorem q_isVar_rvl (a : Ex) : isVar (.rvl a) = false := rfl
@[simp] theorem q_isVar_sls (a : Ex) (lo st : Int) : isVar (.sls a lo st) = false := rfl
@[simp] theorem q_isVar_dsv (k1 k2 : Str) (a b k : Ex) : isVar (.dsv k1 k2 a b k) = false := rfl
@[simp] theorem q_ev_ite (c : Cl) (env : Ev) (t : Ex) (a : Ex) (b : Ex) : ev c env (.ite t a b) = (((ev c env t).bind asBool).bind fun k => if k then (ev c env a).bind fun r => (ownD a r).map .fz else (ev c env b).bind fun r => (ownD b r).map .fz) := by simp only [ev]
@[simp] theorem q_ev_tup (c : Cl) (env : Ev) (es : Exs) : ev c env (.tup es) = ((evs c env es).bind fun ds => if ds.length ≤ LIM then some (.fz (.tuple ds)) else none) := by simp only [ev]
@[simp] theorem q_ev_lst (c : Cl) (env : Ev) (es : Exs) : ev c env (.lst es) = ((evs c env es).bind fun ds => if ds.length ≤ LIM then some (.ol ds) else none) := by simp only [ev]
@[simp] theorem q_ev_call (c : Cl) (env : Ev) (f : Nat) (es : Exs) : ev c env (.call f es) = ((evb c env es).bind fun p => callD (c.call f p.1) p.2 (tpE env es)) := by simp only [ev]
@[simp] theorem q_ev_bi (c : Cl) (env : Ev) (b : Bi) (es : Exs) : ev c env (.bi b es) = ((evr c env es).bind fun rs => biD b rs) := by simp only [ev]
@[simp] theorem q_ev_mt (c : Cl) (env : Ev) (m : Mt) (a : Ex) (es : Exs) : ev c env (.mt m a es) = ((ev c env a).bind fun x => (evr c env es).bind fun rs => mtD m x rs) := by simp only [ev]
@[simp] theorem q_ev_idx (c : Cl) (env : Ev) (a : Ex) (i : Ex) : ev c env (.idx a i) = ((ev c env a).bind fun x => (ev c env i).bind fun y => idxD x y) := by simp only [ev]
@[simp] theorem q_ev_slc (c : Cl) (env : Ev) (a : Ex) (lo : Ex) (hi : Ex) : ev c env (.slc a lo hi) = ((ev c env a).bind fun x => (evo c env lo).bind fun l => (evo c env hi).bind fun h => slcD x l h) := by simp only [ev]
@[simp] theorem q_ev_emp (c : Cl) (env : Ev)  : ev c env (.emp ) = (none) := by simp only [ev]
def cmpB (c : Cl) (env : Ev) (e : Ex) (tg : Tg) (t : Ex) : PyData → Option (Option PyData) := fun x => (bindT tg env x).bind fun env' => (evt c env' t).bind fun k => if k then (ev c env' e).bind fun r => (ownD e r).map some else some none
@[simp] theorem q_ev_comp (c : Cl) (env : Ev) (e : Ex) (tg : Tg) (it : Mn.Itr) (t : Ex) (own : List Nat) : ev c env (.comp e tg it t own) = ((evi c env it).bind fun items => (compL (cmpB c (wipeE env own) e tg t) items).bind fun ds => if items.length ≤ LIM then some (.ol ds) else none) := by simp only [ev]; rfl
theorem q_exS_tryN (c : Cl) (env : Ev) (b : Sms) : exS c (.tryN b) env = (exSs c b env).bind fun o => if o.isX then none else some o := by simp only [exS]
@[simp] theorem q_evs_nil (c : Cl) (env : Ev)  : evs c env (.nil ) = (some []) := by simp only [evs]
@[simp] theorem q_evs_cons (c : Cl) (env : Ev) (e : Ex) (es : Exs) : evs c env (.cons e es) = ((ev c env e).bind fun r => (ownD e r).bind fun d => (evs c env es).bind fun ds => some (d :: ds)) := by simp only [evs]
@[simp] theorem q_evb_nil (c : Cl) (env : Ev)  : evb c env (.nil ) = (some ([], false)) := by simp only [evb]
@[simp] theorem lnd_var (i : Nat) : lndOf (.var i) = none := rfl
@[simp] theorem lnd_int (i : Int) : lndOf (.int i) = none := rfl
@[simp] theorem lnd_bin (o : Bo) (a b : Ex) : lndOf (.bin o a b) = none := rfl
@[simp] theorem lnd_call (f : Nat) (es : Exs) : lndOf (.call f es) = none := rfl
@[simp] theorem lnd_idx (a b : Ex) : lndOf (.idx a b) = none := rfl
@[simp] theorem q_evb_cons (c : Cl) (env : Ev) (e : Ex) (es : Exs) (hl : lndOf e = none := by rfl) : evb c env (.cons e es) = ((ev c env e).bind fun r => (evb c env es).bind fun p => some (r.d :: p.1, (isVar e && r.isOwn) || p.2)) := by
  simp only [evb]
  rw [hl]
@[simp] theorem q_evr_nil (c : Cl) (env : Ev)  : evr c env (.nil ) = (some []) := by simp only [evr]
@[simp] theorem q_evr_cons (c : Cl) (env : Ev) (e : Ex) (es : Exs) : evr c env (.cons e es) = ((ev c env e).bind fun r => (evr c env es).bind fun rs => some (r :: rs)) := by simp only [evr]
@[simp] theorem q_evi_ex (c : Cl) (env : Ev) (e : Ex) : evi c env (.ex e) = ((ev c env e).bind itemsX) := by simp only [evi]
@[simp] theorem q_evi_r1 (c : Cl) (env : Ev) (a : Ex) : evi c env (.r1 a) = (((ev c env a).bind asInt).bind fun n => if -1000000 ≤ n ∧ n ≤ 1000000 then some (rngD 0 n.toNat) else none) := by simp only [evi]
@[simp] theorem q_evi_r2 (c : Cl) (env : Ev) (a : Ex) (b : Ex) : evi c env (.r2 a b) = (((ev c env a).bind asInt).bind fun m => ((ev c env b).bind asInt).bind fun n => if -1000000 ≤ m ∧ m ≤ 1000000 ∧ -1000000 ≤ n ∧ n ≤ 1000000 then some (rngD m (n - m).toNat) else none) := by simp only [evi]
@[simp] theorem q_evi_r3 (c : Cl) (env : Ev) (a : Ex) (b : Ex) (e : Ex) : evi c env (.r3 a b e) = (((ev c env a).bind asInt).bind fun m => ((ev c env b).bind asInt).bind fun n => ((ev c env e).bind asInt).bind fun k => if -1000000 ≤ m ∧ m ≤ 1000000 ∧ -1000000 ≤ n ∧ n ≤ 1000000 ∧ k = -1 then some (rngC m (-1) (m - n).toNat) else if -1000000 ≤ m ∧ m ≤ 1000000 ∧ -1000000 ≤ n ∧ n ≤ 1000000 ∧ k = 2 then some (rngC m 2 ((n - m + 1) / 2).toNat) else none) := by simp only [evi]
@[simp] theorem q_evi_zip (c : Cl) (env : Ev) (a : Ex) (b : Ex) : evi c env (.zip a b) = ((ev c env a).bind fun x => (ev c env b).bind fun y => zipR x y) := by simp only [evi]
@[simp] theorem q_evi_en (c : Cl) (env : Ev) (a : Ex) : evi c env (.en a) = ((ev c env a).bind fun x => (itemsOf x).map fun xs => enD 0 xs) := by simp only [evi]
@[simp] theorem q_evi_rv (c : Cl) (env : Ev) (a : Ex) : evi c env (.rv a) = (((ev c env a).bind RV.seq).map List.reverse) := by simp only [evi]
@[simp] theorem q_flat_fz (d : PyData) : RV.flat (.fz d) = true := rfl
@[simp] theorem q_flat_ol (d : List PyData) : RV.flat (.ol d) = true := rfl
@[simp] theorem q_flat_od (d : List (PyData × PyData)) : RV.flat (.od d) = true := rfl
@[simp] theorem q_exS_asg (c : Cl) (env : Ev) (i : Nat) (e : Ex) : exS c (.asg i e) env = ((ev c env e).bind fun r => if isVar e && r.isOwn then none else some (.nx (env.set i (some r)))) := by simp only [exS]
@[simp] theorem q_exS_unp (c : Cl) (env : Ev) (is : List Nat) (e : Ex) : exS c (.unp is e) env = ((ev c env e).bind fun r => (ownD e r).bind fun d => (bindT (.tp is) env d).map .nx) := by simp only [exS]
@[simp] theorem q_exS_app (c : Cl) (env : Ev) (i : Nat) (e : Ex) : exS c (.app i e) env = ((olAt env i).bind fun ds => (ev c env e).bind fun r => (ownD e r).bind fun d => if ds.length < LIM then some (.nx (env.set i (some (.ol (ds ++ [d]))))) else none) := by simp only [exS]
@[simp] theorem q_exS_ext (c : Cl) (env : Ev) (i : Nat) (e : Ex) : exS c (.ext i e) env = ((olAt env i).bind fun ds => (ev c env e).bind fun r => r.seqT.bind fun es => if ds.length + es.length ≤ LIM then some (.nx (env.set i (some (.ol (ds ++ es))))) else none) := by simp only [exS]
@[simp] theorem q_exS_ins (c : Cl) (env : Ev) (i : Nat) (k e : Ex) : exS c (.ins i k e) env = ((olAt env i).bind fun ds => ((ev c env k).bind asInt).bind fun n => (ev c env e).bind fun r => (ownD e r).bind fun d => if 0 ≤ n ∧ n ≤ LIM ∧ ds.length < LIM then some (.nx (env.set i (some (.ol (ds.take n.toNat ++ [d] ++ ds.drop n.toNat))))) else none) := by simp only [exS]
@[simp] theorem q_exS_pop (c : Cl) (env : Ev) (j : Nat) (i : Nat) (e : Ex) : exS c (.pop j i e) env = (if i = j then none else (olAt env i).bind fun ds => ((ev c env e).bind asInt).bind fun k => if 0 ≤ k then (ds[k.toNat]?).bind fun d => if ds.length ≤ LIM then some (.nx ((env.set i (some (.ol (ds.eraseIdx k.toNat)))).set j (some (.fz d)))) else none else none) := by simp only [exS]
@[simp] theorem q_exS_sti (c : Cl) (env : Ev) (i : Nat) (k : Ex) (e : Ex) : exS c (.sti i k e) env = ((ev c env e).bind fun r => (ownD e r).bind fun d => (olAt env i).bind fun ds => ((ev c env k).bind asInt).bind fun n => (ixN ds.length n).bind fun j => some (.nx (env.set i (some (.ol (ds.set j d)))))) := by simp only [exS]
@[simp] theorem q_exS_clr (c : Cl) (env : Ev) (i : Nat) : exS c (.clr i) env = ((olAt env i).bind fun ds => some (.nx (env.set i (some (.ol []))))) := by simp only [exS]
def ifK (c : Cl) (a b : Sms) (env : Ev) (k : Bool) : Option Out := if k then exSs c a env else exSs c b env
@[simp] theorem q_ifK_t (c : Cl) (a b : Sms) (env : Ev) : ifK c a b env true = exSs c a env := rfl
@[simp] theorem q_ifK_f (c : Cl) (a b : Sms) (env : Ev) : ifK c a b env false = exSs c b env := rfl
@[simp] theorem q_ifK (c : Cl) (a b : Sms) (env : Ev) (p : Prop) [Decidable p] : ifK c a b env (decide p) = if p then exSs c a env else exSs c b env := by unfold ifK; simp
@[simp] theorem q_exS_ifs (c : Cl) (env : Ev) (t : Ex) (a b : Sms) : exS c (.ifs t a b) env = ((ev c env t).bind asBool).bind (ifK c a b env) := by simp only [exS]; rfl
def forB (c : Cl) (tg : Tg) (b : Sms) : Ev → PyData → Option Out := fun env x => (bindT tg env x).bind fun env' => exSs c b env'
def whlT (c : Cl) (t : Ex) : Ev → Option Bool := fun env => (ev c env t).bind asBool
def whlB (c : Cl) (b : Sms) : Ev → Option Out := fun env => exSs c b env
@[simp] theorem q_exS_for_ (c : Cl) (env : Ev) (tg : Tg) (it : Mn.Itr) (b : Sms) : exS c (.for_ tg it b) env = if borI c env it = true then none else (evi c env it).bind fun items => forL (forB c tg b) items env := by simp only [exS]; rfl
@[simp] theorem q_exS_whl (c : Cl) (env : Ev) (t : Ex) (b : Sms) : exS c (.whl t b) env = whlL (whlT c t) (whlB c b) FUEL env := by simp only [exS]; rfl
@[simp] theorem q_exS_ret (c : Cl) (env : Ev) (e : Ex) : exS c (.ret e) env = ((ev c env e).map .rt) := by simp only [exS]
@[simp] theorem q_exS_retN (c : Cl) (env : Ev)  : exS c (.retN ) env = (some (.rt (.fz .none))) := by simp only [exS]
@[simp] theorem q_exS_drp (c : Cl) (env : Ev) (e : Ex) : exS c (.drp e) env = ((ev c env e).map fun _ => .nx env) := by simp only [exS]
@[simp] theorem q_exS_nop (c : Cl) (env : Ev)  : exS c (.nop ) env = (some (.nx env)) := by simp only [exS]
@[simp] theorem q_exS_nev (c : Cl) (env : Ev)  : exS c (.nev ) env = (none) := by simp only [exS]
@[simp] theorem q_exS_cont (c : Cl) (env : Ev)  : exS c (.cont ) env = (some (.ct env)) := by simp only [exS]
@[simp] theorem q_exS_brk (c : Cl) (env : Ev)  : exS c (.brk ) env = (some (.bk env)) := by simp only [exS]
@[simp] theorem q_exSs_nil (c : Cl) (env : Ev)  : exSs c (.nil ) env = (some (.nx env)) := by simp only [exSs]
def thenO (o : Out) (k : Ev → Option Out) : Option Out := match o with
  | .nx e => k e
  | o => some o
@[simp] theorem q_thenO_nx (e : Ev) (k : Ev → Option Out) : thenO (.nx e) k = k e := rfl
@[simp] theorem q_thenO_rt (r : RV) (k : Ev → Option Out) : thenO (.rt r) k = some (.rt r) := rfl
@[simp] theorem q_thenO_bk (e : Ev) (k : Ev → Option Out) : thenO (.bk e) k = some (.bk e) := rfl
@[simp] theorem q_thenO_ct (e : Ev) (k : Ev → Option Out) : thenO (.ct e) k = some (.ct e) := rfl
def seqK (c : Cl) (r : Sms) (o : Out) : Option Out := thenO o fun e => exSs c r e
@[simp] theorem q_seqK_nx (c : Cl) (r : Sms) (e : Ev) : seqK c r (.nx e) = exSs c r e := rfl
@[simp] theorem q_seqK_rt (c : Cl) (r : Sms) (v : RV) : seqK c r (.rt v) = some (.rt v) := rfl
@[simp] theorem q_seqK_bk (c : Cl) (r : Sms) (e : Ev) : seqK c r (.bk e) = some (.bk e) := rfl
@[simp] theorem q_seqK_ct (c : Cl) (r : Sms) (e : Ev) : seqK c r (.ct e) = some (.ct e) := rfl
@[simp] theorem q_exSs_cons (c : Cl) (env : Ev) (s : Sm) (r : Sms) : exSs c (.cons s r) env = (exS c s env).bind (seqK c r) := by
  simp only [exSs]
  rfl
def frzK (c : Cl) (i : Nat) (r : Sms) (env : Ev) (v : RV) : Option Out := if v.frzOk then exSs c r (env.set i (some (.fz v.fzD))) else none
@[simp] theorem q_exSs_frz (c : Cl) (env : Ev) (i : Nat) (r : Sms) : exSs c (.frz i r) env = ((env[i]?).join).bind (frzK c i r env) := by
  simp only [exSs]
  rfl
@[simp] theorem q_exSs_del (c : Cl) (env : Ev) (i : Nat) (r : Sms) : exSs c (.del i r) env = exSs c r (env.set i none) := by
  simp only [exSs]
theorem run_rt {c : Cl} {f : Df} {ds : List PyData} {r : RV} (h : ds.length = f.np) (e : exSs c f.body (ds.map (fun d => some (RV.fz d)) ++ List.replicate (f.n - f.np) none) = some (.rt r)) (hx : r.isX = false := by rfl) (hp : r.pl = true := by rfl) : runD c f ds = some r := by
  unfold runD
  rw [if_pos h, e, Option.bind_some]
  dsimp only
  rw [hx, hp, if_neg (by decide)]
theorem run_nx {c : Cl} {f : Df} {ds : List PyData} {e' : Ev} (h : ds.length = f.np) (e : exSs c f.body (ds.map (fun d => some (RV.fz d)) ++ List.replicate (f.n - f.np) none) = some (.nx e')) : runD c f ds = some (.fz .none) := by
  unfold runD
  rw [if_pos h, e]
  rfl
@[simp] theorem q_isVar_var (i : Nat) : isVar (.var i) = true := rfl
@[simp] theorem q_isVar_int (i : Int) : isVar (.int i) = false := rfl
@[simp] theorem q_isVar_str (x : Str) : isVar (.str x) = false := rfl
@[simp] theorem q_isVar_bl (b : Bool) : isVar (.bl b) = false := rfl
@[simp] theorem q_isVar_non  : isVar (.non ) = false := rfl
@[simp] theorem q_isVar_glb (g : Nat) : isVar (.glb g) = false := rfl
@[simp] theorem q_isVar_bin (o : Bo) (a b : Ex) : isVar (.bin o a b) = false := rfl
@[simp] theorem q_isVar_neg (a : Ex) : isVar (.neg a) = false := rfl
@[simp] theorem q_isVar_not (a : Ex) : isVar (.not a) = false := rfl
@[simp] theorem q_isVar_one (a : Ex) : isVar (.one a) = false := rfl
@[simp] theorem q_isVar_and (a b : Ex) : isVar (.and a b) = false := rfl
@[simp] theorem q_isVar_or (a b : Ex) : isVar (.or a b) = false := rfl
@[simp] theorem q_isVar_cmp (o : Co) (a b : Ex) : isVar (.cmp o a b) = false := rfl
@[simp] theorem q_isVar_chn (o p : Co) (a b d : Ex) : isVar (.chn o p a b d) = false := rfl
@[simp] theorem q_isVar_chn3 (o p q : Co) (a b d e : Ex) : isVar (.chn3 o p q a b d e) = false := rfl
@[simp] theorem q_isVar_ite (t a b : Ex) : isVar (.ite t a b) = false := rfl
@[simp] theorem q_isVar_tup (es : Exs) : isVar (.tup es) = false := rfl
@[simp] theorem q_isVar_lst (es : Exs) : isVar (.lst es) = false := rfl
@[simp] theorem q_isVar_call (f : Nat) (es : Exs) : isVar (.call f es) = false := rfl
@[simp] theorem q_isVar_bi (b : Bi) (es : Exs) : isVar (.bi b es) = false := rfl
@[simp] theorem q_isVar_mt (m : Mt) (a : Ex) (es : Exs) : isVar (.mt m a es) = false := rfl
@[simp] theorem q_isVar_idx (a i : Ex) : isVar (.idx a i) = false := rfl
@[simp] theorem q_isVar_slc (a l h : Ex) : isVar (.slc a l h) = false := rfl
@[simp] theorem q_isVar_emp  : isVar (.emp ) = false := rfl
@[simp] theorem q_isVar_comp (e : Ex) (g : Tg) (i : Itr) (t : Ex) (o : List Nat) : isVar (.comp e g i t o) = false := rfl
@[simp] theorem q_isOwn_fz (d : PyData) : RV.isOwn (.fz d) = false := rfl
@[simp] theorem q_isOwn_ol (d : List PyData) : RV.isOwn (.ol d) = true := rfl
@[simp] theorem q_d_fz (d : PyData) : RV.d (.fz d) = d := rfl
@[simp] theorem q_d_ol (d : List PyData) : RV.d (.ol d) = .list d := rfl
@[simp] theorem q_asInt (i : Int) : asInt (.fz (.int i)) = some i := rfl
@[simp] theorem q_asBool (i : Bool) : asBool (.fz (.bool i)) = some i := rfl
@[simp] theorem q_seq_fl (d : List PyData) : RV.seq (.fz (.list d)) = some d := rfl
@[simp] theorem q_seq_ft (d : List PyData) : RV.seq (.fz (.tuple d)) = some d := rfl
@[simp] theorem q_seq_ol (d : List PyData) : RV.seq (.ol d) = some d := rfl
@[simp] theorem q_lst_fl (d : List PyData) : RV.lst (.fz (.list d)) = some d := rfl
@[simp] theorem q_lst_ol (d : List PyData) : RV.lst (.ol d) = some d := rfl
@[simp] theorem q_items_s (z : Str) : itemsOf (.fz (.str z)) = some (z.cps.toList.map fun c => .str ⟨#[c]⟩) := rfl
theorem eqDict_shp {d : PyData} (e : PyData) (h : SeqAt.shaped d = true) : eqDict d e = none := by
  unfold eqDict
  split
  · rw [SeqAt.shaped, PyData.canLay0] at h
    cases h
  · rfl
theorem cmp_eq_shp {d : PyData} (e : PyData) (h : SeqAt.shaped d = true) : cmpD .eq d e = if SeqAt.shaped d && SeqAt.shaped e then some (PyData.eqv d e) else none := by
  show (match eqDict d e with | some b => some b | none => _) = _
  rw [eqDict_shp e h]
theorem cmp_ne_shp {d : PyData} (e : PyData) (h : SeqAt.shaped d = true) : cmpD .ne d e = if SeqAt.shaped d && SeqAt.shaped e then some (!PyData.eqv d e) else none := by
  show (match eqDict d e with | some b => some (!b) | none => _) = _
  rw [eqDict_shp e h]
theorem seq_rows {r : RV} {ds : List PyData} (h : r.seq = some ds) : r.rows = none := by
  unfold RV.seq at h
  split at h <;> first | rfl | cases h
theorem items_x {r : RV} {ds : List PyData} (h : itemsOf r = some ds) : itemsX r = some ds := by
  unfold itemsX
  have : r.rows = none := by
    unfold itemsOf at h
    split at h
    · rfl
    · exact seq_rows h
  rw [this]
  exact h
@[simp] theorem q_items_sx (z : Str) : itemsX (.fz (.str z)) = some (z.cps.toList.map fun c => .str ⟨#[c]⟩) := rfl
@[simp] theorem q_items_fl (d : List PyData) : itemsOf (.fz (.list d)) = some d := rfl
@[simp] theorem q_items_flx (d : List PyData) : itemsX (.fz (.list d)) = some d := rfl
@[simp] theorem q_items_ft (d : List PyData) : itemsOf (.fz (.tuple d)) = some d := rfl
@[simp] theorem q_items_ftx (d : List PyData) : itemsX (.fz (.tuple d)) = some d := rfl
@[simp] theorem q_items_ol (d : List PyData) : itemsOf (.ol d) = some d := rfl
@[simp] theorem q_items_olx (d : List PyData) : itemsX (.ol d) = some d := rfl
@[simp] theorem q_bindT_nm (i : Nat) (env : Ev) (d : PyData) : bindT (.nm i) env d = some (env.set i (some (.fz d))) := rfl
@[simp] theorem q_bindT_tpL (is : List Nat) (env : Ev) (ds : List PyData) : bindT (.tp is) env (.list ds) = if ds.length = is.length then some (setAll env is ds) else none := rfl
@[simp] theorem q_bindT_tp (is : List Nat) (env : Ev) (ds : List PyData) : bindT (.tp is) env (.tuple ds) = if ds.length = is.length then some (setAll env is ds) else none := rfl
@[simp] theorem q_setAll_nil (env : Ev) (ds : List PyData) : setAll env [] ds = env := by cases ds <;> rfl
@[simp] theorem q_setAll_cons (env : Ev) (i : Nat) (is : List Nat) (d : PyData) (ds : List PyData) : setAll env (i :: is) (d :: ds) = setAll (env.set i (some (.fz d))) is ds := rfl
@[simp] theorem q_wipe_nil (env : Ev) : wipeE env [] = env := rfl
@[simp] theorem q_wipe_cons (env : Ev) (i : Nat) (is : List Nat) : wipeE env (i :: is) = (wipeE env is).set i none := rfl
@[simp] theorem q_bor_ex (c : Cl) (env : Ev) (e : Ex) : borI c env (.ex e) = (isVar e && ((ev c env e).map RV.isOwn).getD true) := rfl
@[simp] theorem q_bor_r1 (c : Cl) (env : Ev) (a : Ex) : borI c env (.r1 a) = false := rfl
@[simp] theorem q_bor_r2 (c : Cl) (env : Ev) (a b : Ex) : borI c env (.r2 a b) = false := rfl
@[simp] theorem q_bor_r3 (c : Cl) (env : Ev) (a b d : Ex) : borI c env (.r3 a b d) = false := rfl
@[simp] theorem q_bor_zip (c : Cl) (env : Ev) (a b : Ex) : borI c env (.zip a b) = ((isVar a && ((ev c env a).map RV.isOwn).getD true) || (isVar b && ((ev c env b).map RV.isOwn).getD true)) := rfl
@[simp] theorem q_bor_en (c : Cl) (env : Ev) (a : Ex) : borI c env (.en a) = (isVar a && ((ev c env a).map RV.isOwn).getD true) := rfl
@[simp] theorem q_bor_rv (c : Cl) (env : Ev) (a : Ex) : borI c env (.rv a) = (isVar a && ((ev c env a).map RV.isOwn).getD true) := rfl
@[simp] theorem q_evo_emp (c : Cl) (env : Ev) : evo c env .emp = some none := by simp only [evo]
@[simp] theorem q_evo_one (c : Cl) (env : Ev) (a : Ex) : evo c env (.one a) = ((ev c env a).bind asInt).map some := by simp only [evo]
@[simp] theorem q_evt_emp (c : Cl) (env : Ev) : evt c env .emp = some true := by simp only [evt]
@[simp] theorem q_evt_one (c : Cl) (env : Ev) (a : Ex) : evt c env (.one a) = (ev c env a).bind asBool := by simp only [evt]
theorem olAt_of {env : Ev} {i : Nat} {ds : List PyData} (h : (env[i]?).join = some (.ol ds)) : olAt env i = some ds := by unfold olAt; rw [h]; rfl
def asOl : RV → Option (List PyData)
  | .ol ds => some ds
  | _ => none
@[simp] theorem q_asOl (ds : List PyData) : asOl (.ol ds) = some ds := rfl
@[simp] theorem q_olAt (env : Ev) (i : Nat) : olAt env i = ((env[i]?).join).bind asOl := by
  unfold olAt
  congr 1
@[simp] theorem q_sc_bool (b : Bool) : scalD (.bool b) = true := rfl
@[simp] theorem q_sc_int (b : Int) : scalD (.int b) = true := rfl
@[simp] theorem q_sc_str (b : Str) : scalD (.str b) = true := rfl
@[simp] theorem q_sc_none : scalD .none = true := rfl
@[simp] theorem q_isI (t : Ty) (r : RV) (h : notScr r.d = true) : biD (.isI t) [r] = some (.fz (.bool (isD t r.d))) := if_pos h
@[simp] theorem q_tab (ss : List (List PyData → Option RV)) (gs : List PyData) (ds : List PyData) (j : Nat) : (tabC ss gs).call j ds = (ss[j]?).bind fun s => s ds := rfl
@[simp] theorem q_glb (ss : List (List PyData → Option RV)) (gs : List PyData) (j : Nat) : (tabC ss gs).glb j = gs[j]? := rfl
@[simp] theorem own_fz (e : Ex) (d : PyData) : ownD e (.fz d) = some d := by simp [ownD]
@[simp] theorem own_ol (e : Ex) (d : List PyData) (h : isVar e = false) : ownD e (.ol d) = some (.list d) := by simp [ownD, h]
@[simp] theorem z_add_int (i j : Int) : binD .add (.fz (.int i)) (.fz (.int j)) = some (.fz (.int (i + j))) := rfl
@[simp] theorem z_sub_int (i j : Int) : binD .sub (.fz (.int i)) (.fz (.int j)) = some (.fz (.int (i - j))) := rfl
@[simp] theorem z_fdiv_9 (i : Int) : binD .fdiv (.fz (.int i)) (.fz (.int 1000000000)) = some (.fz (.int (i / 1000000000))) := rfl
@[simp] theorem z_pow_9 : binD .pow (.fz (.int 10)) (.fz (.int 9)) = some (.fz (.int 1000000000)) := rfl
@[simp] theorem z_pow_30 : binD .pow (.fz (.int 10)) (.fz (.int 30)) = some (.fz (.int 1000000000000000000000000000000)) := rfl
@[simp] theorem z_eq_int (i j : Int) : cmpD .eq (.int i) (.int j) = some (decide (i = j)) := by
  show some (PyData.eqv (.int i) (.int j)) = _
  rw [PyData.eqv]
  by_cases h : i = j <;> simp [h]
@[simp] theorem z_ne_int (i j : Int) : cmpD .ne (.int i) (.int j) = some (!decide (i = j)) := by
  show some (!PyData.eqv (.int i) (.int j)) = _
  rw [PyData.eqv]
  by_cases h : i = j <;> simp [h]
@[simp] theorem z_lt_int (i j : Int) : cmpD .lt (.int i) (.int j) = some (decide (i < j)) := rfl
@[simp] theorem z_le_int (i j : Int) : cmpD .le (.int i) (.int j) = some (decide (i ≤ j)) := rfl
@[simp] theorem z_gt_int (i j : Int) : cmpD .gt (.int i) (.int j) = some (decide (j < i)) := rfl
@[simp] theorem z_ge_int (i j : Int) : cmpD .ge (.int i) (.int j) = some (decide (j ≤ i)) := rfl
@[simp] theorem len_fl (ds : List PyData) : biD .len [.fz (.list ds)] = some (.fz (.int ds.length)) := rfl
@[simp] theorem len_ft (ds : List PyData) : biD .len [.fz (.tuple ds)] = some (.fz (.int ds.length)) := rfl
@[simp] theorem len_ol (ds : List PyData) : biD .len [.ol ds] = some (.fz (.int ds.length)) := rfl
@[simp] theorem z_min_2 (i j : Int) : biD .min2 [.fz (.int i), .fz (.int j)] = some (.fz (.int (min i j))) := by
  show some _ = some _
  have : (if j < i then j else i) = min i j := by omega
  rw [this]
@[simp] theorem z_max_2 (i j : Int) : biD .max2 [.fz (.int i), .fz (.int j)] = some (.fz (.int (max i j))) := by
  show some _ = some _
  have : (if j > i then j else i) = max i j := by omega
  rw [this]
@[simp] theorem ix_fl (ds : List PyData) (i : Int) : idxD (.fz (.list ds)) (.fz (.int i)) = (atI ds i).map .fz := rfl
@[simp] theorem ix_ft (ds : List PyData) (i : Int) : idxD (.fz (.tuple ds)) (.fz (.int i)) = (atI ds i).map .fz := rfl
@[simp] theorem ix_ol (ds : List PyData) (i : Int) : idxD (.ol ds) (.fz (.int i)) = (atI ds i).map .fz := rfl
@[simp] theorem call_false (r : Option RV) (t : Bool) : callD r false t = r := by cases r <;> rfl
@[simp] theorem call_true (d : PyData) : callD (some (.fz d)) true false = if flatD d = true then some (.fz d) else none := by
  show (if (flatD d && true) = true then some (RV.fz d) else none) = _
  rw [Bool.and_true]
@[simp] theorem call_none (b t : Bool) : callD none b t = none := rfl
theorem scr_seq (ns : List Int) : RV.seq (.fz (scrD ns)) = some (ns.map PyData.int) := rfl
@[simp] theorem scr_len (ns : List Int) : biD .len [.fz (scrD ns)] = some (.fz (.int ns.length)) := by show some _ = some _; simp
@[simp] theorem scr_ix (ns : List Int) (i : Int) : idxD (.fz (scrD ns)) (.fz (.int i)) = (atI (ns.map PyData.int) i).map .fz := rfl
theorem z_small_of {i : Int} (h1 : -1000000000000000 ≤ i) (h2 : i ≤ 1000000000000000) : smallI i = true := by
  unfold smallI
  simp only [Bool.and_eq_true, decide_eq_true_eq]
  omega
end Mn
namespace Mn
open PySem
def wS (l : List Bool) : Str := ⟨(l.map fun b => if b then 108 else 114).toArray⟩
end Mn
namespace Mn
open PySem
@[simp] theorem q_slcT (ds : List PyData) (lo hi : Option Int) : slcD (.fz (.tuple ds)) lo hi = some (.fz (.tuple (cutD ds lo hi))) := rfl
@[simp] theorem q_slcL (ds : List PyData) (lo hi : Option Int) : slcD (.fz (.list ds)) lo hi = some (.ol (cutD ds lo hi)) := rfl
@[simp] theorem q_slcO (ds : List PyData) (lo hi : Option Int) : slcD (.ol ds) lo hi = some (.ol (cutD ds lo hi)) := rfl
@[simp] theorem q_tupT (ds : List PyData) : biD .tup [.fz (.tuple ds)] = some (.fz (.tuple ds)) := rfl
@[simp] theorem q_tupL (ds : List PyData) : biD .tup [.fz (.list ds)] = some (.fz (.tuple ds)) := rfl
@[simp] theorem q_tupO (ds : List PyData) : biD .tup [.ol ds] = some (.fz (.tuple ds)) := rfl
@[simp] theorem q_lisT (ds : List PyData) : biD .list [.fz (.tuple ds)] = some (.ol ds) := rfl
@[simp] theorem q_lisL (ds : List PyData) : biD .list [.fz (.list ds)] = some (.ol ds) := rfl
@[simp] theorem q_lisO (ds : List PyData) : biD .list [.ol ds] = some (.ol ds) := rfl
theorem ints_map (ns : List Int) : intsOf (ns.map PyData.int) = some ns := by
  induction ns with
  | nil => rfl
  | cons n r ih => rw [List.map_cons, intsOf, ih]; rfl
theorem bools_map (ns : List Bool) : boolsOf (ns.map PyData.bool) = some ns := by
  induction ns with
  | nil => rfl
  | cons n r ih => rw [List.map_cons, boolsOf, ih]; rfl
theorem strs_map (ns : List Str) : strsOf (ns.map PyData.str) = some ns := by
  induction ns with
  | nil => rfl
  | cons n r ih => rw [List.map_cons, strsOf, ih]; rfl
@[simp] theorem z_sumO (ns : List Int) : biD .sum [.ol (ns.map PyData.int)] = some (.fz (.int ns.sum)) := by
  show ((some (ns.map PyData.int)).bind intsOf).map _ = _
  rw [Option.bind_some, ints_map]
  rfl
@[simp] theorem z_allO (ns : List Bool) : biD .all [.ol (ns.map PyData.bool)] = some (.fz (.bool (ns.all id))) := by
  show ((some (ns.map PyData.bool)).bind boolsOf).map _ = _
  rw [Option.bind_some, bools_map]
  rfl
@[simp] theorem z_anyO (ns : List Bool) : biD .any [.ol (ns.map PyData.bool)] = some (.fz (.bool (ns.any id))) := by
  have : (match (some (ns.map PyData.bool)).bind boolsOf with
    | some ns => some (RV.fz (.bool (ns.any id)))
    | none => ((some (ns.map PyData.bool)).bind intsOf).map fun ns => RV.fz (.bool (ns.any fun i => i != 0))) = some (.fz (.bool (ns.any id))) := by
    rw [Option.bind_some, bools_map]
  exact this
theorem can_map {α : Type} (f : α → PyData) (h : ∀ a, (f a).canLay0 = true) : ∀ xs : List α, PyData.canLayAll0 (xs.map f) = true
  | [] => rfl
  | x :: r => by
    rw [List.map_cons]
    show ((f x).canLay0 && PyData.canLayAll0 (r.map f)) = true
    rw [h x, can_map f h r]
    rfl
theorem dep_map {α : Type} (f : α → PyData) (n : Nat) (h : ∀ a, (f a).depth ≤ n) : ∀ xs : List α, PyData.depthAll (xs.map f) ≤ n
  | [] => Nat.zero_le _
  | x :: r => by
    rw [List.map_cons]
    show max (f x).depth (PyData.depthAll (r.map f)) ≤ n
    exact Nat.max_le.mpr ⟨h x, dep_map f n h r⟩
theorem shp_of {d : PyData} (h : d.canLay0 = true) (h2 : d.depth ≤ 64) : SeqAt.shaped d = true := by
  unfold SeqAt.shaped
  rw [h, decide_eq_true h2]
  rfl
@[simp] theorem wS_chars (l : List Bool) : (wS l).cps.toList.map (fun c => PyData.str ⟨#[c]⟩) = l.map fun b => PyData.str (wS [b]) := by
  unfold wS
  rw [List.map_map]
  rfl
end Mn
namespace Mn
open PySem PySem.Spec PyProof.Rows
open L2 (atI ixN cutS)
abbrev encL {α : Type} (e : α → PyData) : List α → PyData := fun xs => .list (xs.map e)
abbrev encU {α : Type} (e : α → PyData) : List α → PyData := fun xs => .tuple (xs.map e)
abbrev encN : Unit → PyData := fun _ => .none
abbrev encP1 {α : Type} (e : α → PyData) : α → PyData := fun x => .tuple [e x]
abbrev encP2 {α β : Type} (e : α → PyData) (f : β → PyData) : α × β → PyData := fun x => .tuple [e x.1, f x.2]
abbrev encP3 {α β γ : Type} (e : α → PyData) (f : β → PyData) (g : γ → PyData) : α × β × γ → PyData := fun x => .tuple [e x.1, f x.2.1, g x.2.2]
abbrev encP4 {α β γ δ : Type} (e : α → PyData) (f : β → PyData) (g : γ → PyData) (h : δ → PyData) : α × β × γ × δ → PyData := fun x => .tuple [e x.1, f x.2.1, g x.2.2.1, h x.2.2.2]
abbrev encP5 {α β γ δ ε : Type} (e : α → PyData) (f : β → PyData) (g : γ → PyData) (h : δ → PyData) (k : ε → PyData) : α × β × γ × δ × ε → PyData := fun x => .tuple [e x.1, f x.2.1, g x.2.2.1, h x.2.2.2.1, k x.2.2.2.2]
abbrev encP0 : Unit → PyData := fun _ => .tuple []
def encO {α : Type} (e : α → PyData) : Option α → PyData
  | none => .none
  | some x => e x
abbrev fz {α : Type} (e : α → PyData) : α → RV := fun x => .fz (e x)
abbrev ol {α : Type} (e : α → PyData) : List α → RV := fun xs => .ol (xs.map e)
def mulG (x y : Int) : Option Int := if smallI x || smallI y then some (x * y) else none
def modG (x y : Int) : Option Int := if 0 < y then some (x % y) else none
def fdivG (x y : Int) : Option Int := if 0 < y ∧ y < 1073741824 then some (x / y) else none
def powG (x y : Int) : Option Int := if 0 ≤ y ∧ y ≤ 1000000 ∧ x.natAbs < 18446744073709551616 then some (x ^ y.toNat) else none
def appG {α : Type} (xs : List α) (x : α) : Option (List α) := if xs.length < LIM then some (xs ++ [x]) else none
def mapO {α β : Type} (f : α → Option β) : List α → Option (List β)
  | [] => some []
  | x :: xs => (f x).bind fun y => (mapO f xs).bind fun ys => some (y :: ys)
def mapG {α β : Type} (xs : List α) (f : α → Option β) : Option (List β) := if xs.length ≤ LIM then mapO f xs else none
inductive Lp (σ ρ : Type) where
  | nx (s : σ)
  | bk (s : σ)
  | rt (r : ρ)
def foldO {σ α : Type} (f : α → σ → Option σ) : List α → σ → Option σ
  | [], s => some s
  | x :: xs, s => (f x s).bind (foldO f xs)
def loopO {σ ρ α : Type} (f : α → σ → Option (Lp σ ρ)) : List α → σ → Option (Lp σ ρ)
  | [], s => some (.nx s)
  | x :: xs, s => (f x s).bind fun o => match o with
    | .nx s => loopO f xs s
    | .bk s => some (.nx s)
    | .rt r => some (.rt r)
def lpK {σ ρ R : Type} (k : σ → Option R) (m : ρ → Option R) : Lp σ ρ → Option R
  | .nx s => k s
  | .bk s => k s
  | .rt v => m v
def rng1 (b : Int) : Option (List Int) := if -1000000 ≤ b ∧ b ≤ 1000000 then some ((List.range b.toNat).map fun i : Nat => (i : Int)) else none
def enI {α : Type} : Nat → List α → List (Int × α)
  | _, [] => []
  | i, x :: r => ((i : Nat), x) :: enI (i + 1) r
def Sim {α β : Type} (x : Option α) (M : Option β) (φ : β → α) : Prop := ∀ v, M = some v → x = some (φ v)
def SimS {R : Type} (x : Option Out) (M : Option R) (P : R → Out → Prop) : Prop := ∀ v, M = some v → ∃ o, x = some o ∧ P v o
abbrev PRt {ρ : Type} (φ : ρ → RV) : ρ → Out → Prop := fun r o => o = .rt (φ r)
abbrev PNx {σ : Type} (E : σ → Ev) : σ → Out → Prop := fun s o => o = .nx (E s)
abbrev PLn {σ : Type} (E : σ → Ev) : σ → Out → Prop := fun s o => o = .nx (E s) ∨ o = .ct (E s)
abbrev PLp {σ ρ : Type} (E : σ → Ev) (φ : ρ → RV) : Lp σ ρ → Out → Prop := fun v o => match v with
  | .nx s => o = .nx (E s) ∨ o = .ct (E s)
  | .bk s => o = .bk (E s)
  | .rt r => o = .rt (φ r)
variable {α β γ δ σ ρ R : Type}
theorem sim_p {x : Option α} {v : β} {φ : β → α} (h : x = some (φ v)) : Sim x (some v) φ := fun w e => by cases e; exact h
theorem sim_b {x : Option α} {y : Option γ} {M : Option β} {K : β → Option δ} {φ : β → α} {ψ : δ → γ} (h : Sim x M φ) (k : ∀ v, x = some (φ v) → Sim y (K v) ψ) : Sim y (M.bind K) ψ := fun w e => by
  cases q : M with
  | none => rw [q] at e; cases e
  | some v => rw [q] at e; exact k v (h v q) w e
theorem sms_b {x : Option α} {y : Option Out} {M : Option β} {K : β → Option R} {φ : β → α} {P : R → Out → Prop} (h : Sim x M φ) (k : ∀ v, x = some (φ v) → SimS y (K v) P) : SimS y (M.bind K) P := fun w e => by
  cases q : M with
  | none => rw [q] at e; cases e
  | some v => rw [q] at e; exact k v (h v q) w e
theorem bind_of {M : Option β} {K : β → Option δ} {w : δ} (e : M.bind K = some w) : ∃ v, M = some v ∧ K v = some w := by
  cases M with
  | none => cases e
  | some v => exact ⟨v, rfl, e⟩
section
variable {c : Cl} {env : Ev}
theorem e_var {i : Nat} {r : RV} (h : (env[i]?).join = some r) (hp : r.pl = true := by rfl) : ev c env (.var i) = some r := by rw [q_ev_var, h]; exact if_pos hp
theorem e_int (i : Int) : ev c env (.int i) = some (.fz (.int i)) := q_ev_int _ _ _
theorem e_str (i : Str) : ev c env (.str i) = some (.fz (.str i)) := q_ev_str _ _ _
theorem e_bl (i : Bool) : ev c env (.bl i) = some (.fz (.bool i)) := q_ev_bl _ _ _
theorem e_glb {g : Nat} {d : PyData} (h : c.glb g = some d) : ev c env (.glb g) = some (.fz d) := by rw [q_ev_glb, h]; rfl
theorem e_add {a b : Ex} {x y : Int} (ha : ev c env a = some (.fz (.int x))) (hb : ev c env b = some (.fz (.int y))) : ev c env (.bin .add a b) = some (.fz (.int (x + y))) := by rw [q_ev_bin, ha, hb]; rfl
theorem e_sub {a b : Ex} {x y : Int} (ha : ev c env a = some (.fz (.int x))) (hb : ev c env b = some (.fz (.int y))) : ev c env (.bin .sub a b) = some (.fz (.int (x - y))) := by rw [q_ev_bin, ha, hb]; rfl
theorem m_mul {a b : Ex} {x y : Int} (ha : ev c env a = some (.fz (.int x))) (hb : ev c env b = some (.fz (.int y))) : Sim (ev c env (.bin .mul a b)) (mulG x y) (fz PyData.int) := fun v e => by
  unfold mulG at e
  split at e
  · cases e
    rw [q_ev_bin, ha, hb]
    exact if_pos (by assumption)
  · cases e
theorem m_mod {a b : Ex} {x y : Int} (ha : ev c env a = some (.fz (.int x))) (hb : ev c env b = some (.fz (.int y))) : Sim (ev c env (.bin .mod a b)) (modG x y) (fz PyData.int) := fun v e => by
  unfold modG at e
  split at e
  · cases e
    rw [q_ev_bin, ha, hb]
    exact if_pos (by assumption)
  · cases e
theorem m_fdiv {a b : Ex} {x y : Int} (ha : ev c env a = some (.fz (.int x))) (hb : ev c env b = some (.fz (.int y))) : Sim (ev c env (.bin .fdiv a b)) (fdivG x y) (fz PyData.int) := fun v e => by
  unfold fdivG at e
  split at e
  · cases e
    rw [q_ev_bin, ha, hb]
    exact if_pos (by assumption)
  · cases e
theorem m_pow {a b : Ex} {x y : Int} (ha : ev c env a = some (.fz (.int x))) (hb : ev c env b = some (.fz (.int y))) : Sim (ev c env (.bin .pow a b)) (powG x y) (fz PyData.int) := fun v e => by
  unfold powG at e
  split at e
  · cases e
    rw [q_ev_bin, ha, hb]
    exact if_pos (by assumption)
  · cases e
theorem e_not {a : Ex} {x : Bool} (ha : ev c env a = some (.fz (.bool x))) : ev c env (.not a) = some (.fz (.bool (!x))) := by rw [q_ev_not, ha]; rfl
theorem e_one {a : Ex} {d : PyData} (ha : ev c env a = some (.fz d)) : ev c env (.one a) = some (.fz d) := by rw [q_ev_one, ha]; simp
theorem e_and {a b : Ex} {x y : Bool} (ha : ev c env a = some (.fz (.bool x))) (hb : ev c env b = some (.fz (.bool y))) : ev c env (.and a b) = some (.fz (.bool (x && y))) := by
  rw [q_ev_and, ha, hb]
  cases x <;> simp
theorem e_or {a b : Ex} {x y : Bool} (ha : ev c env a = some (.fz (.bool x))) (hb : ev c env b = some (.fz (.bool y))) : ev c env (.or a b) = some (.fz (.bool (x || y))) := by
  rw [q_ev_or, ha, hb]
  cases x <;> simp
theorem m_and {a b : Ex} {x : Bool} {M : Option Bool} (ha : ev c env a = some (.fz (.bool x))) (hb : Sim (ev c env b) M (fz PyData.bool)) : Sim (ev c env (.and a b)) (if x = true then M else some false) (fz PyData.bool) := fun v h => by
  rw [q_ev_and, ha]
  cases x with
  | true => simp only [if_true] at h; simp [hb v h]
  | false => cases h; rfl
theorem m_or {a b : Ex} {x : Bool} {M : Option Bool} (ha : ev c env a = some (.fz (.bool x))) (hb : Sim (ev c env b) M (fz PyData.bool)) : Sim (ev c env (.or a b)) (if x = true then some true else M) (fz PyData.bool) := fun v h => by
  rw [q_ev_or, ha]
  cases x with
  | false => simp only [Bool.false_eq_true, if_false] at h; simp [hb v h]
  | true => cases h; rfl
theorem e_lt {a b : Ex} {x y : Int} (ha : ev c env a = some (.fz (.int x))) (hb : ev c env b = some (.fz (.int y))) : ev c env (.cmp .lt a b) = some (.fz (.bool (decide (x < y)))) := by rw [q_ev_cmp, ha, hb]; rfl
theorem e_gt {a b : Ex} {x y : Int} (ha : ev c env a = some (.fz (.int x))) (hb : ev c env b = some (.fz (.int y))) : ev c env (.cmp .gt a b) = some (.fz (.bool (decide (y < x)))) := by rw [q_ev_cmp, ha, hb]; rfl
theorem e_eqI {a b : Ex} {x y : Int} (ha : ev c env a = some (.fz (.int x))) (hb : ev c env b = some (.fz (.int y))) : ev c env (.cmp .eq a b) = some (.fz (.bool (decide (x = y)))) := by rw [q_ev_cmp, ha, hb]; simp
theorem e_neI {a b : Ex} {x y : Int} (ha : ev c env a = some (.fz (.int x))) (hb : ev c env b = some (.fz (.int y))) : ev c env (.cmp .ne a b) = some (.fz (.bool (!decide (x = y)))) := by rw [q_ev_cmp, ha, hb]; simp
def coI : Co → Int → Int → Bool
  | .eq, x, y => decide (x = y)
  | .ne, x, y => !decide (x = y)
  | .lt, x, y => decide (x < y)
  | .le, x, y => decide (x ≤ y)
  | .gt, x, y => decide (y < x)
  | .ge, x, y => decide (y ≤ x)
  | _, _, _ => false
def coOk : Co → Bool
  | .eq => true
  | .ne => true
  | .lt => true
  | .le => true
  | .gt => true
  | .ge => true
  | _ => false
theorem coI_ok {o : Co} (h : coOk o = true) (x y : Int) : cmpD o (.int x) (.int y) = some (coI o x y) := by
  cases o <;> first | (cases h; done) | simp [coI]
theorem e_chn {o o' : Co} {a b d : Ex} {x y z : Int} (h : coOk o = true) (h' : coOk o' = true) (ha : ev c env a = some (.fz (.int x))) (hb : ev c env b = some (.fz (.int y))) (hd : ev c env d = some (.fz (.int z))) : ev c env (.chn o o' a b d) = some (.fz (.bool (coI o x y && coI o' y z))) := by
  rw [q_ev_chn, ha, hb, hd]
  show (cmpD o (.int x) (.int y)).bind _ = _
  rw [coI_ok h]
  cases coI o x y
  · rfl
  · show (cmpD o' (.int y) (.int z)).map _ = _
    rw [coI_ok h']
    rfl
structure Good (e : α → PyData) (n : Nat) : Prop where
  can : ∀ x, (e x).canLay0 = true
  dep : ∀ x, (e x).depth ≤ n
  inj : ∀ x y, PyData.eqv (e x) (e y) = true ↔ x = y
theorem good_I : Good PyData.int 0 := ⟨fun _ => rfl, fun _ => Nat.le_refl _, fun x y => by rw [PyData.eqv]; simp⟩
theorem good_B : Good PyData.bool 0 := ⟨fun _ => rfl, fun _ => Nat.le_refl _, fun x y => by rw [PyData.eqv]; simp⟩
theorem eqvAll_map {e : α → PyData} (h : ∀ x y, PyData.eqv (e x) (e y) = true ↔ x = y) : ∀ xs ys : List α, PyData.eqvAll (xs.map e) (ys.map e) = true ↔ xs = ys
  | [], [] => by simp [PyData.eqvAll]
  | [], _ :: _ => by simp [PyData.eqvAll]
  | _ :: _, [] => by simp [PyData.eqvAll]
  | x :: xs, y :: ys => by simp [PyData.eqvAll, h, eqvAll_map h xs ys]
theorem good_L {e : α → PyData} {n : Nat} (g : Good e n) : Good (encL e) (n + 1) :=
  ⟨fun x => by show PyData.canLay0 (.list _) = true; rw [PyData.canLay0]; exact can_map e g.can x,
   fun x => by show PyData.depth (.list _) ≤ _; rw [PyData.depth]; exact Nat.succ_le_succ (dep_map e n g.dep x),
   fun x y => by show PyData.eqv (.list _) (.list _) = true ↔ _; rw [PyData.eqv]; exact eqvAll_map g.inj x y⟩
theorem good_U {e : α → PyData} {n : Nat} (g : Good e n) : Good (encU e) (n + 1) :=
  ⟨fun x => by show PyData.canLay0 (.tuple _) = true; rw [PyData.canLay0]; exact can_map e g.can x,
   fun x => by show PyData.depth (.tuple _) ≤ _; rw [PyData.depth]; exact Nat.succ_le_succ (dep_map e n g.dep x),
   fun x y => by show PyData.eqv (.tuple _) (.tuple _) = true ↔ _; rw [PyData.eqv]; exact eqvAll_map g.inj x y⟩
theorem good_P2 {e : α → PyData} {f : β → PyData} {n m : Nat} (g : Good e n) (h : Good f m) : Good (encP2 e f) (max n m + 1) :=
  ⟨fun x => by simp [PyData.canLay0, PyData.canLayAll0, g.can, h.can], fun x => by have := g.dep x.1; have := h.dep x.2; simp only [PyData.depth, PyData.depthAll]; omega, fun x y => by simp [PyData.eqv, PyData.eqvAll, g.inj, h.inj, Prod.ext_iff]⟩
theorem Good.shp {e : α → PyData} {n : Nat} (g : Good e n) (h : n ≤ 64) (x : α) : SeqAt.shaped (e x) = true := shp_of (g.can x) (Nat.le_trans (g.dep x) h)
theorem Good.dec [DecidableEq α] {e : α → PyData} {n : Nat} (g : Good e n) (x y : α) : PyData.eqv (e x) (e y) = decide (x = y) := by
  by_cases h : x = y
  · rw [decide_eq_true h]; exact (g.inj x y).mpr h
  · rw [decide_eq_false h]
    cases q : PyData.eqv (e x) (e y)
    · rfl
    · exact absurd ((g.inj x y).mp q) h
theorem e_eqv {e : α → PyData} [DecidableEq α] {n : Nat} {a b : Ex} {x y : α} {r s : RV} (g : Good e n) (hn : n ≤ 64) (ha : ev c env a = some r) (hb : ev c env b = some s) (hr : r.d = e x) (hs : s.d = e y) : ev c env (.cmp .eq a b) = some (.fz (.bool (decide (x = y)))) := by
  rw [q_ev_cmp, ha, hb]
  show (cmpD .eq r.d s.d).map _ = _
  rw [hr, hs]
  rw [cmp_eq_shp _ (g.shp hn x), g.shp hn, g.shp hn, g.dec]
  rfl
theorem flat_I : ∀ v : Int, flatD (.int v) = true := fun _ => rfl
theorem flat_S : ∀ v : Str, flatD (.str v) = true := fun _ => rfl
theorem flatAll_map {e : α → PyData} (h : ∀ v, flatD (e v) = true) : ∀ xs : List α, flatAll (xs.map e) = true
  | [] => rfl
  | x :: r => by show (flatD (e x) && flatAll (r.map e)) = true; rw [h, flatAll_map h r]; rfl
theorem flat_U {e : α → PyData} (h : ∀ v, flatD (e v) = true) : ∀ v, flatD (encU e v) = true := fun v => by
  show flatD (.tuple (v.map e)) = true
  rw [flatD]; exact flatAll_map h v
theorem flat_P2 {α β : Type} {e : α → PyData} {f : β → PyData} (h : ∀ v, flatD (e v) = true) (g : ∀ v, flatD (f v) = true) : ∀ v, flatD (encP2 e f v) = true := fun v => by
  show flatD (.tuple [_, _]) = true
  simp [flatD, flatAll, h, g]
theorem flat_P3 {α β γ : Type} {e : α → PyData} {f : β → PyData} {k : γ → PyData} (h : ∀ v, flatD (e v) = true) (g : ∀ v, flatD (f v) = true) (i : ∀ v, flatD (k v) = true) : ∀ v, flatD (encP3 e f k v) = true := fun v => by
  show flatD (.tuple [_, _, _]) = true
  simp [flatD, flatAll, h, g, i]
theorem e_nev {e : α → PyData} [DecidableEq α] {n : Nat} {a b : Ex} {x y : α} {r s : RV} (g : Good e n) (hn : n ≤ 64) (ha : ev c env a = some r) (hb : ev c env b = some s) (hr : r.d = e x) (hs : s.d = e y) : ev c env (.cmp .ne a b) = some (.fz (.bool (!decide (x = y)))) := by
  rw [q_ev_cmp, ha, hb]
  show (cmpD .ne r.d s.d).map _ = _
  rw [hr, hs]
  rw [cmp_ne_shp _ (g.shp hn x), g.shp hn, g.shp hn, g.dec]
  rfl
theorem e_innUI {a b : Ex} {x : Int} {ys : List Int} {r : RV} {s : RV} (ha : ev c env a = some r) (hb : ev c env b = some s) (hr : r.d = .int x) (hs : s.d = .tuple (ys.map PyData.int)) : ev c env (.cmp .inn a b) = some (.fz (.bool (decide (x ∈ ys)))) := by
  rw [q_ev_cmp, ha, hb]
  show (inD r.d s.d).map _ = _
  rw [hr, hs]
  have k : (ys.map PyData.int).any (fun z => PyData.eqv z (.int x)) = decide (x ∈ ys) := by
    rw [List.any_map]
    have : ((fun z => PyData.eqv z (PyData.int x)) ∘ PyData.int) = fun y => decide (y = x) := funext fun y => good_I.dec y x
    rw [this]
    by_cases q : x ∈ ys
    · rw [decide_eq_true q]; exact List.any_eq_true.mpr ⟨x, q, by simp⟩
    · rw [decide_eq_false q, List.any_eq_false]
      intro y hy
      simp
      rintro rfl
      exact q hy
  have al : (ys.map PyData.int).all scalD = true := by simp [scalD]
  show (if scalD (.int x) && (ys.map PyData.int).all scalD then some ((ys.map PyData.int).any fun z => PyData.eqv z (.int x)) else _).map _ = _
  rw [al, k]
  rfl
theorem e_ninUI {a b : Ex} {x : Int} {ys : List Int} {r : RV} {s : RV} (ha : ev c env a = some r) (hb : ev c env b = some s) (hr : r.d = .int x) (hs : s.d = .tuple (ys.map PyData.int)) : ev c env (.cmp .nin a b) = some (.fz (.bool (!decide (x ∈ ys)))) := by
  have h := e_innUI ha hb hr hs
  rw [q_ev_cmp, ha, hb] at h ⊢
  have h : ((inD r.d s.d).map fun k => RV.fz (.bool k)) = some (.fz (.bool (decide (x ∈ ys)))) := h
  show (((inD r.d s.d).map not).map fun k => RV.fz (.bool k)) = _
  cases q : inD r.d s.d with
  | none => rw [q] at h; cases h
  | some k => rw [q] at h; cases h; rfl
theorem es_nil : evs c env .nil = some [] := q_evs_nil _ _
theorem es_cons {a : Ex} {as : Exs} {r : RV} {d : PyData} {ds : List PyData} (ha : ev c env a = some r) (ho : ownD a r = some d) (hs : evs c env as = some ds) : evs c env (.cons a as) = some (d :: ds) := by rw [q_evs_cons, ha]; show (ownD a r).bind _ = _; rw [ho, hs]; rfl
theorem e_tup {es : Exs} {ds : List PyData} (h : evs c env es = some ds) (l : ds.length ≤ LIM) : ev c env (.tup es) = some (.fz (.tuple ds)) := by rw [q_ev_tup, h]; exact if_pos l
theorem e_lst {es : Exs} {ds : List PyData} (h : evs c env es = some ds) (l : ds.length ≤ LIM) : ev c env (.lst es) = some (.ol ds) := by rw [q_ev_lst, h]; exact if_pos l
theorem eb_nil : evb c env .nil = some ([], false) := q_evb_nil _ _
theorem eb_cons {a : Ex} {as : Exs} {r : RV} {d : PyData} {ds : List PyData} {p q : Bool} (ha : ev c env a = some r) (hd : r.d = d) (hs : evb c env as = some (ds, p)) (hq : ((isVar a && r.isOwn) || p) = q) (hl : lndOf a = none := by rfl) : evb c env (.cons a as) = some (d :: ds, q) := by rw [q_evb_cons c env a as hl, ha, hs, ← hd, ← hq]; rfl
theorem m_call {f : Nat} {es : Exs} {ds : List PyData} {M : Option β} {φ : β → RV} (h : evb c env es = some (ds, false)) (k : Sim (c.call f ds) M φ) : Sim (ev c env (.call f es)) M φ := fun v e => by
  rw [q_ev_call, h]
  show callD (c.call f ds) false _ = _
  rw [k v e]
  rfl
theorem er_1 {a : Ex} {r : RV} (ha : ev c env a = some r) : evr c env (.cons a .nil) = some [r] := by rw [q_evr_cons, ha, q_evr_nil]; rfl
theorem biLen {r : RV} {ds : List PyData} (h : r.seq = some ds) : biD .len [r] = some (.fz (.int ds.length)) := by
  have hr := seq_rows h
  have e : biD .len [r] = r.seq.map fun ds => .fz (.int ds.length) := by
    cases r with
    | fz d =>
      cases d with
      | str z => cases h
      | dict kvs =>
        show (match RV.rows _ with | some kvs => some (RV.fz (.int kvs.length)) | none => _) = _
        rw [hr]
      | _ => rfl
    | ol _ => rfl
    | od _ => cases h
    | on _ => cases h
    | xr _ => cases h
    | tr _ _ => cases h
    | al _ _ => cases h
  rw [e, h]
  rfl
theorem e_len {e : α → PyData} {a : Ex} {x : List α} {r : RV} (ha : ev c env a = some r) (hs : r.seq = some (x.map e)) : ev c env (.bi .len (.cons a .nil)) = some (.fz (.int (x.length : Nat))) := by
  rw [q_ev_bi, er_1 ha]
  show biD .len [r] = _
  rw [biLen hs, List.length_map]
theorem e_lenN {a : Ex} {ds : List PyData} {r : RV} {n : Int} (ha : ev c env a = some r) (hs : r.seq = some ds) (hn : (ds.length : Int) = n) : ev c env (.bi .len (.cons a .nil)) = some (.fz (.int n)) := by
  rw [q_ev_bi, er_1 ha]
  show biD .len [r] = _
  rw [biLen hs, hn]
theorem e_lenZ {a : Ex} {x : List Int} (ha : ev c env a = some (.fz (scrD x))) : ev c env (.bi .len (.cons a .nil)) = some (.fz (.int (x.length : Nat))) := e_len (e := PyData.int) ha (scr_seq x)
theorem m_lenS {a : Ex} {x : Str} (ha : ev c env a = some (.fz (.str x))) : Sim (ev c env (.bi .len (.cons a .nil))) (if x.length ≤ LIM then some (x.length : Int) else none) (fz PyData.int) := fun v h => by
  split at h
  · cases h
    rw [q_ev_bi, er_1 ha]
    exact if_pos (by assumption)
  · cases h
theorem e_sumS {a : Ex} {x : List Int} {r : RV} (ha : ev c env a = some r) (hs : r.seq = some (x.map PyData.int)) : ev c env (.bi .sum (.cons a .nil)) = some (.fz (.int x.sum)) := by
  rw [q_ev_bi, er_1 ha]
  show (r.seq.bind intsOf).map _ = _
  rw [hs]
  show (intsOf (x.map PyData.int)).map _ = _
  rw [ints_map]
  rfl
theorem lst_seq {r : RV} {ds : List PyData} (h : r.lst = some ds) : r.seq = some ds := by
  unfold RV.lst at h
  split at h <;> cases h <;> rfl
theorem e_sum {a : Ex} {x : List Int} {r : RV} (ha : ev c env a = some r) (hs : r.lst = some (x.map PyData.int)) : ev c env (.bi .sum (.cons a .nil)) = some (.fz (.int x.sum)) := e_sumS ha (lst_seq hs)
theorem e_all {a : Ex} {x : List Bool} {r : RV} (ha : ev c env a = some r) (hs : r.lst = some (x.map PyData.bool)) : ev c env (.bi .all (.cons a .nil)) = some (.fz (.bool (x.all id))) := by
  rw [q_ev_bi, er_1 ha]
  show (r.lst.bind boolsOf).map _ = _
  rw [hs]
  show (boolsOf (x.map PyData.bool)).map _ = _
  rw [bools_map]
  rfl
theorem e_intB {a : Ex} {x : Bool} (ha : ev c env a = some (.fz (.bool x))) : ev c env (.bi .int (.cons a .nil)) = some (.fz (.int (if x = true then 1 else 0))) := by rw [q_ev_bi, er_1 ha]; rfl
theorem e_tupO {e : α → PyData} {a : Ex} {x : List α} {r : RV} (ha : ev c env a = some r) (hs : r.seq = some (x.map e)) : ev c env (.bi .tup (.cons a .nil)) = some (.fz (.tuple (x.map e))) := by
  rw [q_ev_bi, er_1 ha]
  show (r.seq).map _ = _
  rw [hs]
  rfl
theorem e_lisO {e : α → PyData} {a : Ex} {x : List α} {r : RV} (ha : ev c env a = some r) (hs : r.seq = some (x.map e)) : ev c env (.bi .list (.cons a .nil)) = some (.ol (x.map e)) := by
  rw [q_ev_bi, er_1 ha]
  show (match r.rows with | some kvs => some (RV.ol (kvs.map fun p : PyData × PyData => p.1)) | none => r.seq.map RV.ol) = _
  have hr : r.rows = none := by
    unfold RV.seq at hs
    split at hs <;> first | rfl | cases hs
  rw [hr]
  show r.seq.map _ = _
  rw [hs]
  rfl
theorem e_isI {t : Ty} {a : Ex} {r : RV} {b : Bool} (ha : ev c env a = some r) (hn : notScr r.d = true) (hb : isD t r.d = b) : ev c env (.bi (.isI t) (.cons a .nil)) = some (.fz (.bool b)) := by
  rw [q_ev_bi, er_1 ha]
  show (if notScr r.d then _ else _) = _
  rw [if_pos hn, hb]
theorem atI_map {e : α → PyData} {x : List α} {i : Int} {v : α} (h : atI x i = some v) : atI (x.map e) i = some (e v) := by
  unfold atI at h ⊢
  rw [List.length_map]
  cases q : ixN x.length i with
  | none => rw [q] at h; cases h
  | some j =>
    rw [q] at h
    have h : x[j]? = some v := h
    show (x.map e)[j]? = _
    rw [List.getElem?_map, h]
    rfl
theorem idx_seq {r : RV} {ds : List PyData} {i : Int} {d : PyData} (hs : r.seq = some ds) (h : atI ds i = some d) : idxD r (.fz (.int i)) = some (.fz d) := by
  have hd : (r.dic.bind fun kvs => dGet kvs (RV.fz (.int i)).d) = none := by
    have hr := seq_rows hs
    unfold RV.rows at hr
    cases e : r.dic with
    | none => rfl
    | some kvs =>
      rw [e] at hr
      show dGet kvs (.int i) = none
      cases q : dGet kvs (.int i) with
      | none => rfl
      | some o =>
        unfold dGet at q
        split at q
        · cases hr
        · cases hr
        · cases q
  unfold idxD
  rw [hd]
  show idx0 r (.fz (.int i)) = _
  unfold idx0
  split
  · cases hs
  · rename_i e2
    cases e2
    rw [hs]
    show (atI ds i).map _ = _
    rw [h]
    rfl
  · rename_i h1 h2; exact absurd rfl (h1 i)
theorem m_idx {e : α → PyData} {a b : Ex} {x : List α} {i : Int} {r : RV} (ha : ev c env a = some r) (hb : ev c env b = some (.fz (.int i))) (hs : r.seq = some (x.map e)) : Sim (ev c env (.idx a b)) (atI x i) (fz e) := fun v h => by
  rw [q_ev_idx, ha, hb]
  exact idx_seq hs (atI_map h)
theorem m_idxS {a b : Ex} {x : Str} {i : Int} (ha : ev c env a = some (.fz (.str x))) (hb : ev c env b = some (.fz (.int i))) : Sim (ev c env (.idx a b)) (if x.length ≤ LIM then (atI x.cps.toList i).map (fun k => (⟨#[k]⟩ : Str)) else none) (fz PyData.str) := fun v h => by
  split at h
  · rw [q_ev_idx, ha, hb]
    show (if x.length ≤ LIM then _ else _) = _
    rw [if_pos (by assumption)]
    cases q : atI x.cps.toList i with
    | none => rw [q] at h; cases h
    | some k => rw [q] at h; cases h; rfl
  · cases h
theorem e_idxP {a b : Ex} {i : Int} {r : RV} {ds : List PyData} {d : PyData} (ha : ev c env a = some r) (hb : ev c env b = some (.fz (.int i))) (hs : r.seq = some ds) (h : atI ds i = some d) : ev c env (.idx a b) = some (.fz d) := by
  rw [q_ev_idx, ha, hb]
  exact idx_seq hs h
theorem o_emp : evo c env .emp = some none := q_evo_emp _ _
theorem o_one {a : Ex} {i : Int} (ha : ev c env a = some (.fz (.int i))) : evo c env (.one a) = some (some i) := by rw [q_evo_one, ha]; rfl
theorem e_slcP {a l h : Ex} {r : RV} {lo hi : Option Int} {d : PyData} (ha : ev c env a = some r) (hl : evo c env l = some lo) (hh : evo c env h = some hi) (hs : slcD r lo hi = some (.fz d)) : ev c env (.slc a l h) = some (.fz d) := by
  rw [q_ev_slc, ha, hl, hh]
  exact hs
theorem m_joinS {a b : Ex} {x : Str} {ys : List Str} {r : RV} (ha : ev c env a = some (.fz (.str x))) (hb : ev c env b = some r) (hs : r.seq = some (ys.map PyData.str)) : Sim (ev c env (.mt .join a (.cons b .nil))) (if (ys.map (·.length)).sum + ys.length * x.length ≤ 16777216 then some (Txt.join x ys) else none) (fz PyData.str) := fun v h => by
  split at h
  · cases h
    rw [q_ev_mt, ha, er_1 hb]
    show joinD (.fz (.str x)) r = _
    unfold joinD
    show (r.seq.bind strsOf).bind _ = _
    rw [hs]
    show (strsOf (ys.map PyData.str)).bind _ = _
    rw [strs_map]
    exact if_pos (by assumption)
  · cases h
theorem i_ex {e : α → PyData} {a : Ex} {x : List α} {r : RV} (ha : ev c env a = some r) (hs : itemsOf r = some (x.map e)) : Sim (evi c env (.ex a)) (some x) (List.map e) := fun v h => by cases h; rw [q_evi_ex, ha]; exact items_x hs
theorem i_r1 {a : Ex} {x : Int} (ha : ev c env a = some (.fz (.int x))) : Sim (evi c env (.r1 a)) (rng1 x) (List.map PyData.int) := fun v h => by
  unfold rng1 at h
  split at h
  · cases h
    rw [q_evi_r1, ha]
    show (if _ then _ else _) = _
    rw [if_pos (by assumption)]
    unfold rngD
    rw [List.map_map]
    congr 1
    refine List.map_congr_left fun i _ => ?_
    show PyData.int (0 + _) = PyData.int _
    rw [Int.zero_add]
  · cases h
theorem zip_enc {e : α → PyData} {f : β → PyData} : ∀ (x : List α) (y : List β), zipD (x.map e) (y.map f) = (List.zip x y).map (encP2 e f)
  | [], _ => rfl
  | _ :: _, [] => rfl
  | a :: x, b :: y => by
    show _ :: zipD (x.map e) (y.map f) = _
    rw [zip_enc x y]
    rfl
theorem i_zip {e : α → PyData} {f : β → PyData} {a b : Ex} {x : List α} {y : List β} {r s : RV} (ha : ev c env a = some r) (hb : ev c env b = some s) (hr : r.seq = some (x.map e)) (hs : s.seq = some (y.map f)) : Sim (evi c env (.zip a b)) (some (List.zip x y)) (List.map (encP2 e f)) := fun v h => by
  cases h
  rw [q_evi_zip, ha, hb]
  show zipR r s = _
  unfold zipR
  rw [hr]
  show (s.seq).bind _ = _
  rw [hs]
  show some (zipD _ _) = _
  rw [zip_enc]
theorem en_enc {e : α → PyData} : ∀ (i : Nat) (x : List α), enD i (x.map e) = (enI i x).map (encP2 PyData.int e)
  | _, [] => rfl
  | i, a :: x => by
    show _ :: enD (i + 1) (x.map e) = _
    rw [en_enc (i + 1) x]
    rfl
theorem i_en {e : α → PyData} {a : Ex} {x : List α} {r : RV} (ha : ev c env a = some r) (hs : itemsOf r = some (x.map e)) : Sim (evi c env (.en a)) (some (enI 0 x)) (List.map (encP2 PyData.int e)) := fun v h => by
  cases h
  rw [q_evi_en, ha]
  show (itemsOf r).map _ = _
  rw [hs]
  show some (enD 0 _) = _
  rw [en_enc]
def signsOf (z : Str) : List Str := z.cps.toList.map fun k => ⟨#[k]⟩
def bo (c : Cl) (env : Ev) (e : Ex) : Bool := isVar e && ((ev c env e).map RV.isOwn).getD true
theorem bo_n {e : Ex} (h : isVar e = false) : bo c env e = false := by unfold bo; rw [h]; rfl
theorem bo_v {e : Ex} {d : PyData} (h : ev c env e = some (.fz d)) : bo c env e = false := by unfold bo; rw [h]; cases isVar e <;> rfl
theorem b_ex {a : Ex} (h : bo c env a = false) : borI c env (.ex a) = false := h
theorem b_zip {a b : Ex} (h : bo c env a = false) (g : bo c env b = false) : borI c env (.zip a b) = false := by
  show (bo c env a || bo c env b) = false
  rw [h, g]
  rfl
theorem sim_bx {e' : Ex} {M : Option β} {K : β → Option δ} {ψ : δ → RV} (e : Ex) (φ : β → RV) (h : Sim (ev c env e) M φ) (k : ∀ v, ev c env e = some (φ v) → Sim (ev c env e') (K v) ψ) : Sim (ev c env e') (M.bind K) ψ := sim_b h k
theorem comp_map {e : α → PyData} {f : β → PyData} {F : α → Option β} {g : PyData → Option (Option PyData)} (h : ∀ x y, F x = some y → g (e x) = some (some (f y))) : ∀ (x : List α) (y : List β), mapO F x = some y → compL g (x.map e) = some (y.map f)
  | [], y, q => by cases q; rfl
  | a :: x, y, q => by
    unfold mapO at q
    obtain ⟨b, h1, q⟩ := bind_of q
    obtain ⟨r, h2, q⟩ := bind_of q
    cases q
    show (g (e a)).bind _ = _
    rw [h a b h1]
    show (compL g (x.map e)).bind _ = _
    rw [comp_map h x r h2]
    rfl
theorem m_comp {e : α → PyData} {f : β → PyData} {b : Ex} {tg : Tg} {it : Mn.Itr} {own : List Nat} {x : List α} {F : α → Option β} {φ : β → RV} (hi : Sim (evi c env it) (some x) (List.map e))
    (hb : ∀ y, ∃ env', bindT tg (wipeE env own) (e y) = some env' ∧ Sim (ev c env' b) (F y) φ) (ho : ∀ v, ownD b (φ v) = some (f v)) : Sim (ev c env (.comp b tg it .emp own)) (mapG x F) (ol f) := fun v h => by
  unfold mapG at h
  split at h
  · rw [q_ev_comp, hi x rfl]
    show (compL (cmpB c (wipeE env own) b tg .emp) (x.map e)).bind _ = _
    rw [comp_map (f := f) (F := F) (fun y z hz => by
      obtain ⟨env', h1, h2⟩ := hb y
      unfold cmpB
      simp [h1, q_evt_emp, h2 z hz, ho]) x v h]
    show (if _ then _ else _) = _
    rw [if_pos (by rw [List.length_map]; assumption)]
  · cases h
theorem own_v {a : Ex} {r : RV} {d : PyData} (h : r = .fz d) : ownD a r = some d := by subst h; exact own_fz _ _
theorem own_o {a : Ex} {r : RV} {d : PyData} (hv : isVar a = false) (h : r.d = d) : ownD a r = some d := by subst h; unfold ownD; rw [hv]; rfl
end
def runS (c : Cl) : List Sms → Ev → Option Out
  | [], env => some (.nx env)
  | b :: bs, env => (exSs c b env).bind fun o => thenO o (runS c bs)
section
variable {c : Cl} {env : Ev} {P : R → Out → Prop} {bs : List Sms} {r : Sms}
theorem run_cons (s : Sm) : runS c (.cons s r :: bs) env = (exS c s env).bind fun o => thenO o (runS c (r :: bs)) := by
  show (exSs c (.cons s r) env).bind _ = _
  rw [q_exSs_cons]
  cases exS c s env with
  | none => rfl
  | some o => cases o <;> rfl
theorem run_stop {o : Out} (ho : ∀ k : Ev → Option Out, thenO o k = some o) {s : Sm} (h : exS c s env = some o) : runS c (.cons s r :: bs) env = some o := by rw [run_cons, h]; exact ho _
theorem sms_bx {M : Option β} {K : β → Option R} (e : Ex) (φ : β → RV) (h : Sim (ev c env e) M φ) (k : ∀ v, ev c env e = some (φ v) → SimS (runS c bs env) (K v) P) : SimS (runS c bs env) (M.bind K) P := sms_b h k
theorem sms_bi {M : Option (List β)} {K : List β → Option R} (e : Mn.Itr) (φ : List β → List PyData) (h : Sim (evi c env e) M φ) (k : ∀ v, evi c env e = some (φ v) → SimS (runS c bs env) (K v) P) : SimS (runS c bs env) (M.bind K) P := sms_b h k
theorem s_nil {M : Option R} (h : SimS (runS c bs env) M P) : SimS (runS c (.nil :: bs) env) M P := fun v e => by
  obtain ⟨o, h1, h2⟩ := h v e
  exact ⟨o, by show (exSs c .nil env).bind _ = _; rw [q_exSs_nil]; exact h1, h2⟩
theorem s_end {v : R} (h : P v (.nx env)) : SimS (runS c [] env) (some v) P := fun w e => by cases e; exact ⟨_, rfl, h⟩
theorem s_norm {M : Option R} {env env' : Ev} {bs : List Sms} {P : R → Out → Prop} (e : env = env') (h : SimS (runS c bs env') M P) : SimS (runS c bs env) M P := e ▸ h
theorem s_del {M : Option R} {i : Nat} (h : SimS (runS c (r :: bs) (env.set i none)) M P) : SimS (runS c (.del i r :: bs) env) M P := fun v e => by
  obtain ⟨o, h1, h2⟩ := h v e
  exact ⟨o, by show (exSs c (.del i r) env).bind _ = _; rw [q_exSs_del]; exact h1, h2⟩
theorem s_step {M : Option R} {s : Sm} {env' : Ev} (hs : exS c s env = some (.nx env')) (h : SimS (runS c (r :: bs) env') M P) : SimS (runS c (.cons s r :: bs) env) M P := fun v e => by
  obtain ⟨o, h1, h2⟩ := h v e
  exact ⟨o, by rw [run_cons, hs]; exact h1, h2⟩
theorem s_asg {M : Option β} {K : β → Option R} {φ : β → RV} {i : Nat} {e : Ex} (he : Sim (ev c env e) M φ) (hv : ∀ v, (isVar e && (φ v).isOwn) = false) (h : ∀ v, SimS (runS c (r :: bs) (env.set i (some (φ v)))) (K v) P) : SimS (runS c (.cons (.asg i e) r :: bs) env) (M.bind K) P := fun w q => by
  obtain ⟨v, q1, q2⟩ := bind_of q
  exact s_step (M := K v) (by rw [q_exS_asg, he v q1]; show (if _ then _ else _) = _; rw [hv]; rfl) (h v) w q2
theorem s_unp {M : Option R} {is : List Nat} {e : Ex} {x : RV} {d : PyData} {env' : Ev} (he : ev c env e = some x) (ho : ownD e x = some d) (hb : bindT (.tp is) env d = some env') (h : SimS (runS c (r :: bs) env') M P) : SimS (runS c (.cons (.unp is e) r :: bs) env) M P :=
  s_step (by rw [q_exS_unp, he]; show (ownD e x).bind _ = _; rw [ho]; show (bindT _ _ _).map _ = _; rw [hb]; rfl) h
theorem s_app {f : β → PyData} {x : β} {xs : List β} {K : List β → Option R} {i : Nat} {e : Ex} {y : RV} (hi : (env[i]?).join = some (.ol (xs.map f))) (he : ev c env e = some y) (ho : ownD e y = some (f x)) (h : ∀ v : List β, SimS (runS c (r :: bs) (env.set i (some (.ol (v.map f))))) (K v) P) :
    SimS (runS c (.cons (.app i e) r :: bs) env) ((appG xs x).bind K) P := fun w q => by
  obtain ⟨v, q1, q2⟩ := bind_of q
  unfold appG at q1
  split at q1
  · cases q1
    refine s_step (M := K _) ?_ (h _) w q2
    rw [q_exS_app, olAt_of hi, he]
    show (ownD e y).bind _ = _
    rw [ho]
    show (if _ then _ else _) = _
    rw [if_pos (by rw [List.length_map]; assumption), List.map_append]
    rfl
  · cases q1
theorem s_drp {M : Option R} {e : Ex} {x : RV} (he : ev c env e = some x) (h : SimS (runS c (r :: bs) env) M P) : SimS (runS c (.cons (.drp e) r :: bs) env) M P := s_step (by rw [q_exS_drp, he]; rfl) h
theorem run_if (t : Ex) (a b : Sms) {k : Bool} (ht : ev c env t = some (.fz (.bool k))) : runS c (.cons (.ifs t a b) r :: bs) env = if k = true then runS c (a :: r :: bs) env else runS c (b :: r :: bs) env := by
  rw [run_cons, q_exS_ifs, ht]
  show (ifK c a b env k).bind _ = _
  cases k <;> rfl
theorem s_if {t : Ex} {a b : Sms} {k : Bool} {A B : Option R} (ht : ev c env t = some (.fz (.bool k))) (ha : SimS (runS c (a :: r :: bs) env) A P) (hb : SimS (runS c (b :: r :: bs) env) B P) :
    SimS (runS c (.cons (.ifs t a b) r :: bs) env) (if k = true then A else B) P := fun v e => by
  rw [run_if t a b ht]
  cases k with
  | true => exact ha v e
  | false => exact hb v e
theorem s_cut {A : Option σ} {E : σ → Ev} {K : σ → Option R} {s : Sm} (ha : SimS (runS c [.cons s .nil] env) A (PNx E)) (h : ∀ v, SimS (runS c (r :: bs) (E v)) (K v) P) : SimS (runS c (.cons s r :: bs) env) (A.bind K) P := fun w q => by
  obtain ⟨v, q1, q2⟩ := bind_of q
  obtain ⟨o, h1, rfl⟩ := ha v q1
  have e : exS c s env = some (.nx (E v)) := by
    rw [run_cons] at h1
    obtain ⟨o, z1, z2⟩ := bind_of h1
    rw [z1]
    cases o with
    | nx e =>
      have z2 : (exSs c .nil e).bind (fun o => thenO o (runS c [])) = _ := z2
      rw [q_exSs_nil] at z2
      exact z2
    | rt _ => cases z2
    | bk _ => cases z2
    | ct _ => cases z2
    | re _ _ => cases z2
  exact s_step e (h v) w q2
theorem s_ret {M : Option β} {φ : β → RV} {mk : β → R} {e : Ex} (he : Sim (ev c env e) M φ) (hP : ∀ v, P (mk v) (.rt (φ v))) : SimS (runS c (.cons (.ret e) r :: bs) env) (M.bind fun v => some (mk v)) P := fun w q => by
  obtain ⟨v, q1, q2⟩ := bind_of q
  cases q2
  exact ⟨_, run_stop (fun _ => rfl) (by rw [q_exS_ret, he v q1]; rfl), hP v⟩
theorem s_ret1 {M : Option R} {φ : R → RV} {e : Ex} (he : Sim (ev c env e) M φ) (hP : ∀ v, P v (.rt (φ v))) : SimS (runS c (.cons (.ret e) r :: bs) env) M P := fun w q =>
  ⟨_, run_stop (fun _ => rfl) (by rw [q_exS_ret, he w q]; rfl), hP w⟩
theorem s_nev : SimS (runS c (.cons .nev r :: bs) env) (none : Option R) P := fun w q => by cases q
theorem exSs_run (b : Sms) (env : Ev) : runS c [b] env = exSs c b env := by
  show (exSs c b env).bind _ = _
  cases exSs c b env with
  | none => rfl
  | some o => cases o <;> rfl
abbrev on {α : Type} (e : α → PyData) : List (List α) → RV := fun xs => .on (xs.map (List.map e))
theorem forL_fold {e : α → PyData} {E : σ → Ev} {F : α → σ → Option σ} {g : Ev → PyData → Option Out} (h : ∀ x s, SimS (g (E s) (e x)) (F x s) (PLn E)) : ∀ (xs : List α) (s s' : σ), foldO F xs s = some s' → forL g (xs.map e) (E s) = some (.nx (E s'))
  | [], s, s', q => by cases q; rfl
  | x :: xs, s, s', q => by
    obtain ⟨t, q1, q2⟩ := bind_of q
    obtain ⟨o, h1, h2⟩ := h x s t q1
    show (g (E s) (e x)).bind _ = _
    rw [h1]
    rcases h2 with rfl | rfl
    · exact forL_fold h xs t s' q2
    · exact forL_fold h xs t s' q2
def LpO (E : σ → Ev) (φ : ρ → RV) : Lp σ ρ → Out
  | .nx s => .nx (E s)
  | .bk s => .nx (E s)
  | .rt r => .rt (φ r)
theorem forL_loop {e : α → PyData} {E : σ → Ev} {φ : ρ → RV} {F : α → σ → Option (Lp σ ρ)} {g : Ev → PyData → Option Out} (h : ∀ x s, SimS (g (E s) (e x)) (F x s) (PLp E φ)) : ∀ (xs : List α) (s : σ) (s' : Lp σ ρ), loopO F xs s = some s' → forL g (xs.map e) (E s) = some (LpO E φ s')
  | [], s, s', q => by cases q; rfl
  | x :: xs, s, s', q => by
    obtain ⟨t, q1, q2⟩ := bind_of q
    obtain ⟨o, h1, h2⟩ := h x s t q1
    show (g (E s) (e x)).bind _ = _
    rw [h1]
    cases t with
    | nx t =>
      rcases h2 with rfl | rfl
      · exact forL_loop h xs t s' q2
      · exact forL_loop h xs t s' q2
    | bk t => cases h2; cases q2; rfl
    | rt t => cases h2; cases q2; rfl
theorem s_for {e : α → PyData} {E : σ → Ev} {F : α → σ → Option σ} {K : σ → Option R} {tg : Tg} {it : Mn.Itr} {b : Sms} {xs : List α} (s0 : σ) (h0 : env = E s0) (hi : Sim (evi c env it) (some xs) (List.map e)) (hb : borI c env it = false)
    (h : ∀ x s, ∃ env', bindT tg (E s) (e x) = some env' ∧ SimS (runS c [b] env') (F x s) (PLn E)) (hr : ∀ s, SimS (runS c (r :: bs) (E s)) (K s) P) : SimS (runS c (.cons (.for_ tg it b) r :: bs) env) ((foldO F xs s0).bind K) P := fun w q => by
  obtain ⟨s', q1, q2⟩ := bind_of q
  refine s_step (M := K s') ?_ (hr s') w q2
  rw [q_exS_for_, if_neg (by rw [hb]; exact Bool.false_ne_true), hi xs rfl]
  show forL (forB c tg b) (xs.map e) env = _
  rw [h0]
  refine forL_fold (fun x s v hv => ?_) xs s0 s' q1
  obtain ⟨env', h1, h2⟩ := h x s
  obtain ⟨o, h3, h4⟩ := h2 v hv
  refine ⟨o, ?_, h4⟩
  unfold forB
  rw [h1]
  rw [exSs_run] at h3
  exact h3
theorem s_forL {e : α → PyData} {E : σ → Ev} {φ : ρ → RV} {F : α → σ → Option (Lp σ ρ)} {K : σ → Option R} {mk : ρ → R} {tg : Tg} {it : Mn.Itr} {b : Sms} {xs : List α} (s0 : σ) (h0 : env = E s0) (hi : Sim (evi c env it) (some xs) (List.map e)) (hb : borI c env it = false)
    (h : ∀ x s, ∃ env', bindT tg (E s) (e x) = some env' ∧ SimS (runS c [b] env') (F x s) (PLp E φ)) (hm : ∀ v, P (mk v) (.rt (φ v))) (hr : ∀ s, SimS (runS c (r :: bs) (E s)) (K s) P) :
    SimS (runS c (.cons (.for_ tg it b) r :: bs) env) ((loopO F xs s0).bind (lpK K fun v => some (mk v))) P := fun w q => by
  obtain ⟨s', q1, q2⟩ := bind_of q
  have lp : exS c (.for_ tg it b) env = some (LpO E φ s') := by
    rw [q_exS_for_, if_neg (by rw [hb]; exact Bool.false_ne_true), hi xs rfl]
    show forL (forB c tg b) (xs.map e) env = _
    rw [h0]
    refine forL_loop (fun x s v hv => ?_) xs s0 s' q1
    obtain ⟨env', h1, h2⟩ := h x s
    obtain ⟨o, h3, h4⟩ := h2 v hv
    refine ⟨o, ?_, h4⟩
    unfold forB
    rw [h1]
    rw [exSs_run] at h3
    exact h3
  cases s' with
  | nx s => exact s_step (M := K s) lp (hr s) w q2
  | bk s => exact s_step (M := K s) lp (hr s) w q2
  | rt v => cases q2; exact ⟨_, run_stop (fun _ => rfl) lp, hm v⟩
end
theorem s_def {c : Cl} {f : Df} {ds : List PyData} {M : Option ρ} {φ : ρ → RV} (hl : ds.length = f.np) (h : SimS (runS c [f.body] (ds.map (fun d => some (RV.fz d)) ++ List.replicate (f.n - f.np) none)) M (PRt φ)) (hx : ∀ v, (φ v).isX = false := by intros; rfl) (hp : ∀ v, (φ v).pl = true := by intros; rfl) : Sim (runD c f ds) M φ := fun v e => by
  obtain ⟨o, h1, rfl⟩ := h v e
  rw [exSs_run] at h1
  exact run_rt hl h1 (hx v) (hp v)
theorem s_defN {c : Cl} {f : Df} {ds : List PyData} {M : Option Unit} {E : Unit → Ev} (hl : ds.length = f.np) (h : SimS (runS c [f.body] (ds.map (fun d => some (RV.fz d)) ++ List.replicate (f.n - f.np) none)) M (fun _ o => (∃ e, o = .nx e) ∨ o = .rt (.fz .none))) : Sim (runD c f ds) M (fz encN) := fun v e => by
  obtain ⟨o, h1, h2⟩ := h v e
  rw [exSs_run] at h1
  rcases h2 with ⟨e, rfl⟩ | rfl
  · exact run_nx hl h1
  · exact run_rt hl h1
end Mn
namespace Mn
open PySem PySem.Spec PyProof.Rows
open L2 (atI ixN cutS)
variable {α β γ δ σ ρ R : Type}
abbrev strOk (x : Str) : Bool := PyData.strOk x
def okL {α : Type} (f : α → Bool) (x : List α) : Bool := x.all f
def okP2 {α β : Type} (f : α → Bool) (g : β → Bool) (x : α × β) : Bool := f x.1 && g x.2
structure GoodK (e : α → PyData) (ok : α → Bool) (n : Nat) : Prop where
  can : ∀ x, ok x = true → (e x).canLay0 = true
  dep : ∀ x, (e x).depth ≤ n
  inj : ∀ x y, PyData.eqv (e x) (e y) = true ↔ x = y
theorem goodk_S : GoodK PyData.str strOk 0 := ⟨fun x h => by rw [PyData.canLay0]; exact h, fun x => by simp [PyData.depth], fun x y => by rw [PyData.eqv]; simp⟩
theorem Good.k {e : α → PyData} {n : Nat} (g : Good e n) : GoodK e (fun _ => true) n := ⟨fun x _ => g.can x, g.dep, g.inj⟩
theorem can_mapK (e : α → PyData) (ok : α → Bool) (h : ∀ x, ok x = true → (e x).canLay0 = true) : ∀ xs : List α, xs.all ok = true → PyData.canLayAll0 (xs.map e) = true
  | [], _ => by simp [PyData.canLayAll0]
  | x :: xs, q => by
    rw [List.all_cons, Bool.and_eq_true] at q
    rw [List.map_cons, PyData.canLayAll0, h x q.1, can_mapK e ok h xs q.2]
    rfl
theorem goodk_L {e : α → PyData} {ok : α → Bool} {n : Nat} (g : GoodK e ok n) : GoodK (encL e) (okL ok) (n + 1) :=
  ⟨fun x h => by show PyData.canLay0 (.list _) = true; rw [PyData.canLay0]; exact can_mapK e ok g.can x h,
   fun x => by show PyData.depth (.list _) ≤ _; rw [PyData.depth]; exact Nat.succ_le_succ (dep_map e n g.dep x),
   fun x y => by show PyData.eqv (.list _) (.list _) = true ↔ _; rw [PyData.eqv]; exact eqvAll_map g.inj x y⟩
theorem goodk_P2 {e : α → PyData} {f : β → PyData} {o1 : α → Bool} {o2 : β → Bool} {n m : Nat} (g : GoodK e o1 n) (h : GoodK f o2 m) : GoodK (encP2 e f) (okP2 o1 o2) (max n m + 1) :=
  ⟨fun x q => by unfold okP2 at q; simp only [Bool.and_eq_true] at q; simp [PyData.canLay0, PyData.canLayAll0, g.can _ q.1, h.can _ q.2], fun x => by have := g.dep x.1; have := h.dep x.2; simp only [PyData.depth, PyData.depthAll]; omega, fun x y => by simp [PyData.eqv, PyData.eqvAll, g.inj, h.inj, Prod.ext_iff]⟩
theorem GoodK.shp {e : α → PyData} {ok : α → Bool} {n : Nat} (g : GoodK e ok n) (h : n ≤ 64) {x : α} (hx : ok x = true) : SeqAt.shaped (e x) = true := shp_of (g.can x hx) (Nat.le_trans (g.dep x) h)
theorem GoodK.dec [DecidableEq α] {e : α → PyData} {ok : α → Bool} {n : Nat} (g : GoodK e ok n) (x y : α) : PyData.eqv (e x) (e y) = decide (x = y) := by
  by_cases h : x = y
  · rw [decide_eq_true h]; exact (g.inj x y).mpr h
  · rw [decide_eq_false h]
    cases q : PyData.eqv (e x) (e y)
    · rfl
    · exact absurd ((g.inj x y).mp q) h
def eqG [DecidableEq α] (ok : α → Bool) (x y : α) : Option Bool := if ok x = true ∧ ok y = true then some (decide (x = y)) else none
def neG [DecidableEq α] (ok : α → Bool) (x y : α) : Option Bool := if ok x = true ∧ ok y = true then some (!decide (x = y)) else none
def lenS (x : Str) : Option Int := if x.length ≤ LIM then some (x.length : Int) else none
def idxS (x : Str) (i : Int) : Option Str := if x.length ≤ LIM then (atI x.cps.toList i).map (fun k => (⟨#[k]⟩ : Str)) else none
def joinG (x : Str) (ys : List Str) : Option Str := if (ys.map (·.length)).sum + ys.length * x.length ≤ 16777216 then some (Txt.join x ys) else none
section
variable {c : Cl} {env : Ev}
theorem m_eqk {e : α → PyData} [DecidableEq α] {ok : α → Bool} {n : Nat} {a b : Ex} {x y : α} {r s : RV} (g : GoodK e ok n) (hn : n ≤ 64) (ha : ev c env a = some r) (hb : ev c env b = some s) (hr : r.d = e x) (hs : s.d = e y) : Sim (ev c env (.cmp .eq a b)) (eqG ok x y) (fz PyData.bool) := fun v h => by
  unfold eqG at h
  split at h
  · rename_i q
    cases h
    rw [q_ev_cmp, ha, hb]
    show (cmpD .eq r.d s.d).map _ = _
    rw [hr, hs]
    rw [cmp_eq_shp _ (g.shp hn q.1), g.shp hn q.1, g.shp hn q.2, g.dec]
    rfl
  · cases h
theorem m_nek {e : α → PyData} [DecidableEq α] {ok : α → Bool} {n : Nat} {a b : Ex} {x y : α} {r s : RV} (g : GoodK e ok n) (hn : n ≤ 64) (ha : ev c env a = some r) (hb : ev c env b = some s) (hr : r.d = e x) (hs : s.d = e y) : Sim (ev c env (.cmp .ne a b)) (neG ok x y) (fz PyData.bool) := fun v h => by
  unfold neG at h
  split at h
  · rename_i q
    cases h
    rw [q_ev_cmp, ha, hb]
    show (cmpD .ne r.d s.d).map _ = _
    rw [hr, hs]
    rw [cmp_ne_shp _ (g.shp hn q.1), g.shp hn q.1, g.shp hn q.2, g.dec]
    rfl
  · cases h
theorem m_joinT {a b : Ex} {x : Str} {ys : List Str} {r : RV} (ha : ev c env a = some (.fz (.str x))) (hb : ev c env b = some r) (hs : r.seq = some (ys.map PyData.str)) : Sim (ev c env (.mt .join a (.cons b .nil))) (joinG x ys) (fz PyData.str) := m_joinS ha hb hs
end
section
variable {β R : Type} {c : Cl} {env : Ev} {P : R → Out → Prop} {bs : List Sms} {r : Sms}
def lenI (xs : List (List β)) (n : Int) : Option Int := (atI xs n).map fun ys => (ys.length : Int)
end
section
variable {α : Type} {c : Cl} {env : Ev}
end
section
variable {α β R : Type} {c : Cl} {env : Ev} {P : R → Out → Prop} {bs : List Sms} {r : Sms}
end
section
variable {c : Cl} {env : Ev}
theorem e_innUS {a b : Ex} {x : Str} {ys : List Str} {r : RV} {s : RV} (ha : ev c env a = some r) (hb : ev c env b = some s) (hr : r.d = .str x) (hs : s.d = .tuple (ys.map PyData.str)) : ev c env (.cmp .inn a b) = some (.fz (.bool (decide (x ∈ ys)))) := by
  rw [q_ev_cmp, ha, hb]
  show (inD r.d s.d).map _ = _
  rw [hr, hs]
  have k : (ys.map PyData.str).any (fun z => PyData.eqv z (.str x)) = decide (x ∈ ys) := by
    rw [List.any_map]
    have : ((fun z => PyData.eqv z (PyData.str x)) ∘ PyData.str) = fun y => decide (y = x) := funext fun y => goodk_S.dec y x
    rw [this]
    by_cases q : x ∈ ys
    · rw [decide_eq_true q]; exact List.any_eq_true.mpr ⟨x, q, by simp⟩
    · rw [decide_eq_false q, List.any_eq_false]
      intro y hy
      simp
      rintro rfl
      exact q hy
  have al : (ys.map PyData.str).all scalD = true := by simp [scalD]
  show (if scalD (.str x) && (ys.map PyData.str).all scalD then some ((ys.map PyData.str).any fun z => PyData.eqv z (.str x)) else _).map _ = _
  rw [al, k]
  rfl
theorem e_ninUS {a b : Ex} {x : Str} {ys : List Str} {r : RV} {s : RV} (ha : ev c env a = some r) (hb : ev c env b = some s) (hr : r.d = .str x) (hs : s.d = .tuple (ys.map PyData.str)) : ev c env (.cmp .nin a b) = some (.fz (.bool (!decide (x ∈ ys)))) := by
  have h := e_innUS ha hb hr hs
  rw [q_ev_cmp, ha, hb] at h ⊢
  have h : ((inD r.d s.d).map fun k => RV.fz (.bool k)) = some (.fz (.bool (decide (x ∈ ys)))) := h
  show (((inD r.d s.d).map not).map fun k => RV.fz (.bool k)) = _
  cases q : inD r.d s.d with
  | none => rw [q] at h; cases h
  | some k => rw [q] at h; cases h; rfl
end
section
variable {α β γ : Type} {c : Cl} {env : Ev}
end
section
variable {α : Type} {c : Cl} {env : Ev}
end
section
variable {α R : Type} {c : Cl} {env : Ev} {P : R → Out → Prop} {bs : List Sms} {r : Sms}
theorem s_try {M : Option R} {b : Sms} (hP : ∀ v o, P v o → o.isX = false) (h : SimS (runS c (b :: r :: bs) env) M P) : SimS (runS c (.cons (.tryN b) r :: bs) env) M P := fun v e => by
  obtain ⟨o, h1, h2⟩ := h v e
  refine ⟨o, ?_, h2⟩
  rw [run_cons, q_exS_tryN]
  have h1 : (exSs c b env).bind (fun o => thenO o (runS c (r :: bs))) = some o := h1
  cases q : exSs c b env with
  | none => rw [q] at h1; cases h1
  | some o1 =>
    rw [q, Option.bind_some] at h1
    rw [Option.bind_some]
    cases hx : o1.isX with
    | false =>
      show (some o1).bind (fun o => thenO o (runS c (r :: bs))) = some o
      exact h1
    | true =>
      cases o1 with
      | rt rv =>
        have : o = .rt rv := (Option.some.inj (show some (Out.rt rv) = some o from h1)).symm
        subst this
        have := hP v _ h2
        rw [hx] at this
        cases this
      | re rv e2 =>
        have : o = .re rv e2 := (Option.some.inj (show some (Out.re rv e2) = some o from h1)).symm
        subst this
        have := hP v _ h2
        rw [hx] at this
        cases this
      | _ => cases hx
end
end Mn
set_option synthInstance.maxSize 100000
set_option synthInstance.maxHeartbeats 0
namespace Mn
open PySem PySem.Spec PyProof.Rows
open L2 (atI ixN cutS)
def b_law_mix_0 : Sms := (.cons (.asg 3 (.bin .fdiv (.var 3) (.bin .pow (.int 10) (.int 9))))
    (.del 4 .nil))
def b_law_mix_1 : Sms := (.cons (.asg 3 (.idx (.var 0) (.bin .add (.int 1) (.bin .mod (.var 1) (.bin .sub (.bi .len (.cons (.var 0) .nil)) (.int 1))))))
    (.del 2 (.cons (.for_ (.nm 4) (.r1 (.bin .fdiv (.var 1) (.bin .sub (.bi .len (.cons (.var 0) .nil)) (.int 1)))) b_law_mix_0)
    (.cons (.ret (.bin .mod (.var 3) (.bin .pow (.int 10) (.int 9))))
    .nil))))
def b_law_mix_2 : Sms := (.cons (.ret (.bin .mod (.bin .mul (.bin .mod (.bin .mul (.bin .add (.bin .mul (.bin .mul (.var 1) (.var 1)) (.int 7919)) (.int 11)) (.int 48271)) (.int 2147483647)) (.int 69621)) (.int 1000000007)))
    .nil)
def d_law_mix : Df := ⟨5, 2, (.cons (.ifs (.cmp .eq (.bi .len (.cons (.var 0) .nil)) (.int 0)) b_law_mix_2 .nil)
    (.cons (.asg 2 (.idx (.var 0) (.bin .mod (.var 1) (.bi .len (.cons (.var 0) .nil)))))
    (.cons (.ifs (.and (.cmp .gt (.bi .len (.cons (.var 0) .nil)) (.int 1)) (.one (.cmp .eq (.bin .mod (.idx (.var 0) (.int 0)) (.int 2)) (.int 1)))) b_law_mix_1 .nil)
    (.cons (.ret (.bin .mod (.bin .mul (.bin .mod (.bin .add (.bin .add (.bin .mul (.bin .mod (.var 2) (.bin .pow (.int 10) (.int 30))) (.int 48271)) (.bin .mul (.bin .mul (.var 1) (.var 1)) (.int 7919))) (.int 11)) (.int 2147483647)) (.int 69621)) (.int 1000000007)))
    .nil))))⟩
def s_law_mix : List PyData → Option RV := runD (tabC [] []) d_law_mix
end Mn
namespace Mn
open PySem PySem.Spec PyProof.Rows
open L2 (atI ixN cutS)
def d_law_ways : Df := ⟨3, 1, (.cons (.asg 1 (.bin .mod (.var 0) (.int 6)))
    (.cons (.ret (.mt .join (.str "") (.cons (.comp (.idx (.str "rl") (.bin .mod (.bin .fdiv (.var 0) (.idx (.lst (.cons (.int 6) (.cons (.int 12) (.cons (.int 24) (.cons (.int 48) (.cons (.int 96) .nil)))))) (.var 2))) (.int 2))) (.nm 2) (.r1 (.var 1)) .emp [2]) .nil)))
    .nil))⟩
def s_law_ways : List PyData → Option RV := runD (tabC [] []) d_law_ways
end Mn
namespace Mn
open PySem PySem.Spec PyProof.Rows
open L2 (atI ixN cutS)
def b_law_table_0 : Sms := (.cons (.asg 9 (.call 0 (.cons (.var 0) (.cons (.bin .add (.bin .add (.var 1) (.bin .mul (.var 6) (.var 4))) (.var 8)) .nil))))
    (.cons (.app 7 (.bin .mul (.bin .mod (.var 9) (.var 2)) (.bi .int (.cons (.cmp .gt (.bin .mod (.bin .fdiv (.var 9) (.int 7)) (.int 3)) (.int 0)) .nil))))
    (.del 8 (.del 9 .nil))))
def b_law_table_1 : Sms := (.cons (.asg 7 (.lst .nil))
    (.cons (.for_ (.nm 8) (.r1 (.var 4)) b_law_table_0)
    (.cons (.app 5 (.bi .tup (.cons (.var 7) .nil)))
    (.del 6 (.del 7 .nil)))))
def d_law_table : Df := ⟨10, 5, (.cons (.asg 5 (.lst .nil))
    (.cons (.for_ (.nm 6) (.r1 (.var 3)) b_law_table_1)
    (.cons (.ret (.tup (.cons (.var 3) (.cons (.var 4) (.cons (.bi .tup (.cons (.var 5) .nil)) .nil)))))
    .nil)))⟩
def s_law_table : List PyData → Option RV := runD (tabC [s_law_mix] []) d_law_table
end Mn
namespace Mn
open PySem PySem.Spec PyProof.Rows
open L2 (atI ixN cutS)
def b_law_row_0 : Sms := (.cons (.asg 8 (.tup (.cons (.idx (.var 5) (.var 6)) (.cons (.idx (.var 5) (.bin .add (.var 6) (.int 1))) .nil))))
    .nil)
def b_law_row_1 : Sms := (.cons (.asg 8 (.tup (.cons (.idx (.var 5) (.bin .add (.var 6) (.int 1))) (.cons (.idx (.var 5) (.var 6)) .nil))))
    (.cons (.ifs (.cmp .eq (.idx (.var 3) (.var 6)) (.str "l")) b_law_row_0 .nil)
    (.cons (.app 7 (.tup (.cons (.idx (.var 3) (.var 6)) (.cons (.call 1 (.cons (.var 0) (.cons (.bin .add (.bin .add (.var 1) (.int 10)) (.bin .mul (.int 17) (.var 6))) (.cons (.var 2) (.cons (.idx (.var 8) (.int 0)) (.cons (.idx (.var 8) (.int 1)) .nil)))))) .nil))))
    (.del 6 (.del 8 .nil)))))
def d_law_row : Df := ⟨9, 5, (.cons (.asg 5 (.bi .tup (.cons (.comp (.bin .mod (.call 0 (.cons (.var 0) (.cons (.bin .add (.var 1) (.var 6)) .nil))) (.var 4)) (.nm 6) (.r1 (.bin .add (.bi .len (.cons (.var 3) .nil)) (.int 1))) .emp [6]) .nil)))
    (.cons (.asg 7 (.lst .nil))
    (.del 4 (.cons (.for_ (.nm 6) (.r1 (.bi .len (.cons (.var 3) .nil))) b_law_row_1)
    (.cons (.ret (.tup (.cons (.var 2) (.cons (.var 5) (.cons (.bi .tup (.cons (.var 7) .nil)) .nil)))))
    .nil)))))⟩
def s_law_row : List PyData → Option RV := runD (tabC [s_law_mix, s_law_table] []) d_law_row
end Mn
namespace Mn
open PySem PySem.Spec PyProof.Rows
open L2 (atI ixN cutS)
def b_look_at_widths_0 : Sms := (.cons .nev
    .nil)
def b_look_at_widths_1 : Sms := (.cons (.ifs (.cmp .lt (.var 1) (.int 0)) b_look_at_widths_0 .nil)
    (.del 1 .nil))
def b_look_at_widths_2 : Sms := (.cons .nev
    .nil)
def d_look_at_widths : Df := ⟨2, 1, (.cons (.ifs (.or (.not (.chn .le .le (.int 1) (.bi .len (.cons (.var 0) .nil)) (.glb 0))) (.one (.cmp .gt (.bi .sum (.cons (.var 0) .nil)) (.glb 1)))) b_look_at_widths_2 .nil)
    (.cons (.for_ (.nm 1) (.ex (.var 0)) b_look_at_widths_1)
    .nil))⟩
def s_look_at_widths : List PyData → Option RV := runD (tabC [] [(.int 6), (.int 30)]) d_look_at_widths
end Mn
namespace Mn
open PySem PySem.Spec PyProof.Rows
open L2 (atI ixN cutS)
def b_size_at_0 : Sms := (.cons (.ret (.tup (.cons (.idx (.var 0) (.bin .add (.var 1) (.int 1))) (.cons (.idx (.var 0) (.var 1)) .nil))))
    .nil)
def d_size_at : Df := ⟨3, 3, (.cons (.ifs (.cmp .eq (.var 2) (.str "r")) b_size_at_0 .nil)
    (.cons (.ret (.tup (.cons (.idx (.var 0) (.var 1)) (.cons (.idx (.var 0) (.bin .add (.var 1) (.int 1))) .nil))))
    .nil))⟩
def s_size_at : List PyData → Option RV := runD (tabC [] []) d_size_at
end Mn
namespace Mn
open PySem PySem.Spec PyProof.Rows
open L2 (atI ixN cutS)
def b_table_of_0 : Sms := (.cons .nev
    .nil)
def b_table_of_1 : Sms := (.cons (.ifs (.cmp .ne (.bi .len (.cons (.var 5) .nil)) (.var 2)) b_table_of_0 .nil)
    (.cons (.app 4 (.bi .tup (.cons (.comp (.bin .mod (.var 6) (.var 0)) (.nm 6) (.ex (.var 5)) .emp [6]) .nil)))
    (.del 5 .nil)))
def b_table_of_2 : Sms := (.cons .nev
    .nil)
def b_table_of_3 : Sms := (.cons .nev
    .nil)
def d_table_of : Df := ⟨7, 4, (.cons (.ifs (.cmp .nin (.var 0) (.glb 0)) b_table_of_3 .nil)
    (.cons (.ifs (.or (.not (.chn .le .le (.int 0) (.var 1) (.glb 1))) (.or (.not (.chn .le .le (.int 0) (.var 2) (.glb 1))) (.one (.cmp .ne (.bi .len (.cons (.var 3) .nil)) (.var 1))))) b_table_of_2 .nil)
    (.cons (.asg 4 (.lst .nil))
    (.cons (.for_ (.nm 5) (.ex (.var 3)) b_table_of_1)
    (.cons (.ret (.tup (.cons (.var 1) (.cons (.var 2) (.cons (.bi .tup (.cons (.var 4) .nil)) .nil)))))
    .nil)))))⟩
def s_table_of : List PyData → Option RV := runD (tabC [] [(.tuple [(.int 2), (.int 3), (.int 5), (.int 7)]), (.int 30)]) d_table_of
end Mn
namespace Mn
open PySem PySem.Spec PyProof.Rows
open L2 (atI ixN cutS)
def b_arrow_of_0 : Sms := (.cons (.asg 8 (.call 1 (.cons (.var 0) (.cons (.var 6) (.cons (.var 7) (.cons (.var 5) .nil))))))
    .nil)
def b_arrow_of_1 : Sms := (.cons .nev
    .nil)
def d_arrow_of : Df := ⟨9, 4, (.cons (.unp [4, 5] (.var 3))
    (.cons (.ifs (.cmp .nin (.var 4) (.tup (.cons (.str "r") (.cons (.str "l") .nil)))) b_arrow_of_1 .nil)
    (.cons (.unp [6, 7] (.call 0 (.cons (.var 1) (.cons (.var 2) (.cons (.var 4) .nil)))))
    (.cons (.tryN b_arrow_of_0)
    (.cons (.ret (.tup (.cons (.var 4) (.cons (.var 8) .nil))))
    .nil)))))⟩
def s_arrow_of : List PyData → Option RV := runD (tabC [s_size_at, s_table_of] []) d_arrow_of
end Mn
namespace Mn
open PySem PySem.Spec PyProof.Rows
open L2 (atI ixN cutS)
def b_row_of_v2_0 : Sms := (.cons .nev
    .nil)
def b_row_of_v2_1 : Sms := (.cons .nev
    .nil)
def d_row_of_v2 : Df := ⟨6, 3, (.cons (.ifs (.cmp .nin (.var 0) (.glb 0)) b_row_of_v2_1 .nil)
    (.cons (.drp (.call 0 (.cons (.var 1) .nil)))
    (.cons (.ifs (.cmp .ne (.bi .len (.cons (.var 2) .nil)) (.bin .sub (.bi .len (.cons (.var 1) .nil)) (.int 1))) b_row_of_v2_0 .nil)
    (.cons (.asg 3 (.comp (.call 1 (.cons (.var 0) (.cons (.var 1) (.cons (.var 4) (.cons (.var 5) .nil))))) (.tp [4, 5]) (.en (.var 2)) .emp [4, 5]))
    (.cons (.ret (.tup (.cons (.var 0) (.cons (.bi .tup (.cons (.var 1) .nil)) (.cons (.bi .tup (.cons (.var 3) .nil)) .nil)))))
    .nil)))))⟩
def s_row_of_v2 : List PyData → Option RV := runD (tabC [s_look_at_widths, s_arrow_of] [(.tuple [(.int 2), (.int 3), (.int 5), (.int 7)])]) d_row_of_v2
end Mn
namespace Mn
open PySem PySem.Spec PyProof.Rows
open L2 (atI ixN cutS)
def d_law_whole : Df := ⟨1, 1, (.cons (.ret (.and (.bi (.isI .int) (.cons (.var 0) .nil)) (.one (.not (.bi (.isI .bool) (.cons (.var 0) .nil))))))
    .nil)⟩
def s_law_whole : List PyData → Option RV := runD (tabC [] []) d_law_whole
end Mn
namespace Mn
open PySem PySem.Spec PyProof.Rows
open L2 (atI ixN cutS)
def b_law_rests_0 : Sms := (.cons (.ret (.bl false))
    .nil)
def d_law_rests : Df := ⟨3, 2, (.cons (.ifs (.or (.not (.bi (.isI .tuple) (.cons (.var 0) .nil))) (.one (.cmp .ne (.bi .len (.cons (.var 0) .nil)) (.bi .len (.cons (.var 1) .nil))))) b_law_rests_0 .nil)
    (.cons (.ret (.and (.bi .all (.cons (.comp (.call 0 (.cons (.var 2) .nil)) (.nm 2) (.ex (.var 0)) .emp [2]) .nil)) (.one (.cmp .eq (.var 0) (.var 1)))))
    .nil))⟩
def s_law_rests : List PyData → Option RV := runD (tabC [s_law_whole] []) d_law_rests
end Mn
namespace Mn
open PySem PySem.Spec PyProof.Rows
open L2 (atI ixN cutS)
def b_law_is_table_0 : Sms := (.cons (.ret (.bl false))
    .nil)
def b_law_is_table_1 : Sms := (.cons (.ret (.bl false))
    .nil)
def d_law_is_table : Df := ⟨3, 2, (.cons (.ifs (.or (.not (.bi (.isI .tuple) (.cons (.var 0) .nil))) (.or (.cmp .ne (.bi .len (.cons (.var 0) .nil)) (.int 3)) (.or (.not (.call 0 (.cons (.idx (.var 0) (.int 0)) .nil))) (.one (.not (.call 0 (.cons (.idx (.var 0) (.int 1)) .nil))))))) b_law_is_table_1 .nil)
    (.cons (.ifs (.or (.cmp .ne (.slc (.var 0) .emp (.one (.int 2))) (.slc (.var 1) .emp (.one (.int 2)))) (.or (.not (.bi (.isI .tuple) (.cons (.idx (.var 0) (.int 2)) .nil))) (.one (.cmp .ne (.bi .len (.cons (.idx (.var 0) (.int 2)) .nil)) (.idx (.var 1) (.int 0)))))) b_law_is_table_0 .nil)
    (.cons (.ret (.bi .all (.cons (.comp (.call 1 (.cons (.idx (.idx (.var 0) (.int 2)) (.var 2)) (.cons (.idx (.idx (.var 1) (.int 2)) (.var 2)) .nil))) (.nm 2) (.r1 (.idx (.var 1) (.int 0))) .emp [2]) .nil)))
    .nil)))⟩
def s_law_is_table : List PyData → Option RV := runD (tabC [s_law_whole, s_law_rests] []) d_law_is_table
end Mn
namespace Mn
open PySem PySem.Spec PyProof.Rows
open L2 (atI ixN cutS)
def b_law_is_row_0 : Sms := (.cons (.ret (.bl false))
    .nil)
def b_law_is_row_1 : Sms := (.cons (.ret (.bl false))
    .nil)
def b_law_is_row_2 : Sms := (.cons (.ifs (.or (.not (.bi (.isI .tuple) (.cons (.var 2) .nil))) (.or (.cmp .ne (.bi .len (.cons (.var 2) .nil)) (.int 2)) (.one (.cmp .ne (.idx (.var 2) (.int 0)) (.idx (.var 3) (.int 0)))))) b_law_is_row_1 .nil)
    (.cons (.ifs (.or (.not (.bi (.isI .str) (.cons (.idx (.var 2) (.int 0)) .nil))) (.one (.not (.call 2 (.cons (.idx (.var 2) (.int 1)) (.cons (.idx (.var 3) (.int 1)) .nil)))))) b_law_is_row_0 .nil)
    (.del 2 (.del 3 .nil))))
def b_law_is_row_3 : Sms := (.cons (.ret (.bl false))
    .nil)
def b_law_is_row_4 : Sms := (.cons (.ret (.bl false))
    .nil)
def d_law_is_row : Df := ⟨4, 2, (.cons (.ifs (.or (.not (.bi (.isI .tuple) (.cons (.var 0) .nil))) (.or (.cmp .ne (.bi .len (.cons (.var 0) .nil)) (.int 3)) (.or (.not (.call 0 (.cons (.idx (.var 0) (.int 0)) .nil))) (.one (.cmp .ne (.idx (.var 0) (.int 0)) (.idx (.var 1) (.int 0))))))) b_law_is_row_4 .nil)
    (.cons (.ifs (.or (.not (.call 1 (.cons (.idx (.var 0) (.int 1)) (.cons (.idx (.var 1) (.int 1)) .nil)))) (.or (.not (.bi (.isI .tuple) (.cons (.idx (.var 0) (.int 2)) .nil))) (.one (.cmp .ne (.bi .len (.cons (.idx (.var 0) (.int 2)) .nil)) (.bi .len (.cons (.idx (.var 1) (.int 2)) .nil)))))) b_law_is_row_3 .nil)
    (.cons (.for_ (.tp [2, 3]) (.zip (.idx (.var 0) (.int 2)) (.idx (.var 1) (.int 2))) b_law_is_row_2)
    (.cons (.ret (.bl true))
    .nil))))⟩
def s_law_is_row : List PyData → Option RV := runD (tabC [s_law_whole, s_law_rests, s_law_is_table] []) d_law_is_row
end Mn
namespace Mn
open PySem PySem.Spec PyProof.Rows
open L2 (atI ixN cutS)
def d_ways_of : Df := ⟨3, 1, (.cons (.ret (.mt .join (.str "") (.cons (.comp (.var 1) (.tp [1, 2]) (.ex (.idx (.var 0) (.int 2))) .emp [1, 2]) .nil)))
    .nil)⟩
def s_ways_of : List PyData → Option RV := runD (tabC [] []) d_ways_of
end Mn
namespace Mn
open PySem PySem.Spec PyProof.Rows
open L2 (atI ixN cutS)
def d_law_truth : Df := ⟨2, 2, (.cons (.ret (.and (.bi (.isI .bool) (.cons (.var 0) .nil)) (.one (.cmp .eq (.var 0) (.var 1)))))
    .nil)⟩
def s_law_truth : List PyData → Option RV := runD (tabC [] []) d_law_truth
end Mn
namespace Mn
open PySem PySem.Spec PyProof.Rows
open L2 (atI ixN cutS)
def d_one_kind : Df := ⟨2, 2, (.cons (.ret (.and (.cmp .eq (.idx (.var 0) (.int 0)) (.idx (.var 1) (.int 0))) (.one (.cmp .eq (.call 0 (.cons (.var 0) .nil)) (.call 0 (.cons (.var 1) .nil))))))
    .nil)⟩
def s_one_kind : List PyData → Option RV := runD (tabC [s_ways_of] []) d_one_kind
end Mn
namespace Mn
open PySem PySem.Spec PyProof.Rows
open L2 (atI ixN cutS)
variable {α β γ δ σ ρ R κ : Type}
def lookA [DecidableEq κ] (x : List (κ × β)) (a : κ) : Option β := (x.find? fun p => decide (p.1 = a)).map fun p => p.2
def putA [DecidableEq κ] (x : List (κ × β)) (a : κ) (v : β) : List (κ × β) := if (lookA x a).isSome then x.map (fun p => if p.1 = a then (p.1, v) else p) else x ++ [(a, v)]
def dkR (f : β → PyData) (x : List (Int × β)) : List (PyData × PyData) := (.none, .bool false) :: x.map fun p => (PyData.int p.1, f p.2)
abbrev encD (e : α → List (PyData × PyData)) (x : α) : PyData := .dict (e x)
abbrev odv (e : α → List (PyData × PyData)) (x : α) : RV := .od (e x)
structure KeyR [DecidableEq κ] (rows : List (κ × β) → List (PyData × PyData)) (ek : κ → PyData) (f : β → PyData) : Prop where
  get : ∀ x i, dGet (rows x) (ek i) = some ((lookA x i).map f)
  put : ∀ x i v, dPut (rows x) (ek i) (f v) = some (rows (putA x i v))
  row : ∀ x, dRows (.dict (rows x)) = some (x.map fun p => (ek p.1, f p.2))
section
variable {c : Cl} {env : Ev} {r : Sms} {bs : List Sms} {P : R → Out → Prop} [DecidableEq κ] {rows : List (κ × β) → List (PyData × PyData)} {ek : κ → PyData} {f : β → PyData}
end
end Mn
namespace Mn
open PySem PySem.Spec PyProof.Rows
section
variable {β : Type} {c : Cl} {env : Ev}
end
section
variable {c : Cl} {env : Ev}
end
section
variable {c : Cl} {env : Ev}
end
end Mn
namespace Mn
open PySem PySem.Spec PyProof.Rows
open L2 (atI ixN cutS)
variable {α β γ δ σ ρ R : Type}
inductive Exn where
  | e0 (nm : Str)
  | e1 (nm f : Str) (i : Int)
def Exn.nm : Exn → Str
  | .e0 nm => nm
  | .e1 nm _ _ => nm
inductive Xr (ρ : Type) where
  | ok (x : ρ)
  | ex (e : Exn)
section
variable {c : Cl} {env : Ev} {P : R → Out → Prop} {bs : List Sms} {r : Sms}
end
end Mn
namespace Mn
open PySem PySem.Spec PyProof.Rows
open L2 (atI ixN cutS)
abbrev lfT {α : Type} (e : α → PyData) : α → OT := fun x => .lf (e x)
abbrev lsT {α : Type} (e : α → OT) : List α → OT := fun xs => .nd .ls (xs.map e)
variable {α β γ δ σ ρ R : Type}
theorem noOb_ls {e : α → OT} (h : ∀ x, (e x).noOb = true) (xs : List α) : (lsT e xs).noOb = true := by
  show (!Kd.isOb .ls && OT.noObs (xs.map e)) = true
  have : ∀ ys : List α, OT.noObs (ys.map e) = true := fun ys => by
    induction ys with
    | nil => rfl
    | cons y r ih =>
      show ((e y).noOb && OT.noObs (r.map e)) = true
      rw [h, ih]
      rfl
  rw [this]
  rfl
theorem d_ls {e : α → OT} {f : α → PyData} (h : ∀ x, (e x).d = f x) (xs : List α) : (lsT e xs).d = encL f xs := by
  show PyData.list (OT.ds (xs.map e)) = .list (xs.map f)
  have : ∀ ys : List α, OT.ds (ys.map e) = ys.map f := fun ys => by
    induction ys with
    | nil => rfl
    | cons y r ih =>
      show (e y).d :: OT.ds (r.map e) = _
      rw [h, ih]
      rfl
  rw [this]
section
variable {c : Cl} {env : Ev}
theorem root_of {i : Nat} {pw : List (List Stp)} {t : OT} (h : (env[i]?).join = some (.tr pw t)) : rootAt env i = some t := by
  show ((env[i]?).join).bind _ = _
  rw [h]
  rfl
theorem tree_of {i : Nat} {pw : List (List Stp)} {t u : OT} {w : List Stp} (h : (env[i]?).join = some (.tr pw t)) (hs : t.sub w = some u) : treeAt env i w = some u := by
  show (rootAt env i).bind _ = _
  rw [root_of h]
  exact hs
theorem p_nm {i : Nat} {pw : List (List Stp)} {t : OT} (h : (env[i]?).join = some (.tr pw t)) : evP c env (.nm i) = some (i, []) := by
  show ((env[i]?).join).bind _ = _
  rw [h]
  rfl
theorem set_of_tree {i : Nat} {w : List Stp} {pw : List (List Stp)} {t u : OT} (h : (env[i]?).join = some (.tr pw t)) : setTree env i w u = some (env.set i (some (.tr pw (t.put w u)))) := by
  show ((env[i]?).join).bind _ = _
  rw [h]
  rfl
end
section
variable {c : Cl} {env : Ev} {P : R → Out → Prop} {bs : List Sms} {r : Sms}
theorem s_tnw {M : Option R} {i : Nat} (ha : noAl env i = true) (h : SimS (runS c (r :: bs) (env.set i (some (.tr [] (.nd .ls []))))) M P) : SimS (runS c (.cons (.tnw i) r :: bs) env) M P :=
  s_step (by simp only [exS]; exact if_pos ha) h
end
end Mn
namespace Mn
open PySem PySem.Spec PyProof.Rows
open L2 (atI ixN cutS)
variable {α β γ δ σ ρ τ R : Type}
section
variable {c : Cl} {env : Ev}
end
section
variable {c : Cl} {env : Ev} {P : R → Out → Prop} {bs : List Sms} {r : Sms}
theorem s_asT {eT : β → OT} {M : Option β} {K : β → Option R} {i f : Nat} {es : Exs} {ds : List PyData} (he : evb c env es = some (ds, false)) (hc : Sim (c.callr f ds) M eT) (ha : noAl env i = true) (h : ∀ v, SimS (runS c (r :: bs) (env.set i (some (.tr [] (eT v))))) (K v) P) : SimS (runS c (.cons (.asT i f es) r :: bs) env) (M.bind K) P := fun w q1 => by
  obtain ⟨v, q2, q3⟩ := bind_of q1
  refine s_step ?_ (h v) w q3
  simp only [exS]
  rw [he, Option.bind_some]
  show (if false = true then none else _) = _
  rw [if_neg Bool.false_ne_true, hc v q2]
  exact if_pos ha
theorem s_rtV {v : R} {i : Nat} {t : OT} (hi : (env[i]?).join = some (.tr [] t)) (hP : P v (.rt (.tr [] t))) : SimS (runS c (.cons (.rtV i) r :: bs) env) (some v) P := fun w q => by
  cases q
  refine ⟨_, run_stop (fun _ => rfl) ?_, hP⟩
  simp only [exS]
  rw [hi]
  rfl
end
def PT (q : Nat) (pw : List (List Stp)) (φ : ρ → RV) (eT : τ → OT) : ρ × τ → Out → Prop := fun v o => ∃ env', (o = .re (φ v.1) env' ∨ (o = .nx env' ∧ φ v.1 = .fz .none)) ∧ (env'[q]?).join = some (.tr pw (eT v.2))
theorem s_defR {c : Cl} {f : Df} {ds : List PyData} {M : Option ρ} {eT : ρ → OT} (hl : ds.length = f.np) (h : SimS (runS c [f.body] (ds.map (fun d => some (RV.fz d)) ++ List.replicate (f.n - f.np) none)) M (fun v o => o = .rt (.tr [] (eT v)))) : Sim (runR c f ds) M eT := fun v e => by
  obtain ⟨o, h1, rfl⟩ := h v e
  rw [exSs_run] at h1
  unfold runR
  rw [if_pos hl, h1]
  rfl
end Mn
namespace Mn
open PySem PySem.Spec PyProof.Rows
section
variable {c : Cl} {env : Ev} {α : Type}
end
end Mn
namespace Mn
open PySem PySem.Spec PyProof.Rows
open L2 (atI ixN cutS)
variable {α β γ δ σ ρ τ R κ : Type}
abbrev dkT (f : β → PyData) (d : List (Int × β)) : OT := .dk (d.map fun x => x.1) (d.map fun x => f x.2)
section
variable {c : Cl} {env : Ev}
end
section
variable {c : Cl} {env : Ev} {P : R → Out → Prop} {bs : List Sms} {r : Sms}
end
end Mn
namespace Mn
open PySem PySem.Spec PyProof.Rows
open L2 (atI ixN cutS)
structure Spl where
  p : Int
  births : List Int
  ends : List (Option Int)
  loads : List (List (Int × List Int))
  order : List Int
abbrev SPF : List Str := ["p", "births", "ends", "loads", "order"]
abbrev OFS : List (Str × Str) := [("Splitting", "p"), ("Splitting", "births"), ("Splitting", "ends"), ("Splitting", "loads"), ("Splitting", "order")]
abbrev hereT : List (Int × List Int) → OT := dkT (encU PyData.int)
abbrev hereR : List (Int × List Int) → List (PyData × PyData) := dkR (encU PyData.int)
abbrev splN (p b e l o : OT) : OT := .nd (.ob "Splitting" SPF) [p, b, e, l, o]
abbrev splT (s : Spl) : OT := splN (.lf (.int s.p)) (lsT (lfT PyData.int) s.births) (lsT (lfT (encO PyData.int)) s.ends) (lsT hereT s.loads) (lsT (lfT PyData.int) s.order)
section
variable (p b e l o : OT) (r : List Stp) (u : OT)
end
section
variable {c : Cl} {env : Ev} {i : Nat} {pw : List (List Stp)} {s : Spl}
end
end Mn
namespace Mn
open PySem PySem.Spec PyProof.Rows
open L2 (atI ixN cutS)
variable {α β γ δ σ ρ τ R κ : Type}
section
variable {c : Cl} {env : Ev} {P : R → Out → Prop} {bs : List Sms} {r : Sms}
end
end Mn
namespace Mn
open PySem PySem.Spec PyProof.Rows
open L2 (atI ixN cutS)
variable {α β γ δ σ ρ τ R : Type}
section
variable {c : Cl} {env : Ev} {P : R → Out → Prop} {bs : List Sms} {r : Sms}
end
abbrev tpT2 {α β : Type} (e : α → OT) (f : β → OT) : α × β → OT := fun x => .nd .tp [e x.1, f x.2]
abbrev tpT3 {α β γ : Type} (e : α → OT) (f : β → OT) (g : γ → OT) : α × β × γ → OT := fun x => .nd .tp [e x.1, f x.2.1, g x.2.2]
theorem nob_lf {e : α → PyData} (x : α) : (lfT e x).noOb = true := rfl
theorem d_lf {e : α → PyData} (x : α) : (lfT e x).d = e x := rfl
theorem d_P2 {e : α → OT} {f : β → OT} {e' : α → PyData} {f' : β → PyData} (he : ∀ x, (e x).d = e' x) (hf : ∀ x, (f x).d = f' x) (x : α × β) : (tpT2 e f x).d = encP2 e' f' x := by
  show PyData.tuple [(e x.1).d, (f x.2).d] = .tuple [e' x.1, f' x.2]
  rw [he, hf]
section
variable {c : Cl} {env : Ev}
end
section
variable {c : Cl} {env : Ev} {P : R → Out → Prop} {bs : List Sms} {r : Sms}
end
end Mn
namespace Mn
open PySem PySem.Spec PyProof.Rows
open L2 (atI ixN cutS)
section
variable {α β γ δ σ ρ τ R : Type} {c : Cl} {env : Ev} {P : R → Out → Prop} {bs : List Sms} {r : Sms}
end
abbrev idA : PyData → PyData := fun d => d
section
variable {c : Cl} {env : Ev}
end
def oo (e : α → PyData) : Option (List α) → RV
  | none => .fz .none
  | some xs => .ol (xs.map e)
end Mn
namespace Mn
open PySem PySem.Spec PyProof.Rows
open L2 (atI ixN cutS)
def b_law_handed_v2_0 : Sms := (.cons (.unp [5, 6] (.idx (.idx (.var 1) (.int 2)) (.var 3)))
    (.cons (.asg 4 (.bin .sub (.bin .mod (.call 0 (.cons (.var 0) (.cons (.bin .add (.int 120) (.var 3)) .nil))) (.int 2001)) (.int 1000)))
    (.cons (.tapP (.nm 2) (.var 5) (.comp (.bin .add (.var 8) (.bin .mul (.idx (.var 1) (.int 0)) (.var 4))) (.nm 8) (.ex (.var 7)) .emp [8]) (.nm 7) (.ex (.idx (.var 6) (.int 2))) [7])
    (.del 3 (.del 4 (.del 5 (.del 6 .nil)))))))
def d_law_handed_v2 : Df := ⟨9, 2, (.cons (.tnw 2)
    (.cons (.for_ (.nm 3) (.r1 (.bi .len (.cons (.idx (.var 1) (.int 2)) .nil))) b_law_handed_v2_0)
    (.cons (.rtV 2)
    .nil)))⟩
def r_law_handed_v2 : List PyData → Option OT := runR (tabC [s_law_mix] []) d_law_handed_v2
end Mn
namespace Mn
open PySem PySem.Spec PyProof.Rows
open L2 (atI ixN cutS)
def b_law_k10_0 : Sms := (.cons (.asg 11 (.var 2))
    (.del 10 .nil))
def b_law_k10_1 : Sms := (.del 10 .nil)
def b_law_k10_2 : Sms := (.cons (.ret (.bl false))
    .nil)
def d_law_k10 : Df := ⟨16, 1, (.cons (.asg 1 (.idx (.lst (.cons (.int 2) (.cons (.int 3) (.cons (.int 5) (.cons (.int 7) .nil))))) (.bin .mod (.call 0 (.cons (.var 0) (.cons (.int 0) .nil))) (.int 4))))
    (.cons (.asg 2 (.call 1 (.cons (.call 0 (.cons (.var 0) (.cons (.int 1) .nil))) .nil)))
    (.cons (.asg 3 (.call 2 (.cons (.var 0) (.cons (.int 2) (.cons (.var 1) (.cons (.var 2) (.cons (.int 5) .nil)))))))
    (.cons (.asT 4 0 (.cons (.var 0) (.cons (.var 3) .nil)))
    (.hnd ⟨4, 5, 9, 10, 6, 7, (.comp (.tup (.cons (.var 6) (.cons (.comp (.bi .list (.cons (.var 8) .nil)) (.nm 8) (.ex (.var 7)) .emp [8]) .nil))) (.tp [6, 7]) (.ex (.var 4)) .emp [6, 7]), (.bi .list (.cons (.idx (.var 3) (.int 1)) .nil)), (.call 3 (.cons (.var 1) (.cons (.var 9) (.cons (.var 4) .nil)))), (.or (.cmp .ne (.var 4) (.var 5)) (.one (.cmp .ne (.var 9) (.bi .list (.cons (.idx (.var 3) (.int 1)) .nil)))))⟩
    (.cons (.ifs (.or (.not (.call 4 (.cons (.var 10) (.cons (.var 3) .nil)))) (.or (.cmp .ne (.call 5 (.cons (.var 10) .nil)) (.var 2)) (.one (.not (.bi (.isI .str) (.cons (.call 5 (.cons (.var 10) .nil)) .nil)))))) b_law_k10_2 .nil)
    (.cons (.asg 11 (.call 1 (.cons (.call 0 (.cons (.var 0) (.cons (.int 59) .nil))) .nil)))
    (.cons (.ifs (.cmp .eq (.bin .mod (.bin .fdiv (.call 0 (.cons (.var 0) (.cons (.int 59) .nil))) (.int 200)) (.int 2)) (.int 1)) b_law_k10_0 b_law_k10_1)
    (.cons (.asg 12 (.call 2 (.cons (.var 0) (.cons (.int 60) (.cons (.idx (.lst (.cons (.int 2) (.cons (.int 3) (.cons (.int 5) (.cons (.int 7) .nil))))) (.bin .mod (.call 0 (.cons (.var 0) (.cons (.int 58) .nil))) (.int 4))) (.cons (.var 11) (.cons (.int 3) .nil)))))))
    (.cons (.asg 13 (.call 2 (.cons (.var 0) (.cons (.int 60) (.cons (.var 1) (.cons (.var 2) (.cons (.int 4) .nil)))))))
    (.cons (.asg 14 (.and (.cmp .eq (.var 1) (.idx (.var 12) (.int 0))) (.one (.cmp .eq (.var 2) (.mt .join (.str "") (.cons (.comp (.var 6) (.tp [6, 15]) (.ex (.idx (.var 12) (.int 2))) .emp [6, 15]) .nil))))))
    (.cons (.ret (.and (.call 6 (.cons (.call 7 (.cons (.var 3) (.cons (.var 12) .nil))) (.cons (.var 14) .nil))) (.one (.call 6 (.cons (.call 7 (.cons (.var 3) (.cons (.var 13) .nil))) (.cons (.bl true) .nil))))))
    .nil))))))))))))⟩
abbrev tt_law_k10 : TTab := ⟨[], [r_law_handed_v2], [], [], [], [], [], [], []⟩
def s_law_k10 : List PyData → Option RV := runD (tabT [s_law_mix, s_law_ways, s_law_row, s_row_of_v2, s_law_is_row, s_ways_of, s_law_truth, s_one_kind] [] [] {} tt_law_k10) d_law_k10
end Mn
namespace Lk10
open PySem PySem.Spec PyProof.Rows L2 Mn
abbrev topS (i : Nat) : Stmt := PySem.Challenge.pw_barsplit_k10_rows_made.main.body.getD i (.Pass ⟨0, 0, 0, 0⟩)
abbrev t__law_mix : Stmt := topS 21
theorem c__law_mix : chkD [] [] ["_law_script", "_law_k", "_law_cell", "_law_digits", "_law_turn"] ["_law_script", "_law_k"] d_law_mix t__law_mix = true := by decide +kernel
abbrev t__law_ways : Stmt := topS 26
theorem c__law_ways : chkD [] [] ["_law_cell", "_law_many", "_law_k"] ["_law_cell"] d_law_ways t__law_ways = true := by decide +kernel
abbrev t__law_table : Stmt := topS 25
theorem c__law_table : chkD ["_law_mix"] [] ["_law_script", "_law_at", "_law_p", "_law_high", "_law_wide", "_law_rows", "_law_i", "_law_row_here", "_law_j", "_law_cell"] ["_law_script", "_law_at", "_law_p", "_law_high", "_law_wide"] d_law_table t__law_table = true := by decide +kernel
abbrev t__law_row : Stmt := topS 27
theorem c__law_row : chkD ["_law_mix", "_law_table"] [] ["_law_script", "_law_at", "_law_p", "_law_ways_here", "_law_most", "_law_widths", "_law_k", "_law_arrows", "_law_sizes"] ["_law_script", "_law_at", "_law_p", "_law_ways_here", "_law_most"] d_law_row t__law_row = true := by decide +kernel
abbrev t_look_at_widths : Stmt := topS 14
theorem c_look_at_widths : chkD [] ["MOST_ROOMS", "MOST_WIDTH"] ["widths", "width"] ["widths"] d_look_at_widths t_look_at_widths = true := by decide +kernel
abbrev t_size_at : Stmt := topS 15
theorem c_size_at : chkD [] [] ["widths", "k", "way"] ["widths", "k", "way"] d_size_at t_size_at = true := by decide +kernel
abbrev t_table_of : Stmt := topS 10
theorem c_table_of : chkD [] ["PRIMES", "MOST"] ["p", "high", "wide", "rows", "told", "row", "number"] ["p", "high", "wide", "rows"] d_table_of t_table_of = true := by decide +kernel
abbrev t_arrow_of : Stmt := topS 16
theorem c_arrow_of : chkD ["size_at", "table_of"] [] ["p", "widths", "k", "pair", "way", "rows", "high", "wide", "table"] ["p", "widths", "k", "pair"] d_arrow_of t_arrow_of = true := by decide +kernel
abbrev t_row_of : Stmt := topS 17
theorem c_row_of : chkD ["look_at_widths", "arrow_of"] ["PRIMES"] ["p", "widths", "arrows", "told", "k", "pair"] ["p", "widths", "arrows"] d_row_of_v2 t_row_of = true := by decide +kernel
abbrev t__law_whole : Stmt := topS 22
theorem c__law_whole : chkD [] [] ["_law_found"] ["_law_found"] d_law_whole t__law_whole = true := by decide +kernel
abbrev t__law_rests : Stmt := topS 23
theorem c__law_rests : chkD ["_law_whole"] [] ["_law_found", "_law_due", "_law_one"] ["_law_found", "_law_due"] d_law_rests t__law_rests = true := by decide +kernel
abbrev t__law_is_table : Stmt := topS 24
theorem c__law_is_table : chkD ["_law_whole", "_law_rests"] [] ["_law_found", "_law_due", "_law_k"] ["_law_found", "_law_due"] d_law_is_table t__law_is_table = true := by decide +kernel
abbrev t__law_is_row : Stmt := topS 28
theorem c__law_is_row : chkD ["_law_whole", "_law_rests", "_law_is_table"] [] ["_law_found", "_law_due", "_law_arrow", "_law_other"] ["_law_found", "_law_due"] d_law_is_row t__law_is_row = true := by decide +kernel
abbrev t_ways_of : Stmt := topS 18
theorem c_ways_of : chkD [] [] ["row", "way", "table"] ["row"] d_ways_of t_ways_of = true := by decide +kernel
abbrev t__law_truth : Stmt := topS 30
theorem c__law_truth : chkD [] [] ["_law_found", "_law_due"] ["_law_found", "_law_due"] d_law_truth t__law_truth = true := by decide +kernel
abbrev t_one_kind : Stmt := topS 19
theorem c_one_kind : chkD ["ways_of"] [] ["one", "other"] ["one", "other"] d_one_kind t_one_kind = true := by decide +kernel
abbrev t__law_handed : Stmt := topS 29
theorem cR__law_handed : chkD ["_law_mix"] [] ["_law_script", "_law_row_here", "_law_pairs", "_law_k", "_law_off", "_law_way", "_law_table_here", "_law_figs", "_law_number"] ["_law_script", "_law_row_here"] d_law_handed_v2 t__law_handed = true := by decide +kernel
abbrev t_law : Stmt := topS 31
theorem c_law : chkDT ["_law_mix", "_law_ways", "_law_row", "row_of", "_law_is_row", "ways_of", "_law_truth", "one_kind"] [] [] ⟨[], ["_law_handed"], []⟩ ["_law_script", "_law_p", "_law_ways_here", "_law_due", "_law_pairs", "_law_stay", "_law_way", "_law_rows", "_law_figs", "_law_widths", "_law_found", "_law_far", "_law_other", "_law_near", "_law_like", "_law_table_here"] ["_law_script"] d_law_k10 t_law = true := by decide +kernel
end Lk10
namespace Mn
open PySem PySem.Spec PyProof.Rows L2
section
variable {c : Cl} {env : Ev} {r : Sms} {bs : List Sms} {R α β δ : Type} {P : R → Out → Prop}
abbrev prT {δ β : Type} (e : δ → PyData) (f : β → PyData) : δ × List (List β) → OT := tpT2 (lfT e) (lsT (lsT (lfT f)))
theorem s_tnw0 {K : List α → Option R} {i : Nat} {t : α → OT} (ha : noAl env i = true) (h : SimS (runS c (r :: bs) (env.set i (some (.tr [] (lsT t []))))) (K []) P) : SimS (runS c (.cons (.tnw i) r :: bs) env) ((some ([] : List α)).bind K) P :=
  s_tnw ha h
theorem s_tapP {e0 : δ → PyData} {e : α → PyData} {f : β → PyData} {d0 b : Ex} {tg : Tg} {it : Mn.Itr} {own : List Nat} {x : List α} {z : δ} {F : α → Option (List β)} {K : List (δ × List (List β)) → Option R} {p : Pth} {q : Nat × List Stp} {xs : List (δ × List (List β))} (hp : evP c env p = some q) (ht : treeAt env q.1 q.2 = some (lsT (prT e0 f) xs)) (hd : ev c env d0 = some (.fz (e0 z))) (hi : Sim (evi c env it) (some x) (List.map e))
    (hf : ∀ y : α, ∃ env', bindT tg (wipeE env own) (e y) = some env' ∧ Sim (ev c env' b) (F y) (ol f)) (hv : isVar b = false) {E : List (δ × List (List β)) → Ev} (hs : ∀ v, setTree env q.1 q.2 (lsT (prT e0 f) v) = some (E v)) (h : ∀ v, SimS (runS c (r :: bs) (E v)) (K v) P) : SimS (runS c (.cons (.tapP p d0 b tg it own) r :: bs) env) ((mapG x F).bind fun y => (appG xs (z, y)).bind K) P := fun w q1 => by
  obtain ⟨y, q2, q3⟩ := bind_of q1
  obtain ⟨v, q4, q5⟩ := bind_of q3
  refine s_step (env' := E v) ?_ (h v) w q5
  have hx : evi c env it = some (x.map e) := hi x rfl
  have hm : x.length ≤ LIM ∧ mapO F x = some y := by
    unfold mapG at q2
    split at q2
    · exact ⟨by assumption, q2⟩
    · cases q2
  have ha : xs.length < LIM ∧ v = xs ++ [(z, y)] := by
    unfold appG at q4
    split at q4
    · cases q4; exact ⟨by assumption, rfl⟩
    · cases q4
  obtain ⟨ha, rfl⟩ := ha
  have hcd : compD (fun x => (bindT tg (wipeE env own) x).bind fun env' => (ev c env' b).bind fun r => if isVar b then none else asRow r) (x.map e) = some (y.map fun ds => ds.map f) := by
    have key : ∀ (x : List α) (y : List (List β)), mapO F x = some y → compD (fun x => (bindT tg (wipeE env own) x).bind fun env' => (ev c env' b).bind fun r => if isVar b then none else asRow r) (x.map e) = some (y.map fun ds => ds.map f) := fun x => by
      induction x with
      | nil => intro y h; cases h; rfl
      | cons a x ih =>
        intro y h
        obtain ⟨z, h1, h⟩ := bind_of (show (F a).bind (fun y => (mapO F x).bind fun ys => some (y :: ys)) = some y from h)
        obtain ⟨zs, h2, h⟩ := bind_of h
        cases h
        obtain ⟨env', k1, k2⟩ := hf a
        show (compD _ (e a :: x.map e)) = _
        unfold compD
        have h3 : (if isVar b = true then none else asRow (ol f z)) = some (z.map f) := by
          rw [hv]
          rfl
        rw [k1, Option.bind_some, k2 z h1, Option.bind_some, h3, Option.bind_some, ih zs h2]
        rfl
    exact key x y hm.2
  have hown : ownD d0 (.fz (e0 z)) = some (e0 z) := by
    unfold ownD
    rw [if_neg (by cases isVar d0 <;> simp [RV.isOwn])]
    rfl
  simp only [exS]
  rw [hp, Option.bind_some, hd, Option.bind_some, hown, Option.bind_some, hx, Option.bind_some, hcd, Option.bind_some, ht]
  show (if (x.map e).length ≤ LIM ∧ (xs.map (prT e0 f)).length < LIM then _ else _) = _
  rw [if_pos ⟨by rw [List.length_map]; exact hm.1, by rw [List.length_map]; exact ha⟩]
  have e1 : (xs.map (prT e0 f)) ++ [OT.nd .tp [.lf (e0 z), .nd .ls ((y.map fun ds => ds.map f).map fun ds => .nd .ls (ds.map .lf))]] = (xs ++ [(z, y)]).map (prT e0 f) := by
    rw [List.map_append]
    congr 1
    show [OT.nd .tp [.lf (e0 z), OT.nd .ls _]] = [OT.nd .tp [.lf (e0 z), OT.nd .ls (y.map (lsT (lfT f)))]]
    rw [List.map_map]
    have : ((fun ds => OT.nd Kd.ls (List.map OT.lf ds)) ∘ fun ds => List.map f ds) = lsT (lfT f) := by
      funext ds
      show OT.nd .ls ((ds.map f).map .lf) = OT.nd .ls (ds.map (lfT f))
      rw [List.map_map]
      rfl
    rw [this]
  rw [e1]
  show (setTree env q.1 q.2 (lsT (prT e0 f) (xs ++ [(z, y)]))).map Out.nx = _
  rw [hs]
  rfl
theorem prs_map {e : δ → PyData} {f : β → PyData} : ∀ xs : List (δ × List (List β)), OT.prs (xs.map (prT e f)) = true
  | [] => rfl
  | x :: xs => by
    have h1 : (lsT (lsT (lfT f)) x.2).noOb = true := noOb_ls (fun y => noOb_ls (fun z => nob_lf z) y) x.2
    show (OT.noObs (x.2.map (lsT (lfT f))) && OT.prs (xs.map (prT e f))) = true
    rw [prs_map xs, Bool.and_true]
    have h1 : (!Kd.isOb .ls && OT.noObs (x.2.map (lsT (lfT f)))) = true := h1
    rw [Bool.and_eq_true] at h1
    exact h1.2
theorem ds_map {e : δ → PyData} {f : β → PyData} (xs : List (δ × List (List β))) : PyData.list (OT.ds (xs.map (prT e f))) = encL (encP2 e (encL (encL f))) xs :=
  d_ls (e := prT e f) (f := encP2 e (encL (encL f))) (fun x => d_P2 (fun y => d_lf y) (fun y => d_ls (fun z => d_ls (fun u => d_lf u) z) y) x) xs
theorem s_hnd {h : Hnd} {e0 : δ → PyData} {f : β → PyData} {xs : List (δ × List (List β))} {α1 α2 α3 : Type} {M1 : Option (List α1)} {M2 : List α1 → Option (List α2)} {M3 : List α1 → List α2 → Option α3} {M4 : List α1 → List α2 → α3 → Option Bool} {f1 : α1 → PyData} {f2 : α2 → PyData} {f3 : α3 → PyData} {N : Option R} {K : α3 → Option R}
    (hr : (env[h.ip]?).join = some (.tr [] (lsT (prT e0 f) xs))) (g2 : fzEv (env.set h.ip none) = true) (g3 : h.sl.Nodup) (g4 : h.sl.all (fun i => decide (i < env.length)) = true) (v1 : isVar h.e1 = false) (v2 : isVar h.e2 = false)
    (h1 : Sim (ev c (env.set h.ip (some (.fz (encL (encP2 e0 (encL (encL f))) xs)))) h.e1) M1 (ol f1))
    (h2 : ∀ x1, Sim (ev c ((env.set h.ip (some (.fz (encL (encP2 e0 (encL (encL f))) xs)))).set h.i1 (some (.fz (encL f1 x1)))) h.e2) (M2 x1) (ol f2))
    (h3 : ∀ x1 x2, Sim (ev c (((env.set h.ip (some (.fz (encL (encP2 e0 (encL (encL f))) xs)))).set h.i1 (some (.fz (encL f1 x1)))).set h.i2 (some (.fz (encL f2 x2)))) h.e3) (M3 x1 x2) (fz f3))
    (h4 : ∀ x1 x2 x3, Sim (ev c ((((env.set h.ip (some (.fz (encL (encP2 e0 (encL (encL f))) xs)))).set h.i1 (some (.fz (encL f1 x1)))).set h.i2 (some (.fz (encL f2 x2)))).set h.i3 (some (.fz (f3 x3)))) h.e4) (M4 x1 x2 x3) (fz PyData.bool))
    (hfl : ∀ x, flatD (f3 x) = true) (hN : ∀ w, N = some w → P w (.rt (.fz (.bool false)))) (hk : ∀ x3, SimS (runS c (r :: bs) (hndE h env (f3 x3))) (K x3) P) :
    SimS (runS c (.hnd h r :: bs) env) (M1.bind fun x1 => (M2 x1).bind fun x2 => (M3 x1 x2).bind fun x3 => (M4 x1 x2 x3).bind fun k => if k = true then N else K x3) P := fun w q => by
  obtain ⟨x1, q1, q⟩ := bind_of q
  obtain ⟨x2, q2, q⟩ := bind_of q
  obtain ⟨x3, q3, q⟩ := bind_of q
  obtain ⟨k, q4, q⟩ := bind_of q
  have e1 := h1 x1 q1
  have e2 := h2 x1 x2 q2
  have e3 := h3 x1 x2 x3 q3
  have e4 := h4 x1 x2 x3 k q4
  have o1 : ownD h.e1 (ol f1 x1) = some (encL f1 x1) := by
    unfold ownD
    rw [v1]
    rfl
  have hd : hndD c h env = if k = true then some (.rt (.fz (.bool false))) else some (.nx (hndE h env (f3 x3))) := by
    unfold hndD
    rw [hr, Option.bind_some]
    show (if OT.prs (xs.map (prT e0 f)) = true ∧ _ then _ else _) = _
    rw [if_pos ⟨prs_map xs, g2, g3, fun i hi => of_decide_eq_true (List.all_eq_true.mp g4 i hi), v2⟩]
    simp only [ds_map]
    rw [e1, Option.bind_some, o1, Option.bind_some, e2, Option.bind_some]
    show (ev c _ h.e3).bind _ = _
    rw [e3, Option.bind_some]
    show (ev c _ h.e4).bind _ = _
    rw [e4, Option.bind_some]
    show (if k = true then some (Out.rt (.fz (.bool false))) else if flatD (f3 x3) = true then some (Out.nx (hndE h env (f3 x3))) else none) = _
    rw [hfl, if_pos rfl]
  have run : ∀ o, hndD c h env = some o → runS c (.hnd h r :: bs) env = match o with
      | .nx env' => runS c (r :: bs) env'
      | o => thenO o (runS c bs) := fun o e => by
    show (exSs c (.hnd h r) env).bind (fun o => thenO o (runS c bs)) = _
    simp only [exSs]
    rw [e, Option.bind_some]
    cases o <;> rfl
  cases k with
  | true => exact ⟨_, by rw [run _ hd]; rfl, hN w q⟩
  | false =>
    obtain ⟨o, r1, r2⟩ := hk x3 w q
    exact ⟨o, by rw [run _ hd]; exact r1, r2⟩
end
end Mn
namespace Mn
open PySem PySem.Spec PyProof.Rows
open L2 (atI ixN cutS)
def F_law_mix (v_script : List Int) (v_k : Int) : Option (Int) :=
  if (decide ((v_script.length : Int) = (0 : Int))) = true then
  ((mulG v_k v_k).bind fun (t1 : Int) =>
  (mulG t1 ((7919 : Int))).bind fun (t2 : Int) =>
  (mulG (t2 + ((11 : Int))) ((48271 : Int))).bind fun (t3 : Int) =>
  (modG t3 ((2147483647 : Int))).bind fun (t4 : Int) =>
  (mulG t4 ((69621 : Int))).bind fun (t5 : Int) =>
  modG t5 ((1000000007 : Int)))
  else
  ((modG v_k ((v_script.length : Int))).bind fun (t7 : Int) =>
  (atI v_script t7).bind fun (v_cell_9 : Int) =>
  (if (decide ((1 : Int) < (v_script.length : Int))) = true then ((atI v_script ((0 : Int))).bind fun (t10 : Int) => (modG t10 ((2 : Int))).bind fun (t11 : Int) => some (decide (t11 = (1 : Int)))) else some false).bind fun (t12 : Bool) =>
  if t12 = true then
  ((modG v_k (((v_script.length : Int)) - ((1 : Int)))).bind fun (t13 : Int) =>
  (atI v_script (((1 : Int)) + t13)).bind fun (v_digits_15 : Int) =>
  (fdivG v_k (((v_script.length : Int)) - ((1 : Int)))).bind fun (t17 : Int) =>
  (rng1 t17).bind fun (r18 : List Int) =>
  (foldO (fun (x19 : Int) (s16 : Int) =>
  (powG ((10 : Int)) ((9 : Int))).bind fun (t20 : Int) =>
  (fdivG s16 t20).bind fun (v_digits_22 : Int) =>
  some v_digits_22) r18 v_digits_15).bind fun (s16 : Int) =>
  (powG ((10 : Int)) ((9 : Int))).bind fun (t23 : Int) =>
  modG s16 t23)
  else
  ((powG ((10 : Int)) ((30 : Int))).bind fun (t25 : Int) =>
  (modG v_cell_9 t25).bind fun (t26 : Int) =>
  (mulG t26 ((48271 : Int))).bind fun (t27 : Int) =>
  (mulG v_k v_k).bind fun (t28 : Int) =>
  (mulG t28 ((7919 : Int))).bind fun (t29 : Int) =>
  (modG ((t27 + t29) + ((11 : Int))) ((2147483647 : Int))).bind fun (t30 : Int) =>
  (mulG t30 ((69621 : Int))).bind fun (t31 : Int) =>
  modG t31 ((1000000007 : Int))))
end Mn
namespace Mn
open PySem PySem.Spec PyProof.Rows
open L2 (atI ixN cutS)
def F_law_handed_v2 (v_script : List Int) (v_row_here : Int × List Int × List (Str × Int × Int × List (List Int))) : Option (List (Str × List (List Int))) :=
  (some (([] : List (Str × List (List Int))))).bind fun (v_pairs_1 : List (Str × List (List Int))) =>
  (rng1 ((v_row_here.2.2.length : Int))).bind fun (r3 : List Int) =>
  (foldO (fun (x4 : Int) (s2 : List (Str × List (List Int))) =>
  (atI v_row_here.2.2 x4).bind fun (t5 : Str × Int × Int × List (List Int)) =>
  (F_law_mix v_script (((120 : Int)) + x4)).bind fun (t6 : Int) =>
  (modG t6 ((2001 : Int))).bind fun (t7 : Int) =>
  (some (t7 - ((1000 : Int)))).bind fun (v_off_8 : Int) =>
  (mapG t5.2.2.2 fun (y10 : List Int) => mapG y10 fun (y11 : Int) => ((mulG v_row_here.1 v_off_8).bind fun (t12 : Int) => some (y11 + t12))).bind fun (t14 : List (List Int)) =>
  (appG s2 ((t5.1, t14))).bind fun (v_pairs_9 : List (Str × List (List Int))) =>
  some v_pairs_9) r3 v_pairs_1).bind fun (s2 : List (Str × List (List Int))) =>
  some s2
end Mn
namespace Mn
open PySem PySem.Spec PyProof.Rows
open L2 (atI ixN cutS)
def F_law_whole (v_found : Int) : Option (Bool) :=
  some ((true && (!false)))
end Mn
namespace Mn
open PySem PySem.Spec PyProof.Rows
open L2 (atI ixN cutS)
def F_law_rests (v_found : List Int) (v_due : List Int) : Option (Bool) :=
  if (((!true) || (!decide ((v_found.length : Int) = (v_due.length : Int))))) = true then
  (some false)
  else
  ((mapG v_found fun (y1 : Int) => F_law_whole y1).bind fun (t3 : List Bool) =>
  some (((t3.all id) && (decide (v_found = v_due)))))
end Mn
namespace Mn
open PySem PySem.Spec PyProof.Rows
open L2 (atI ixN cutS)
def F_law_is_table (v_found : Int × Int × List (List Int)) (v_due : Int × Int × List (List Int)) : Option (Bool) :=
  (if (!true) = true then some true else if (!decide ((3 : Int) = (3 : Int))) = true then some true else ((F_law_whole v_found.1).bind fun (t1 : Bool) => if (!t1) = true then some true else ((F_law_whole v_found.2.1).bind fun (t2 : Bool) => some (!t2)))).bind fun (t5 : Bool) =>
  if t5 = true then
  (some false)
  else
  (if (((!decide ((v_found.1, v_found.2.1) = (v_due.1, v_due.2.1))) || (((!true) || (!decide ((v_found.2.2.length : Int) = v_due.1)))))) = true then
  (some false)
  else
  ((rng1 v_due.1).bind fun (r6 : List Int) =>
  (mapG r6 fun (y7 : Int) => ((atI v_found.2.2 y7).bind fun (t8 : List Int) => (atI v_due.2.2 y7).bind fun (t9 : List Int) => F_law_rests t8 t9)).bind fun (t11 : List Bool) =>
  some (t11.all id)))
end Mn
namespace Mn
open PySem PySem.Spec PyProof.Rows
open L2 (atI ixN cutS)
def F_law_is_row (v_found : Int × List Int × List (Str × Int × Int × List (List Int))) (v_due : Int × List Int × List (Str × Int × Int × List (List Int))) : Option (Bool) :=
  (if (!true) = true then some true else if (!decide ((3 : Int) = (3 : Int))) = true then some true else ((F_law_whole v_found.1).bind fun (t1 : Bool) => some (((!t1) || (!decide (v_found.1 = v_due.1)))))).bind fun (t3 : Bool) =>
  if t3 = true then
  (some false)
  else
  ((F_law_rests v_found.2.1 v_due.2.1).bind fun (t4 : Bool) =>
  if (((!t4) || (((!true) || (!decide ((v_found.2.2.length : Int) = (v_due.2.2.length : Int))))))) = true then
  (some false)
  else
  ((loopO (ρ := Bool) (fun (x6 : (Str × Int × Int × List (List Int)) × Str × Int × Int × List (List Int)) (s5 : Unit) =>
  (if (!true) = true then some true else if (!decide ((2 : Int) = (2 : Int))) = true then some true else ((neG strOk x6.1.1 x6.2.1).bind fun (t7 : Bool) => some t7)).bind fun (t9 : Bool) =>
  if t9 = true then
  ((some false).bind fun r => some (Lp.rt r))
  else
  ((if (!true) = true then some true else ((F_law_is_table x6.1.2 x6.2.2).bind fun (t10 : Bool) => some (!t10))).bind fun (t11 : Bool) =>
  if t11 = true then
  ((some false).bind fun r => some (Lp.rt r))
  else
  (some (Lp.nx (()))))) (List.zip v_found.2.2 v_due.2.2) (())).bind (lpK (fun (s5 : Unit) => some true) fun v => some v)))
end Mn
namespace Mn
open PySem PySem.Spec PyProof.Rows
open L2 (atI ixN cutS)
def F_law_table (v_script : List Int) (v_at : Int) (v_p : Int) (v_high : Int) (v_wide : Int) : Option (Int × Int × List (List Int)) :=
  (some (([] : List (List Int)))).bind fun (v_rows_1 : List (List Int)) =>
  (rng1 v_high).bind fun (r3 : List Int) =>
  (foldO (fun (x4 : Int) (s2 : List (List Int)) =>
  (some (([] : List (Int)))).bind fun (v_row_5 : List Int) =>
  (rng1 v_wide).bind fun (r7 : List Int) =>
  (foldO (fun (x8 : Int) (s6 : List Int) =>
  (mulG x4 v_wide).bind fun (t9 : Int) =>
  (F_law_mix v_script ((v_at + t9) + x8)).bind fun (v_cell_11 : Int) =>
  (modG v_cell_11 v_p).bind fun (t13 : Int) =>
  (fdivG v_cell_11 ((7 : Int))).bind fun (t14 : Int) =>
  (modG t14 ((3 : Int))).bind fun (t15 : Int) =>
  (mulG t13 ((if (decide ((0 : Int) < t15)) = true then (1 : Int) else 0))).bind fun (t16 : Int) =>
  (appG s6 t16).bind fun (v_row_12 : List Int) =>
  some v_row_12) r7 v_row_5).bind fun (s6 : List Int) =>
  (appG s2 s6).bind fun (v_rows_17 : List (List Int)) =>
  some v_rows_17) r3 v_rows_1).bind fun (s2 : List (List Int)) =>
  some ((v_high, v_wide, s2))
end Mn
namespace Mn
open PySem PySem.Spec PyProof.Rows
open L2 (atI ixN cutS)
def F_law_row (v_script : List Int) (v_at : Int) (v_p : Int) (v_ways_here : Str) (v_most : Int) : Option (Int × List Int × List (Str × Int × Int × List (List Int))) :=
  (lenS v_ways_here).bind fun (t1 : Int) =>
  (rng1 (t1 + ((1 : Int)))).bind fun (r2 : List Int) =>
  (mapG r2 fun (y3 : Int) => ((F_law_mix v_script (v_at + y3)).bind fun (t4 : Int) => modG t4 v_most)).bind fun (t6 : List Int) =>
  (some t6).bind fun (v_widths_7 : List Int) =>
  (some (([] : List (Str × Int × Int × List (List Int))))).bind fun (v_arrows_8 : List (Str × Int × Int × List (List Int))) =>
  (lenS v_ways_here).bind fun (t10 : Int) =>
  (rng1 t10).bind fun (r11 : List Int) =>
  (foldO (fun (x12 : Int) (s9 : List (Str × Int × Int × List (List Int))) =>
  (atI v_widths_7 (x12 + ((1 : Int)))).bind fun (t13 : Int) =>
  (atI v_widths_7 x12).bind fun (t14 : Int) =>
  (some ((t13, t14))).bind fun (v_sizes_15 : Int × Int) =>
  (idxS v_ways_here x12).bind fun (t16 : Str) =>
  (eqG strOk t16 (("l" : Str))).bind fun (t17 : Bool) =>
  (if t17 = true then
  ((atI v_widths_7 x12).bind fun (t19 : Int) =>
  (atI v_widths_7 (x12 + ((1 : Int)))).bind fun (t20 : Int) =>
  (some ((t19, t20))).bind fun (v_sizes_21 : Int × Int) =>
  some v_sizes_21)
  else
  (some v_sizes_15) : Option (Int × Int)).bind fun (s18 : Int × Int) =>
  (idxS v_ways_here x12).bind fun (t23 : Str) =>
  (mulG ((17 : Int)) x12).bind fun (t24 : Int) =>
  (F_law_table v_script ((v_at + ((10 : Int))) + t24) v_p s18.1 s18.2).bind fun (t25 : Int × Int × List (List Int)) =>
  (appG s9 ((t23, t25))).bind fun (v_arrows_22 : List (Str × Int × Int × List (List Int))) =>
  some v_arrows_22) r11 v_arrows_8).bind fun (s9 : List (Str × Int × Int × List (List Int))) =>
  some ((v_p, v_widths_7, s9))
end Mn
namespace Mn
open PySem PySem.Spec PyProof.Rows
open L2 (atI ixN cutS)
def F_law_truth (v_found : Bool) (v_due : Bool) : Option (Bool) :=
  some ((true && (decide (v_found = v_due))))
end Mn
namespace Mn
open PySem PySem.Spec PyProof.Rows
open L2 (atI ixN cutS)
def F_law_ways (v_cell : Int) : Option (Str) :=
  (modG v_cell ((6 : Int))).bind fun (v_many_2 : Int) =>
  (rng1 v_many_2).bind fun (r3 : List Int) =>
  (mapG r3 fun (y4 : Int) => ((atI ([(6 : Int), (12 : Int), (24 : Int), (48 : Int), (96 : Int)]) y4).bind fun (t5 : Int) => (fdivG v_cell t5).bind fun (t6 : Int) => (modG t6 ((2 : Int))).bind fun (t7 : Int) => idxS (("rl" : Str)) t7)).bind fun (t9 : List Str) =>
  joinG (("" : Str)) t9
end Mn
namespace Mn
open PySem PySem.Spec PyProof.Rows
open L2 (atI ixN cutS)
def F_ways_of (v_row : Int × List Int × List (Str × Int × Int × List (List Int))) : Option (Str) :=
  (mapG v_row.2.2 fun (y1 : Str × Int × Int × List (List Int)) => some y1.1).bind fun (t2 : List Str) =>
  joinG (("" : Str)) t2
end Mn
namespace Mn
open PySem PySem.Spec PyProof.Rows
open L2 (atI ixN cutS)
def F_one_kind (v_one : Int × List Int × List (Str × Int × Int × List (List Int))) (v_other : Int × List Int × List (Str × Int × Int × List (List Int))) : Option (Bool) :=
  if (decide (v_one.1 = v_other.1)) = true then ((F_ways_of v_one).bind fun (t1 : Str) => (F_ways_of v_other).bind fun (t2 : Str) => (eqG strOk t1 t2).bind fun (t3 : Bool) => some t3) else some false
end Mn
namespace Mn
open PySem PySem.Spec PyProof.Rows
open L2 (atI ixN cutS)
def F_size_at (v_widths : List Int) (v_k : Int) (v_way : Str) : Option (Int × Int) :=
  (eqG strOk v_way (("r" : Str))).bind fun (t1 : Bool) =>
  if t1 = true then
  ((atI v_widths (v_k + ((1 : Int)))).bind fun (t2 : Int) =>
  (atI v_widths v_k).bind fun (t3 : Int) =>
  some ((t2, t3)))
  else
  ((atI v_widths v_k).bind fun (t4 : Int) =>
  (atI v_widths (v_k + ((1 : Int)))).bind fun (t5 : Int) =>
  some ((t4, t5)))
end Mn
namespace Mn
open PySem PySem.Spec PyProof.Rows
open L2 (atI ixN cutS)
def F_table_of (v_p : Int) (v_high : Int) (v_wide : Int) (v_rows : List (List Int)) : Option (Int × Int × List (List Int)) :=
  if (!decide (v_p ∈ [(((2 : Int), (3 : Int), (5 : Int), (7 : Int))).1, (((2 : Int), (3 : Int), (5 : Int), (7 : Int))).2.1, (((2 : Int), (3 : Int), (5 : Int), (7 : Int))).2.2.1, (((2 : Int), (3 : Int), (5 : Int), (7 : Int))).2.2.2])) = true then
  (none)
  else
  (if (((!((coI .le ((0 : Int)) v_high && coI .le v_high ((30 : Int))))) || (((!((coI .le ((0 : Int)) v_wide && coI .le v_wide ((30 : Int))))) || (!decide ((v_rows.length : Int) = v_high)))))) = true then
  (none)
  else
  ((some (([] : List (List Int)))).bind fun (v_told_1 : List (List Int)) =>
  (foldO (fun (x3 : List Int) (s2 : List (List Int)) =>
  if (!decide ((x3.length : Int) = v_wide)) = true then
  (none)
  else
  ((mapG x3 fun (y5 : Int) => modG y5 v_p).bind fun (t7 : List Int) =>
  (appG s2 t7).bind fun (v_told_4 : List (List Int)) =>
  some v_told_4)) v_rows v_told_1).bind fun (s2 : List (List Int)) =>
  some ((v_high, v_wide, s2))))
end Mn
namespace Mn
open PySem PySem.Spec PyProof.Rows
open L2 (atI ixN cutS)
def F_arrow_of (v_p : Int) (v_widths : List Int) (v_k : Int) (v_pair : Str × List (List Int)) : Option (Str × Int × Int × List (List Int)) :=
  if (!decide (v_pair.1 ∈ [("r" : Str), ("l" : Str)])) = true then
  (none)
  else
  ((F_size_at v_widths v_k v_pair.1).bind fun (t1 : Int × Int) =>
  (F_table_of v_p t1.1 t1.2 v_pair.2).bind fun (v_table_3 : Int × Int × List (List Int)) =>
  some ((v_pair.1, v_table_3)))
end Mn
namespace Mn
open PySem PySem.Spec PyProof.Rows
open L2 (atI ixN cutS)
def F_look_at_widths (v_widths : List Int) : Option (Unit) :=
  if (((!((coI .le ((1 : Int)) ((v_widths.length : Int)) && coI .le ((v_widths.length : Int)) ((6 : Int))))) || (decide ((30 : Int) < v_widths.sum)))) = true then
  (none)
  else
  ((foldO (fun (x2 : Int) (s1 : Unit) =>
  if (decide (x2 < (0 : Int))) = true then
  (none)
  else
  (some (()))) v_widths (())).bind fun (s1 : Unit) =>
  some ())
end Mn
namespace Mn
open PySem PySem.Spec PyProof.Rows
open L2 (atI ixN cutS)
def F_row_of_v2 (v_p : Int) (v_widths : List Int) (v_arrows : List (Str × List (List Int))) : Option (Int × List Int × List (Str × Int × Int × List (List Int))) :=
  if (!decide (v_p ∈ [(((2 : Int), (3 : Int), (5 : Int), (7 : Int))).1, (((2 : Int), (3 : Int), (5 : Int), (7 : Int))).2.1, (((2 : Int), (3 : Int), (5 : Int), (7 : Int))).2.2.1, (((2 : Int), (3 : Int), (5 : Int), (7 : Int))).2.2.2])) = true then
  (none)
  else
  ((F_look_at_widths v_widths).bind fun (t1 : Unit) =>
  if (!decide ((v_arrows.length : Int) = ((v_widths.length : Int)) - ((1 : Int)))) = true then
  (none)
  else
  ((mapG (enI 0 v_arrows) fun (y2 : Int × Str × List (List Int)) => F_arrow_of v_p v_widths y2.1 y2.2).bind fun (v_told_5 : List (Str × Int × Int × List (List Int))) =>
  some ((v_p, v_widths, v_told_5))))
end Mn
namespace Mn
open PySem PySem.Spec PyProof.Rows
open L2 (atI ixN cutS)
def F_law_k10 (v_script : List Int) : Option (Bool) :=
  (F_law_mix v_script ((0 : Int))).bind fun (t1 : Int) =>
  (modG t1 ((4 : Int))).bind fun (t2 : Int) =>
  (atI ([(2 : Int), (3 : Int), (5 : Int), (7 : Int)]) t2).bind fun (v_p_4 : Int) =>
  (F_law_mix v_script ((1 : Int))).bind fun (t5 : Int) =>
  (F_law_ways t5).bind fun (v_ways_here_7 : Str) =>
  (F_law_row v_script ((2 : Int)) v_p_4 v_ways_here_7 ((5 : Int))).bind fun (v_due_9 : Int × List Int × List (Str × Int × Int × List (List Int))) =>
  (F_law_handed_v2 v_script v_due_9).bind fun (v_pairs_10 : List (Str × List (List Int))) =>
  (mapG v_pairs_10 fun (y11 : Str × List (List Int)) => ((mapG y11.2 fun (y12 : List Int) => some y12).bind fun (t13 : List (List Int)) => some ((y11.1, t13)))).bind fun (v_stay_15 : List (Str × List (List Int))) =>
  (some v_due_9.2.1).bind fun (v_widths_16 : List Int) =>
  (F_row_of_v2 v_p_4 v_widths_16 v_pairs_10).bind fun (v_found_18 : Int × List Int × List (Str × Int × Int × List (List Int))) =>
  (((neG (okL (okP2 strOk (fun _ => true))) v_pairs_10 v_stay_15).bind fun (t19 : Bool) => some ((t19 || (!decide (v_widths_16 = v_due_9.2.1)))))).bind fun (k20 : Bool) => if k20 = true then some false else
  (F_law_is_row v_found_18 v_due_9).bind fun (t21 : Bool) =>
  (if (!t21) = true then some true else ((F_ways_of v_found_18).bind fun (t22 : Str) => (neG strOk t22 v_ways_here_7).bind fun (t23 : Bool) => if t23 = true then some true else ((F_ways_of v_found_18).bind fun (t24 : Str) => some (!true)))).bind fun (t26 : Bool) =>
  if t26 = true then
  (some false)
  else
  ((F_law_mix v_script ((59 : Int))).bind fun (t27 : Int) =>
  (F_law_ways t27).bind fun (v_far_29 : Str) =>
  (F_law_mix v_script ((59 : Int))).bind fun (t30 : Int) =>
  (fdivG t30 ((200 : Int))).bind fun (t31 : Int) =>
  (modG t31 ((2 : Int))).bind fun (t32 : Int) =>
  (if (decide (t32 = (1 : Int))) = true then
  ((some v_ways_here_7).bind fun (v_far_34 : Str) =>
  some v_far_34)
  else
  (some v_far_29) : Option (Str)).bind fun (s33 : Str) =>
  (F_law_mix v_script ((58 : Int))).bind fun (t35 : Int) =>
  (modG t35 ((4 : Int))).bind fun (t36 : Int) =>
  (atI ([(2 : Int), (3 : Int), (5 : Int), (7 : Int)]) t36).bind fun (t37 : Int) =>
  (F_law_row v_script ((60 : Int)) t37 s33 ((3 : Int))).bind fun (v_other_39 : Int × List Int × List (Str × Int × Int × List (List Int))) =>
  (F_law_row v_script ((60 : Int)) v_p_4 v_ways_here_7 ((4 : Int))).bind fun (v_near_41 : Int × List Int × List (Str × Int × Int × List (List Int))) =>
  (if (decide (v_p_4 = v_other_39.1)) = true then ((mapG v_other_39.2.2 fun (y42 : Str × Int × Int × List (List Int)) => some y42.1).bind fun (t43 : List Str) => (joinG (("" : Str)) t43).bind fun (t44 : Str) => (eqG strOk v_ways_here_7 t44).bind fun (t45 : Bool) => some t45) else some false).bind fun (v_like_47 : Bool) =>
  (F_one_kind v_due_9 v_other_39).bind fun (t48 : Bool) =>
  (F_law_truth t48 v_like_47).bind fun (t49 : Bool) =>
  if t49 = true then ((F_one_kind v_due_9 v_near_41).bind fun (t50 : Bool) => (F_law_truth t50 true).bind fun (t51 : Bool) => some t51) else some false)
end Mn
namespace Mn
open PySem PySem.Spec PyProof.Rows
open L2 (atI ixN cutS)
theorem w_law_mix (v_script : List Int) (v_k : Int) : Sim (s_law_mix [scrD v_script, PyData.int v_k]) (F_law_mix v_script v_k) (fz PyData.int) :=
  s_def (φ := (fz PyData.int)) rfl (s_if (e_eqI (e_lenZ (e_var rfl)) (e_int _))
  (sms_bx (.bin .mul (.var 1) (.var 1)) (fz PyData.int) (m_mul (e_var rfl) (e_var rfl)) fun t1 ht1 =>
  sms_bx (.bin .mul (.bin .mul (.var 1) (.var 1)) (.int 7919)) (fz PyData.int) (m_mul (ht1) (e_int _)) fun t2 ht2 =>
  sms_bx (.bin .mul (.bin .add (.bin .mul (.bin .mul (.var 1) (.var 1)) (.int 7919)) (.int 11)) (.int 48271)) (fz PyData.int) (m_mul (e_add (ht2) (e_int _)) (e_int _)) fun t3 ht3 =>
  sms_bx (.bin .mod (.bin .mul (.bin .add (.bin .mul (.bin .mul (.var 1) (.var 1)) (.int 7919)) (.int 11)) (.int 48271)) (.int 2147483647)) (fz PyData.int) (m_mod (ht3) (e_int _)) fun t4 ht4 =>
  sms_bx (.bin .mul (.bin .mod (.bin .mul (.bin .add (.bin .mul (.bin .mul (.var 1) (.var 1)) (.int 7919)) (.int 11)) (.int 48271)) (.int 2147483647)) (.int 69621)) (fz PyData.int) (m_mul (ht4) (e_int _)) fun t5 ht5 =>
  s_ret1 (φ := (fz PyData.int)) (m_mod (ht5) (e_int _)) (fun _ => rfl))
  (s_nil (sms_bx (.bin .mod (.var 1) (.bi .len (.cons (.var 0) .nil))) (fz PyData.int) (m_mod (e_var rfl) (e_lenZ (e_var rfl))) fun t7 ht7 =>
  s_asg (φ := (fz PyData.int)) (m_idx (e := PyData.int) (e_var rfl) (ht7) (scr_seq _)) (fun _ => rfl) fun v_cell_9 =>
  sms_bx (.and (.cmp .gt (.bi .len (.cons (.var 0) .nil)) (.int 1)) (.one (.cmp .eq (.bin .mod (.idx (.var 0) (.int 0)) (.int 2)) (.int 1)))) (fz PyData.bool) (m_and (e_gt (e_lenZ (e_var rfl)) (e_int _)) (sim_bx (.idx (.var 0) (.int 0)) (fz PyData.int) (m_idx (e := PyData.int) (e_var rfl) (e_int _) (scr_seq _)) fun t10 ht10 => sim_bx (.bin .mod (.idx (.var 0) (.int 0)) (.int 2)) (fz PyData.int) (m_mod (ht10) (e_int _)) fun t11 ht11 => sim_p (e_one (e_eqI (ht11) (e_int _))))) fun t12 ht12 =>
  s_if (ht12)
  (sms_bx (.bin .mod (.var 1) (.bin .sub (.bi .len (.cons (.var 0) .nil)) (.int 1))) (fz PyData.int) (m_mod (e_var rfl) (e_sub (e_lenZ (e_var rfl)) (e_int _))) fun t13 ht13 =>
  s_asg (φ := (fz PyData.int)) (m_idx (e := PyData.int) (e_var rfl) (e_add (e_int _) (ht13)) (scr_seq _)) (fun _ => rfl) fun v_digits_15 =>
  s_del (sms_bx (.bin .fdiv (.var 1) (.bin .sub (.bi .len (.cons (.var 0) .nil)) (.int 1))) (fz PyData.int) (m_fdiv (e_var rfl) (e_sub (e_lenZ (e_var rfl)) (e_int _))) fun t17 ht17 =>
  sms_bi (.r1 (.bin .fdiv (.var 1) (.bin .sub (.bi .len (.cons (.var 0) .nil)) (.int 1)))) (List.map PyData.int) (i_r1 (ht17)) fun r18 hr18 =>
  s_for (e := PyData.int) (σ := Int) (E := fun (s16 : Int) => [some (RV.fz (scrD v_script)), some (RV.fz (PyData.int v_k)), none, some (RV.fz (PyData.int s16)), none]) v_digits_15 rfl (sim_p hr18) (rfl) (fun x19 s16 => ⟨_, rfl,
  sms_bx (.bin .pow (.int 10) (.int 9)) (fz PyData.int) (m_pow (e_int _) (e_int _)) fun t20 ht20 =>
  s_asg (φ := (fz PyData.int)) (m_fdiv (e_var rfl) (ht20)) (fun _ => rfl) fun v_digits_22 =>
  s_del (s_nil (s_end (Or.inl rfl)))⟩) fun s16 =>
  sms_bx (.bin .pow (.int 10) (.int 9)) (fz PyData.int) (m_pow (e_int _) (e_int _)) fun t23 ht23 =>
  s_ret1 (φ := (fz PyData.int)) (m_mod (e_var rfl) (ht23)) (fun _ => rfl)))
  (s_nil (sms_bx (.bin .pow (.int 10) (.int 30)) (fz PyData.int) (m_pow (e_int _) (e_int _)) fun t25 ht25 =>
  sms_bx (.bin .mod (.var 2) (.bin .pow (.int 10) (.int 30))) (fz PyData.int) (m_mod (e_var rfl) (ht25)) fun t26 ht26 =>
  sms_bx (.bin .mul (.bin .mod (.var 2) (.bin .pow (.int 10) (.int 30))) (.int 48271)) (fz PyData.int) (m_mul (ht26) (e_int _)) fun t27 ht27 =>
  sms_bx (.bin .mul (.var 1) (.var 1)) (fz PyData.int) (m_mul (e_var rfl) (e_var rfl)) fun t28 ht28 =>
  sms_bx (.bin .mul (.bin .mul (.var 1) (.var 1)) (.int 7919)) (fz PyData.int) (m_mul (ht28) (e_int _)) fun t29 ht29 =>
  sms_bx (.bin .mod (.bin .add (.bin .add (.bin .mul (.bin .mod (.var 2) (.bin .pow (.int 10) (.int 30))) (.int 48271)) (.bin .mul (.bin .mul (.var 1) (.var 1)) (.int 7919))) (.int 11)) (.int 2147483647)) (fz PyData.int) (m_mod (e_add (e_add (ht27) (ht29)) (e_int _)) (e_int _)) fun t30 ht30 =>
  sms_bx (.bin .mul (.bin .mod (.bin .add (.bin .add (.bin .mul (.bin .mod (.var 2) (.bin .pow (.int 10) (.int 30))) (.int 48271)) (.bin .mul (.bin .mul (.var 1) (.var 1)) (.int 7919))) (.int 11)) (.int 2147483647)) (.int 69621)) (fz PyData.int) (m_mul (ht30) (e_int _)) fun t31 ht31 =>
  s_ret1 (φ := (fz PyData.int)) (m_mod (ht31) (e_int _)) (fun _ => rfl))))))
end Mn
namespace Mn
open PySem PySem.Spec PyProof.Rows
open L2 (atI ixN cutS)
theorem w_law_handed_v2 (v_script : List Int) (v_row_here : Int × List Int × List (Str × Int × Int × List (List Int))) : Sim (r_law_handed_v2 [scrD v_script, (encP3 PyData.int (encU PyData.int) (encU (encP2 PyData.str (encP3 PyData.int PyData.int (encU (encU PyData.int)))))) v_row_here]) (F_law_handed_v2 v_script v_row_here) (lsT (tpT2 (lfT PyData.str) (lsT (lsT (lfT PyData.int))))) :=
  s_defR (ρ := List (Str × List (List Int))) (eT := (lsT (tpT2 (lfT PyData.str) (lsT (lsT (lfT PyData.int)))))) rfl (s_tnw0 (t := prT PyData.str PyData.int) rfl (sms_bi (.r1 (.bi .len (.cons (.idx (.var 1) (.int 2)) .nil))) (List.map PyData.int) (i_r1 (e_len (e := (encP2 PyData.str (encP3 PyData.int PyData.int (encU (encU PyData.int))))) (e_idxP (e_var rfl) (e_int _) rfl rfl) rfl)) fun r3 hr3 =>
  s_for (e := PyData.int) (σ := List (Str × List (List Int))) (E := fun (s2 : List (Str × List (List Int))) => [some (RV.fz (scrD v_script)), some (RV.fz ((encP3 PyData.int (encU PyData.int) (encU (encP2 PyData.str (encP3 PyData.int PyData.int (encU (encU PyData.int)))))) v_row_here)), some (RV.tr [] (lsT (prT PyData.str PyData.int) s2)), none, none, none, none, none, none]) ([] : List (Str × List (List Int))) rfl (sim_p hr3) (rfl) (fun x4 s2 => ⟨_, rfl,
  sms_bx (.idx (.idx (.var 1) (.int 2)) (.var 3)) (fz (encP2 PyData.str (encP3 PyData.int PyData.int (encU (encU PyData.int))))) (m_idx (e := (encP2 PyData.str (encP3 PyData.int PyData.int (encU (encU PyData.int))))) (e_idxP (e_var rfl) (e_int _) rfl rfl) (e_var rfl) rfl) fun t5 ht5 =>
  s_unp (ht5) (own_v rfl) rfl
  (sms_bx (.call 0 (.cons (.var 0) (.cons (.bin .add (.int 120) (.var 3)) .nil))) (fz PyData.int) (m_call (eb_cons (e_var rfl) rfl (eb_cons (e_add (e_int _) (e_var rfl)) rfl (eb_nil) rfl) rfl) (w_law_mix v_script (((120 : Int)) + x4))) fun t6 ht6 =>
  sms_bx (.bin .mod (.call 0 (.cons (.var 0) (.cons (.bin .add (.int 120) (.var 3)) .nil))) (.int 2001)) (fz PyData.int) (m_mod (ht6) (e_int _)) fun t7 ht7 =>
  s_asg (φ := (fz PyData.int)) (sim_p (e_sub (ht7) (e_int _))) (fun _ => rfl) fun v_off_8 =>
  s_tapP (e0 := PyData.str) (e := (encU PyData.int)) (f := PyData.int) (p_nm rfl) (tree_of rfl rfl) (e_var rfl) (i_ex (e := (encU PyData.int)) (e_idxP (e_var rfl) (e_int _) rfl rfl) rfl) (fun y10 => ⟨_, rfl, m_comp (e := PyData.int) (f := PyData.int) (φ := (fz PyData.int)) (i_ex (e := PyData.int) (e_var rfl) rfl) (fun y11 => ⟨_, rfl, sim_bx (.bin .mul (.idx (.var 1) (.int 0)) (.var 4)) (fz PyData.int) (m_mul (e_idxP (e_var rfl) (e_int _) rfl rfl) (e_var rfl)) fun t12 ht12 => sim_p (e_add (e_var rfl) (ht12))⟩) (fun _ => own_v rfl)⟩) rfl (fun v => set_of_tree rfl) fun v_pairs_9 =>
  s_del (s_del (s_del (s_del (s_nil (s_end (Or.inl rfl)))))))⟩) fun s2 =>
  s_rtV rfl rfl))
end Mn
namespace Mn
open PySem PySem.Spec PyProof.Rows
open L2 (atI ixN cutS)
theorem w_law_whole (v_found : Int) : Sim (s_law_whole [PyData.int v_found]) (F_law_whole v_found) (fz PyData.bool) :=
  s_def (φ := (fz PyData.bool)) rfl (s_ret1 (φ := (fz PyData.bool)) (sim_p (e_and (e_isI (e_var rfl) rfl rfl) (e_one (e_not (e_isI (e_var rfl) rfl rfl))))) (fun _ => rfl))
end Mn
namespace Mn
open PySem PySem.Spec PyProof.Rows
open L2 (atI ixN cutS)
theorem w_law_rests (v_found : List Int) (v_due : List Int) : Sim (s_law_rests [(encU PyData.int) v_found, (encU PyData.int) v_due]) (F_law_rests v_found v_due) (fz PyData.bool) :=
  s_def (φ := (fz PyData.bool)) rfl (s_if (e_or (e_not (e_isI (e_var rfl) rfl rfl)) (e_one (e_neI (e_len (e := PyData.int) (e_var rfl) rfl) (e_len (e := PyData.int) (e_var rfl) rfl))))
  (s_ret1 (φ := (fz PyData.bool)) (sim_p (e_bl _)) (fun _ => rfl))
  (s_nil (sms_bx (.comp (.call 0 (.cons (.var 2) .nil)) (.nm 2) (.ex (.var 0)) .emp [2]) (ol PyData.bool) (m_comp (e := PyData.int) (f := PyData.bool) (φ := (fz PyData.bool)) (i_ex (e := PyData.int) (e_var rfl) rfl) (fun y1 => ⟨_, rfl, m_call (eb_cons (e_var rfl) rfl (eb_nil) rfl) (w_law_whole y1)⟩) (fun _ => own_v rfl)) fun t3 ht3 =>
  s_ret1 (φ := (fz PyData.bool)) (sim_p (e_and (e_all (ht3) rfl) (e_one (e_eqv (good_U good_I) (by decide) (e_var rfl) (e_var rfl) rfl rfl)))) (fun _ => rfl))))
end Mn
namespace Mn
open PySem PySem.Spec PyProof.Rows
open L2 (atI ixN cutS)
theorem w_law_is_table (v_found : Int × Int × List (List Int)) (v_due : Int × Int × List (List Int)) : Sim (s_law_is_table [(encP3 PyData.int PyData.int (encU (encU PyData.int))) v_found, (encP3 PyData.int PyData.int (encU (encU PyData.int))) v_due]) (F_law_is_table v_found v_due) (fz PyData.bool) :=
  s_def (φ := (fz PyData.bool)) rfl (sms_bx (.or (.not (.bi (.isI .tuple) (.cons (.var 0) .nil))) (.or (.cmp .ne (.bi .len (.cons (.var 0) .nil)) (.int 3)) (.or (.not (.call 0 (.cons (.idx (.var 0) (.int 0)) .nil))) (.one (.not (.call 0 (.cons (.idx (.var 0) (.int 1)) .nil))))))) (fz PyData.bool) (m_or (e_not (e_isI (e_var rfl) rfl rfl)) (m_or (e_neI (e_lenN (e_var rfl) rfl rfl) (e_int _)) (sim_bx (.call 0 (.cons (.idx (.var 0) (.int 0)) .nil)) (fz PyData.bool) (m_call (eb_cons (e_idxP (e_var rfl) (e_int _) rfl rfl) rfl (eb_nil) rfl) (w_law_whole v_found.1)) fun t1 ht1 => m_or (e_not (ht1)) (sim_bx (.call 0 (.cons (.idx (.var 0) (.int 1)) .nil)) (fz PyData.bool) (m_call (eb_cons (e_idxP (e_var rfl) (e_int _) rfl rfl) rfl (eb_nil) rfl) (w_law_whole v_found.2.1)) fun t2 ht2 => sim_p (e_one (e_not (ht2))))))) fun t5 ht5 =>
  s_if (ht5)
  (s_ret1 (φ := (fz PyData.bool)) (sim_p (e_bl _)) (fun _ => rfl))
  (s_nil (s_if (e_or (e_nev (good_P2 good_I good_I) (by decide) (e_slcP (e_var rfl) (o_emp) (o_one (e_int _)) rfl) (e_slcP (e_var rfl) (o_emp) (o_one (e_int _)) rfl) rfl rfl) (e_or (e_not (e_isI (e_idxP (e_var rfl) (e_int _) rfl rfl) rfl rfl)) (e_one (e_neI (e_len (e := (encU PyData.int)) (e_idxP (e_var rfl) (e_int _) rfl rfl) rfl) (e_idxP (e_var rfl) (e_int _) rfl rfl)))))
  (s_ret1 (φ := (fz PyData.bool)) (sim_p (e_bl _)) (fun _ => rfl))
  (s_nil (sms_bi (.r1 (.idx (.var 1) (.int 0))) (List.map PyData.int) (i_r1 (e_idxP (e_var rfl) (e_int _) rfl rfl)) fun r6 hr6 =>
  sms_bx (.comp (.call 1 (.cons (.idx (.idx (.var 0) (.int 2)) (.var 2)) (.cons (.idx (.idx (.var 1) (.int 2)) (.var 2)) .nil))) (.nm 2) (.r1 (.idx (.var 1) (.int 0))) .emp [2]) (ol PyData.bool) (m_comp (e := PyData.int) (f := PyData.bool) (φ := (fz PyData.bool)) (sim_p hr6) (fun y7 => ⟨_, rfl, sim_bx (.idx (.idx (.var 0) (.int 2)) (.var 2)) (fz (encU PyData.int)) (m_idx (e := (encU PyData.int)) (e_idxP (e_var rfl) (e_int _) rfl rfl) (e_var rfl) rfl) fun t8 ht8 => sim_bx (.idx (.idx (.var 1) (.int 2)) (.var 2)) (fz (encU PyData.int)) (m_idx (e := (encU PyData.int)) (e_idxP (e_var rfl) (e_int _) rfl rfl) (e_var rfl) rfl) fun t9 ht9 => m_call (eb_cons (ht8) rfl (eb_cons (ht9) rfl (eb_nil) rfl) rfl) (w_law_rests t8 t9)⟩) (fun _ => own_v rfl)) fun t11 ht11 =>
  s_ret1 (φ := (fz PyData.bool)) (sim_p (e_all (ht11) rfl)) (fun _ => rfl))))))
end Mn
namespace Mn
open PySem PySem.Spec PyProof.Rows
open L2 (atI ixN cutS)
theorem w_law_is_row (v_found : Int × List Int × List (Str × Int × Int × List (List Int))) (v_due : Int × List Int × List (Str × Int × Int × List (List Int))) : Sim (s_law_is_row [(encP3 PyData.int (encU PyData.int) (encU (encP2 PyData.str (encP3 PyData.int PyData.int (encU (encU PyData.int)))))) v_found, (encP3 PyData.int (encU PyData.int) (encU (encP2 PyData.str (encP3 PyData.int PyData.int (encU (encU PyData.int)))))) v_due]) (F_law_is_row v_found v_due) (fz PyData.bool) :=
  s_def (φ := (fz PyData.bool)) rfl (sms_bx (.or (.not (.bi (.isI .tuple) (.cons (.var 0) .nil))) (.or (.cmp .ne (.bi .len (.cons (.var 0) .nil)) (.int 3)) (.or (.not (.call 0 (.cons (.idx (.var 0) (.int 0)) .nil))) (.one (.cmp .ne (.idx (.var 0) (.int 0)) (.idx (.var 1) (.int 0))))))) (fz PyData.bool) (m_or (e_not (e_isI (e_var rfl) rfl rfl)) (m_or (e_neI (e_lenN (e_var rfl) rfl rfl) (e_int _)) (sim_bx (.call 0 (.cons (.idx (.var 0) (.int 0)) .nil)) (fz PyData.bool) (m_call (eb_cons (e_idxP (e_var rfl) (e_int _) rfl rfl) rfl (eb_nil) rfl) (w_law_whole v_found.1)) fun t1 ht1 => sim_p (e_or (e_not (ht1)) (e_one (e_neI (e_idxP (e_var rfl) (e_int _) rfl rfl) (e_idxP (e_var rfl) (e_int _) rfl rfl))))))) fun t3 ht3 =>
  s_if (ht3)
  (s_ret1 (φ := (fz PyData.bool)) (sim_p (e_bl _)) (fun _ => rfl))
  (s_nil (sms_bx (.call 1 (.cons (.idx (.var 0) (.int 1)) (.cons (.idx (.var 1) (.int 1)) .nil))) (fz PyData.bool) (m_call (eb_cons (e_idxP (e_var rfl) (e_int _) rfl rfl) rfl (eb_cons (e_idxP (e_var rfl) (e_int _) rfl rfl) rfl (eb_nil) rfl) rfl) (w_law_rests v_found.2.1 v_due.2.1)) fun t4 ht4 =>
  s_if (e_or (e_not (ht4)) (e_or (e_not (e_isI (e_idxP (e_var rfl) (e_int _) rfl rfl) rfl rfl)) (e_one (e_neI (e_len (e := (encP2 PyData.str (encP3 PyData.int PyData.int (encU (encU PyData.int))))) (e_idxP (e_var rfl) (e_int _) rfl rfl) rfl) (e_len (e := (encP2 PyData.str (encP3 PyData.int PyData.int (encU (encU PyData.int))))) (e_idxP (e_var rfl) (e_int _) rfl rfl) rfl)))))
  (s_ret1 (φ := (fz PyData.bool)) (sim_p (e_bl _)) (fun _ => rfl))
  (s_nil (s_forL (e := (encP2 (encP2 PyData.str (encP3 PyData.int PyData.int (encU (encU PyData.int)))) (encP2 PyData.str (encP3 PyData.int PyData.int (encU (encU PyData.int)))))) (σ := Unit) (ρ := Bool) (E := fun (s5 : Unit) => [some (RV.fz ((encP3 PyData.int (encU PyData.int) (encU (encP2 PyData.str (encP3 PyData.int PyData.int (encU (encU PyData.int)))))) v_found)), some (RV.fz ((encP3 PyData.int (encU PyData.int) (encU (encP2 PyData.str (encP3 PyData.int PyData.int (encU (encU PyData.int)))))) v_due)), none, none]) (φ := (fz PyData.bool)) (mk := (fun v => v)) (()) rfl (i_zip (e := (encP2 PyData.str (encP3 PyData.int PyData.int (encU (encU PyData.int))))) (f := (encP2 PyData.str (encP3 PyData.int PyData.int (encU (encU PyData.int))))) (e_idxP (e_var rfl) (e_int _) rfl rfl) (e_idxP (e_var rfl) (e_int _) rfl rfl) rfl rfl) (b_zip (bo_n rfl) (bo_n rfl)) (fun x6 s5 => ⟨_, rfl,
  sms_bx (.or (.not (.bi (.isI .tuple) (.cons (.var 2) .nil))) (.or (.cmp .ne (.bi .len (.cons (.var 2) .nil)) (.int 2)) (.one (.cmp .ne (.idx (.var 2) (.int 0)) (.idx (.var 3) (.int 0)))))) (fz PyData.bool) (m_or (e_not (e_isI (e_var rfl) rfl rfl)) (m_or (e_neI (e_lenN (e_var rfl) rfl rfl) (e_int _)) (sim_bx (.cmp .ne (.idx (.var 2) (.int 0)) (.idx (.var 3) (.int 0))) (fz PyData.bool) (m_nek goodk_S (by decide) (e_idxP (e_var rfl) (e_int _) rfl rfl) (e_idxP (e_var rfl) (e_int _) rfl rfl) rfl rfl) fun t7 ht7 => sim_p (e_one (ht7))))) fun t9 ht9 =>
  s_if (ht9)
  (s_ret (φ := (fz PyData.bool)) (mk := Lp.rt) (sim_p (e_bl _)) (fun _ => rfl))
  (s_nil (sms_bx (.or (.not (.bi (.isI .str) (.cons (.idx (.var 2) (.int 0)) .nil))) (.one (.not (.call 2 (.cons (.idx (.var 2) (.int 1)) (.cons (.idx (.var 3) (.int 1)) .nil)))))) (fz PyData.bool) (m_or (e_not (e_isI (e_idxP (e_var rfl) (e_int _) rfl rfl) rfl rfl)) (sim_bx (.call 2 (.cons (.idx (.var 2) (.int 1)) (.cons (.idx (.var 3) (.int 1)) .nil))) (fz PyData.bool) (m_call (eb_cons (e_idxP (e_var rfl) (e_int _) rfl rfl) rfl (eb_cons (e_idxP (e_var rfl) (e_int _) rfl rfl) rfl (eb_nil) rfl) rfl) (w_law_is_table x6.1.2 x6.2.2)) fun t10 ht10 => sim_p (e_one (e_not (ht10))))) fun t11 ht11 =>
  s_if (ht11)
  (s_ret (φ := (fz PyData.bool)) (mk := Lp.rt) (sim_p (e_bl _)) (fun _ => rfl))
  (s_nil (s_del (s_del (s_nil (s_end (Or.inl rfl))))))))⟩) (fun _ => rfl) fun s5 =>
  s_ret1 (φ := (fz PyData.bool)) (sim_p (e_bl _)) (fun _ => rfl))))))
end Mn
namespace Mn
open PySem PySem.Spec PyProof.Rows
open L2 (atI ixN cutS)
theorem w_law_table (v_script : List Int) (v_at : Int) (v_p : Int) (v_high : Int) (v_wide : Int) : Sim (s_law_table [scrD v_script, PyData.int v_at, PyData.int v_p, PyData.int v_high, PyData.int v_wide]) (F_law_table v_script v_at v_p v_high v_wide) (fz (encP3 PyData.int PyData.int (encU (encU PyData.int)))) :=
  s_def (φ := (fz (encP3 PyData.int PyData.int (encU (encU PyData.int))))) rfl (s_asg (φ := (ol (encU PyData.int))) (sim_p (e_lst (es_nil) (Nat.le_of_ble_eq_true rfl))) (fun _ => rfl) fun v_rows_1 =>
  sms_bi (.r1 (.var 3)) (List.map PyData.int) (i_r1 (e_var rfl)) fun r3 hr3 =>
  s_for (e := PyData.int) (σ := List (List Int)) (E := fun (s2 : List (List Int)) => [some (RV.fz (scrD v_script)), some (RV.fz (PyData.int v_at)), some (RV.fz (PyData.int v_p)), some (RV.fz (PyData.int v_high)), some (RV.fz (PyData.int v_wide)), some (RV.ol (List.map (encU PyData.int) s2)), none, none, none, none]) v_rows_1 rfl (sim_p hr3) (rfl) (fun x4 s2 => ⟨_, rfl,
  s_asg (φ := (ol PyData.int)) (sim_p (e_lst (es_nil) (Nat.le_of_ble_eq_true rfl))) (fun _ => rfl) fun v_row_5 =>
  sms_bi (.r1 (.var 4)) (List.map PyData.int) (i_r1 (e_var rfl)) fun r7 hr7 =>
  s_for (e := PyData.int) (σ := List Int) (E := fun (s6 : List Int) => [some (RV.fz (scrD v_script)), some (RV.fz (PyData.int v_at)), some (RV.fz (PyData.int v_p)), some (RV.fz (PyData.int v_high)), some (RV.fz (PyData.int v_wide)), some (RV.ol (List.map (encU PyData.int) s2)), some (RV.fz (PyData.int x4)), some (RV.ol (List.map PyData.int s6)), none, none]) v_row_5 rfl (sim_p hr7) (rfl) (fun x8 s6 => ⟨_, rfl,
  sms_bx (.bin .mul (.var 6) (.var 4)) (fz PyData.int) (m_mul (e_var rfl) (e_var rfl)) fun t9 ht9 =>
  s_asg (φ := (fz PyData.int)) (m_call (eb_cons (e_var rfl) rfl (eb_cons (e_add (e_add (e_var rfl) (ht9)) (e_var rfl)) rfl (eb_nil) rfl) rfl) (w_law_mix v_script ((v_at + t9) + x8))) (fun _ => rfl) fun v_cell_11 =>
  sms_bx (.bin .mod (.var 9) (.var 2)) (fz PyData.int) (m_mod (e_var rfl) (e_var rfl)) fun t13 ht13 =>
  sms_bx (.bin .fdiv (.var 9) (.int 7)) (fz PyData.int) (m_fdiv (e_var rfl) (e_int _)) fun t14 ht14 =>
  sms_bx (.bin .mod (.bin .fdiv (.var 9) (.int 7)) (.int 3)) (fz PyData.int) (m_mod (ht14) (e_int _)) fun t15 ht15 =>
  sms_bx (.bin .mul (.bin .mod (.var 9) (.var 2)) (.bi .int (.cons (.cmp .gt (.bin .mod (.bin .fdiv (.var 9) (.int 7)) (.int 3)) (.int 0)) .nil))) (fz PyData.int) (m_mul (ht13) (e_intB (e_gt (ht15) (e_int _)))) fun t16 ht16 =>
  s_app (f := PyData.int) rfl (ht16) (own_v rfl) fun v_row_12 =>
  s_del (s_del (s_nil (s_end (Or.inl rfl))))⟩) fun s6 =>
  s_app (f := (encU PyData.int)) rfl (e_tupO (e := PyData.int) (e_var rfl) rfl) (own_v rfl) fun v_rows_17 =>
  s_del (s_del (s_nil (s_end (Or.inl rfl))))⟩) fun s2 =>
  s_ret1 (φ := (fz (encP3 PyData.int PyData.int (encU (encU PyData.int))))) (sim_p (e_tup (es_cons (e_var rfl) (own_v rfl) (es_cons (e_var rfl) (own_v rfl) (es_cons (e_tupO (e := (encU PyData.int)) (e_var rfl) rfl) (own_v rfl) (es_nil)))) (Nat.le_of_ble_eq_true rfl))) (fun _ => rfl))
end Mn
namespace Mn
open PySem PySem.Spec PyProof.Rows
open L2 (atI ixN cutS)
theorem w_law_row (v_script : List Int) (v_at : Int) (v_p : Int) (v_ways_here : Str) (v_most : Int) : Sim (s_law_row [scrD v_script, PyData.int v_at, PyData.int v_p, PyData.str v_ways_here, PyData.int v_most]) (F_law_row v_script v_at v_p v_ways_here v_most) (fz (encP3 PyData.int (encU PyData.int) (encU (encP2 PyData.str (encP3 PyData.int PyData.int (encU (encU PyData.int))))))) :=
  s_def (φ := (fz (encP3 PyData.int (encU PyData.int) (encU (encP2 PyData.str (encP3 PyData.int PyData.int (encU (encU PyData.int)))))))) rfl (sms_bx (.bi .len (.cons (.var 3) .nil)) (fz PyData.int) (m_lenS (e_var rfl)) fun t1 ht1 =>
  sms_bi (.r1 (.bin .add (.bi .len (.cons (.var 3) .nil)) (.int 1))) (List.map PyData.int) (i_r1 (e_add (ht1) (e_int _))) fun r2 hr2 =>
  sms_bx (.comp (.bin .mod (.call 0 (.cons (.var 0) (.cons (.bin .add (.var 1) (.var 6)) .nil))) (.var 4)) (.nm 6) (.r1 (.bin .add (.bi .len (.cons (.var 3) .nil)) (.int 1))) .emp [6]) (ol PyData.int) (m_comp (e := PyData.int) (f := PyData.int) (φ := (fz PyData.int)) (sim_p hr2) (fun y3 => ⟨_, rfl, sim_bx (.call 0 (.cons (.var 0) (.cons (.bin .add (.var 1) (.var 6)) .nil))) (fz PyData.int) (m_call (eb_cons (e_var rfl) rfl (eb_cons (e_add (e_var rfl) (e_var rfl)) rfl (eb_nil) rfl) rfl) (w_law_mix v_script (v_at + y3))) fun t4 ht4 => m_mod (ht4) (e_var rfl)⟩) (fun _ => own_v rfl)) fun t6 ht6 =>
  s_asg (φ := (fz (encU PyData.int))) (sim_p (e_tupO (e := PyData.int) (ht6) rfl)) (fun _ => rfl) fun v_widths_7 =>
  s_asg (φ := (ol (encP2 PyData.str (encP3 PyData.int PyData.int (encU (encU PyData.int)))))) (sim_p (e_lst (es_nil) (Nat.le_of_ble_eq_true rfl))) (fun _ => rfl) fun v_arrows_8 =>
  s_del (sms_bx (.bi .len (.cons (.var 3) .nil)) (fz PyData.int) (m_lenS (e_var rfl)) fun t10 ht10 =>
  sms_bi (.r1 (.bi .len (.cons (.var 3) .nil))) (List.map PyData.int) (i_r1 (ht10)) fun r11 hr11 =>
  s_for (e := PyData.int) (σ := List (Str × Int × Int × List (List Int))) (E := fun (s9 : List (Str × Int × Int × List (List Int))) => [some (RV.fz (scrD v_script)), some (RV.fz (PyData.int v_at)), some (RV.fz (PyData.int v_p)), some (RV.fz (PyData.str v_ways_here)), none, some (RV.fz ((encU PyData.int) v_widths_7)), none, some (RV.ol (List.map (encP2 PyData.str (encP3 PyData.int PyData.int (encU (encU PyData.int)))) s9)), none]) v_arrows_8 rfl (sim_p hr11) (rfl) (fun x12 s9 => ⟨_, rfl,
  sms_bx (.idx (.var 5) (.bin .add (.var 6) (.int 1))) (fz PyData.int) (m_idx (e := PyData.int) (e_var rfl) (e_add (e_var rfl) (e_int _)) rfl) fun t13 ht13 =>
  sms_bx (.idx (.var 5) (.var 6)) (fz PyData.int) (m_idx (e := PyData.int) (e_var rfl) (e_var rfl) rfl) fun t14 ht14 =>
  s_asg (φ := (fz (encP2 PyData.int PyData.int))) (sim_p (e_tup (es_cons (ht13) (own_v rfl) (es_cons (ht14) (own_v rfl) (es_nil))) (Nat.le_of_ble_eq_true rfl))) (fun _ => rfl) fun v_sizes_15 =>
  sms_bx (.idx (.var 3) (.var 6)) (fz PyData.str) (m_idxS (e_var rfl) (e_var rfl)) fun t16 ht16 =>
  sms_bx (.cmp .eq (.idx (.var 3) (.var 6)) (.str "l")) (fz PyData.bool) (m_eqk goodk_S (by decide) (ht16) (e_str _) rfl rfl) fun t17 ht17 =>
  s_cut (σ := Int × Int) (E := fun (s18 : Int × Int) => [some (RV.fz (scrD v_script)), some (RV.fz (PyData.int v_at)), some (RV.fz (PyData.int v_p)), some (RV.fz (PyData.str v_ways_here)), none, some (RV.fz ((encU PyData.int) v_widths_7)), some (RV.fz (PyData.int x12)), some (RV.ol (List.map (encP2 PyData.str (encP3 PyData.int PyData.int (encU (encU PyData.int)))) s9)), some (RV.fz ((encP2 PyData.int PyData.int) s18))]) (s_if (ht17)
  (sms_bx (.idx (.var 5) (.var 6)) (fz PyData.int) (m_idx (e := PyData.int) (e_var rfl) (e_var rfl) rfl) fun t19 ht19 =>
  sms_bx (.idx (.var 5) (.bin .add (.var 6) (.int 1))) (fz PyData.int) (m_idx (e := PyData.int) (e_var rfl) (e_add (e_var rfl) (e_int _)) rfl) fun t20 ht20 =>
  s_asg (φ := (fz (encP2 PyData.int PyData.int))) (sim_p (e_tup (es_cons (ht19) (own_v rfl) (es_cons (ht20) (own_v rfl) (es_nil))) (Nat.le_of_ble_eq_true rfl))) (fun _ => rfl) fun v_sizes_21 =>
  s_nil (s_nil (s_end rfl)))
  (s_nil (s_nil (s_end rfl)))) fun s18 =>
  sms_bx (.idx (.var 3) (.var 6)) (fz PyData.str) (m_idxS (e_var rfl) (e_var rfl)) fun t23 ht23 =>
  sms_bx (.bin .mul (.int 17) (.var 6)) (fz PyData.int) (m_mul (e_int _) (e_var rfl)) fun t24 ht24 =>
  sms_bx (.call 1 (.cons (.var 0) (.cons (.bin .add (.bin .add (.var 1) (.int 10)) (.bin .mul (.int 17) (.var 6))) (.cons (.var 2) (.cons (.idx (.var 8) (.int 0)) (.cons (.idx (.var 8) (.int 1)) .nil)))))) (fz (encP3 PyData.int PyData.int (encU (encU PyData.int)))) (m_call (eb_cons (e_var rfl) rfl (eb_cons (e_add (e_add (e_var rfl) (e_int _)) (ht24)) rfl (eb_cons (e_var rfl) rfl (eb_cons (e_idxP (e_var rfl) (e_int _) rfl rfl) rfl (eb_cons (e_idxP (e_var rfl) (e_int _) rfl rfl) rfl (eb_nil) rfl) rfl) rfl) rfl) rfl) (w_law_table v_script ((v_at + ((10 : Int))) + t24) v_p s18.1 s18.2)) fun t25 ht25 =>
  s_app (f := (encP2 PyData.str (encP3 PyData.int PyData.int (encU (encU PyData.int))))) rfl (e_tup (es_cons (ht23) (own_v rfl) (es_cons (ht25) (own_v rfl) (es_nil))) (Nat.le_of_ble_eq_true rfl)) (own_v rfl) fun v_arrows_22 =>
  s_del (s_del (s_nil (s_end (Or.inl rfl))))⟩) fun s9 =>
  s_ret1 (φ := (fz (encP3 PyData.int (encU PyData.int) (encU (encP2 PyData.str (encP3 PyData.int PyData.int (encU (encU PyData.int)))))))) (sim_p (e_tup (es_cons (e_var rfl) (own_v rfl) (es_cons (e_var rfl) (own_v rfl) (es_cons (e_tupO (e := (encP2 PyData.str (encP3 PyData.int PyData.int (encU (encU PyData.int))))) (e_var rfl) rfl) (own_v rfl) (es_nil)))) (Nat.le_of_ble_eq_true rfl))) (fun _ => rfl)))
end Mn
namespace Mn
open PySem PySem.Spec PyProof.Rows
open L2 (atI ixN cutS)
theorem w_law_truth (v_found : Bool) (v_due : Bool) : Sim (s_law_truth [PyData.bool v_found, PyData.bool v_due]) (F_law_truth v_found v_due) (fz PyData.bool) :=
  s_def (φ := (fz PyData.bool)) rfl (s_ret1 (φ := (fz PyData.bool)) (sim_p (e_and (e_isI (e_var rfl) rfl rfl) (e_one (e_eqv good_B (by decide) (e_var rfl) (e_var rfl) rfl rfl)))) (fun _ => rfl))
end Mn
namespace Mn
open PySem PySem.Spec PyProof.Rows
open L2 (atI ixN cutS)
theorem w_law_ways (v_cell : Int) : Sim (s_law_ways [PyData.int v_cell]) (F_law_ways v_cell) (fz PyData.str) :=
  s_def (φ := (fz PyData.str)) rfl (s_asg (φ := (fz PyData.int)) (m_mod (e_var rfl) (e_int _)) (fun _ => rfl) fun v_many_2 =>
  sms_bi (.r1 (.var 1)) (List.map PyData.int) (i_r1 (e_var rfl)) fun r3 hr3 =>
  sms_bx (.comp (.idx (.str "rl") (.bin .mod (.bin .fdiv (.var 0) (.idx (.lst (.cons (.int 6) (.cons (.int 12) (.cons (.int 24) (.cons (.int 48) (.cons (.int 96) .nil)))))) (.var 2))) (.int 2))) (.nm 2) (.r1 (.var 1)) .emp [2]) (ol PyData.str) (m_comp (e := PyData.int) (f := PyData.str) (φ := (fz PyData.str)) (sim_p hr3) (fun y4 => ⟨_, rfl, sim_bx (.idx (.lst (.cons (.int 6) (.cons (.int 12) (.cons (.int 24) (.cons (.int 48) (.cons (.int 96) .nil)))))) (.var 2)) (fz PyData.int) (m_idx (e := PyData.int) (e_lst (es_cons (e_int _) (own_v rfl) (es_cons (e_int _) (own_v rfl) (es_cons (e_int _) (own_v rfl) (es_cons (e_int _) (own_v rfl) (es_cons (e_int _) (own_v rfl) (es_nil)))))) (Nat.le_of_ble_eq_true rfl)) (e_var rfl) rfl) fun t5 ht5 => sim_bx (.bin .fdiv (.var 0) (.idx (.lst (.cons (.int 6) (.cons (.int 12) (.cons (.int 24) (.cons (.int 48) (.cons (.int 96) .nil)))))) (.var 2))) (fz PyData.int) (m_fdiv (e_var rfl) (ht5)) fun t6 ht6 => sim_bx (.bin .mod (.bin .fdiv (.var 0) (.idx (.lst (.cons (.int 6) (.cons (.int 12) (.cons (.int 24) (.cons (.int 48) (.cons (.int 96) .nil)))))) (.var 2))) (.int 2)) (fz PyData.int) (m_mod (ht6) (e_int _)) fun t7 ht7 => m_idxS (e_str _) (ht7)⟩) (fun _ => own_v rfl)) fun t9 ht9 =>
  s_ret1 (φ := (fz PyData.str)) (m_joinT (e_str _) (ht9) rfl) (fun _ => rfl))
end Mn
namespace Mn
open PySem PySem.Spec PyProof.Rows
open L2 (atI ixN cutS)
theorem w_ways_of (v_row : Int × List Int × List (Str × Int × Int × List (List Int))) : Sim (s_ways_of [(encP3 PyData.int (encU PyData.int) (encU (encP2 PyData.str (encP3 PyData.int PyData.int (encU (encU PyData.int)))))) v_row]) (F_ways_of v_row) (fz PyData.str) :=
  s_def (φ := (fz PyData.str)) rfl (sms_bx (.comp (.var 1) (.tp [1, 2]) (.ex (.idx (.var 0) (.int 2))) .emp [1, 2]) (ol PyData.str) (m_comp (e := (encP2 PyData.str (encP3 PyData.int PyData.int (encU (encU PyData.int))))) (f := PyData.str) (φ := (fz PyData.str)) (i_ex (e := (encP2 PyData.str (encP3 PyData.int PyData.int (encU (encU PyData.int))))) (e_idxP (e_var rfl) (e_int _) rfl rfl) rfl) (fun y1 => ⟨_, rfl, sim_p (e_var rfl)⟩) (fun _ => own_v rfl)) fun t2 ht2 =>
  s_ret1 (φ := (fz PyData.str)) (m_joinT (e_str _) (ht2) rfl) (fun _ => rfl))
end Mn
namespace Mn
open PySem PySem.Spec PyProof.Rows
open L2 (atI ixN cutS)
theorem w_one_kind (v_one : Int × List Int × List (Str × Int × Int × List (List Int))) (v_other : Int × List Int × List (Str × Int × Int × List (List Int))) : Sim (s_one_kind [(encP3 PyData.int (encU PyData.int) (encU (encP2 PyData.str (encP3 PyData.int PyData.int (encU (encU PyData.int)))))) v_one, (encP3 PyData.int (encU PyData.int) (encU (encP2 PyData.str (encP3 PyData.int PyData.int (encU (encU PyData.int)))))) v_other]) (F_one_kind v_one v_other) (fz PyData.bool) :=
  s_def (φ := (fz PyData.bool)) rfl (s_ret1 (φ := (fz PyData.bool)) (m_and (e_eqI (e_idxP (e_var rfl) (e_int _) rfl rfl) (e_idxP (e_var rfl) (e_int _) rfl rfl)) (sim_bx (.call 0 (.cons (.var 0) .nil)) (fz PyData.str) (m_call (eb_cons (e_var rfl) rfl (eb_nil) rfl) (w_ways_of v_one)) fun t1 ht1 => sim_bx (.call 0 (.cons (.var 1) .nil)) (fz PyData.str) (m_call (eb_cons (e_var rfl) rfl (eb_nil) rfl) (w_ways_of v_other)) fun t2 ht2 => sim_bx (.cmp .eq (.call 0 (.cons (.var 0) .nil)) (.call 0 (.cons (.var 1) .nil))) (fz PyData.bool) (m_eqk goodk_S (by decide) (ht1) (ht2) rfl rfl) fun t3 ht3 => sim_p (e_one (ht3)))) (fun _ => rfl))
end Mn
namespace Mn
open PySem PySem.Spec PyProof.Rows
open L2 (atI ixN cutS)
theorem w_size_at (v_widths : List Int) (v_k : Int) (v_way : Str) : Sim (s_size_at [(encL PyData.int) v_widths, PyData.int v_k, PyData.str v_way]) (F_size_at v_widths v_k v_way) (fz (encP2 PyData.int PyData.int)) :=
  s_def (φ := (fz (encP2 PyData.int PyData.int))) rfl (sms_bx (.cmp .eq (.var 2) (.str "r")) (fz PyData.bool) (m_eqk goodk_S (by decide) (e_var rfl) (e_str _) rfl rfl) fun t1 ht1 =>
  s_if (ht1)
  (sms_bx (.idx (.var 0) (.bin .add (.var 1) (.int 1))) (fz PyData.int) (m_idx (e := PyData.int) (e_var rfl) (e_add (e_var rfl) (e_int _)) rfl) fun t2 ht2 =>
  sms_bx (.idx (.var 0) (.var 1)) (fz PyData.int) (m_idx (e := PyData.int) (e_var rfl) (e_var rfl) rfl) fun t3 ht3 =>
  s_ret1 (φ := (fz (encP2 PyData.int PyData.int))) (sim_p (e_tup (es_cons (ht2) (own_v rfl) (es_cons (ht3) (own_v rfl) (es_nil))) (Nat.le_of_ble_eq_true rfl))) (fun _ => rfl))
  (s_nil (sms_bx (.idx (.var 0) (.var 1)) (fz PyData.int) (m_idx (e := PyData.int) (e_var rfl) (e_var rfl) rfl) fun t4 ht4 =>
  sms_bx (.idx (.var 0) (.bin .add (.var 1) (.int 1))) (fz PyData.int) (m_idx (e := PyData.int) (e_var rfl) (e_add (e_var rfl) (e_int _)) rfl) fun t5 ht5 =>
  s_ret1 (φ := (fz (encP2 PyData.int PyData.int))) (sim_p (e_tup (es_cons (ht4) (own_v rfl) (es_cons (ht5) (own_v rfl) (es_nil))) (Nat.le_of_ble_eq_true rfl))) (fun _ => rfl))))
end Mn
namespace Mn
open PySem PySem.Spec PyProof.Rows
open L2 (atI ixN cutS)
theorem w_table_of (v_p : Int) (v_high : Int) (v_wide : Int) (v_rows : List (List Int)) : Sim (s_table_of [PyData.int v_p, PyData.int v_high, PyData.int v_wide, (encL (encL PyData.int)) v_rows]) (F_table_of v_p v_high v_wide v_rows) (fz (encP3 PyData.int PyData.int (encU (encU PyData.int)))) :=
  s_def (φ := (fz (encP3 PyData.int PyData.int (encU (encU PyData.int))))) rfl (s_if (e_ninUI (e_var rfl) (e_glb rfl) rfl rfl)
  (s_nev)
  (s_nil (s_if (e_or (e_not (e_chn rfl rfl (e_int _) (e_var rfl) (e_glb rfl))) (e_or (e_not (e_chn rfl rfl (e_int _) (e_var rfl) (e_glb rfl))) (e_one (e_neI (e_len (e := (encL PyData.int)) (e_var rfl) rfl) (e_var rfl)))))
  (s_nev)
  (s_nil (s_asg (φ := (ol (encU PyData.int))) (sim_p (e_lst (es_nil) (Nat.le_of_ble_eq_true rfl))) (fun _ => rfl) fun v_told_1 =>
  s_for (e := (encL PyData.int)) (σ := List (List Int)) (E := fun (s2 : List (List Int)) => [some (RV.fz (PyData.int v_p)), some (RV.fz (PyData.int v_high)), some (RV.fz (PyData.int v_wide)), some (RV.fz ((encL (encL PyData.int)) v_rows)), some (RV.ol (List.map (encU PyData.int) s2)), none, none]) v_told_1 rfl (i_ex (e := (encL PyData.int)) (e_var rfl) rfl) (b_ex (bo_v (e_var rfl))) (fun x3 s2 => ⟨_, rfl,
  s_if (e_neI (e_len (e := PyData.int) (e_var rfl) rfl) (e_var rfl))
  (s_nev)
  (s_nil (sms_bx (.comp (.bin .mod (.var 6) (.var 0)) (.nm 6) (.ex (.var 5)) .emp [6]) (ol PyData.int) (m_comp (e := PyData.int) (f := PyData.int) (φ := (fz PyData.int)) (i_ex (e := PyData.int) (e_var rfl) rfl) (fun y5 => ⟨_, rfl, m_mod (e_var rfl) (e_var rfl)⟩) (fun _ => own_v rfl)) fun t7 ht7 =>
  s_app (f := (encU PyData.int)) rfl (e_tupO (e := PyData.int) (ht7) rfl) (own_v rfl) fun v_told_4 =>
  s_del (s_nil (s_end (Or.inl rfl)))))⟩) fun s2 =>
  s_ret1 (φ := (fz (encP3 PyData.int PyData.int (encU (encU PyData.int))))) (sim_p (e_tup (es_cons (e_var rfl) (own_v rfl) (es_cons (e_var rfl) (own_v rfl) (es_cons (e_tupO (e := (encU PyData.int)) (e_var rfl) rfl) (own_v rfl) (es_nil)))) (Nat.le_of_ble_eq_true rfl))) (fun _ => rfl))))))
end Mn
namespace Mn
open PySem PySem.Spec PyProof.Rows
open L2 (atI ixN cutS)
theorem w_arrow_of (v_p : Int) (v_widths : List Int) (v_k : Int) (v_pair : Str × List (List Int)) : Sim (s_arrow_of [PyData.int v_p, (encL PyData.int) v_widths, PyData.int v_k, (encP2 PyData.str (encL (encL PyData.int))) v_pair]) (F_arrow_of v_p v_widths v_k v_pair) (fz (encP2 PyData.str (encP3 PyData.int PyData.int (encU (encU PyData.int))))) :=
  s_def (φ := (fz (encP2 PyData.str (encP3 PyData.int PyData.int (encU (encU PyData.int)))))) rfl (s_unp (e_var rfl) (own_v rfl) rfl
  (s_if (e_ninUS (e_var rfl) (e_tup (es_cons (e_str _) (own_v rfl) (es_cons (e_str _) (own_v rfl) (es_nil))) (Nat.le_of_ble_eq_true rfl)) rfl rfl)
  (s_nev)
  (s_nil (sms_bx (.call 0 (.cons (.var 1) (.cons (.var 2) (.cons (.var 4) .nil)))) (fz (encP2 PyData.int PyData.int)) (m_call (eb_cons (e_var rfl) rfl (eb_cons (e_var rfl) rfl (eb_cons (e_var rfl) rfl (eb_nil) rfl) rfl) rfl) (w_size_at v_widths v_k v_pair.1)) fun t1 ht1 =>
  s_unp (ht1) (own_v rfl) rfl
  (s_try (fun _ _ h => by first | (subst h; rfl) | (cases h; rfl)) (s_asg (φ := (fz (encP3 PyData.int PyData.int (encU (encU PyData.int))))) (m_call (eb_cons (e_var rfl) rfl (eb_cons (e_var rfl) rfl (eb_cons (e_var rfl) rfl (eb_cons (e_var rfl) rfl (eb_nil) rfl) rfl) rfl) rfl) (w_table_of v_p t1.1 t1.2 v_pair.2)) (fun _ => rfl) fun v_table_3 =>
  s_nil (s_ret1 (φ := (fz (encP2 PyData.str (encP3 PyData.int PyData.int (encU (encU PyData.int)))))) (sim_p (e_tup (es_cons (e_var rfl) (own_v rfl) (es_cons (e_var rfl) (own_v rfl) (es_nil))) (Nat.le_of_ble_eq_true rfl))) (fun _ => rfl))))))))
end Mn
namespace Mn
open PySem PySem.Spec PyProof.Rows
open L2 (atI ixN cutS)
theorem w_look_at_widths (v_widths : List Int) : Sim (s_look_at_widths [(encL PyData.int) v_widths]) (F_look_at_widths v_widths) (fz encN) :=
  s_defN (E := fun _ => []) rfl (s_if (e_or (e_not (e_chn rfl rfl (e_int _) (e_len (e := PyData.int) (e_var rfl) rfl) (e_glb rfl))) (e_one (e_gt (e_sum (e_var rfl) rfl) (e_glb rfl))))
  (s_nev)
  (s_nil (s_for (e := PyData.int) (σ := Unit) (E := fun (s1 : Unit) => [some (RV.fz ((encL PyData.int) v_widths)), none]) (()) rfl (i_ex (e := PyData.int) (e_var rfl) rfl) (b_ex (bo_v (e_var rfl))) (fun x2 s1 => ⟨_, rfl,
  s_if (e_lt (e_var rfl) (e_int _))
  (s_nev)
  (s_nil (s_del (s_nil (s_end (Or.inl rfl)))))⟩) fun s1 =>
  s_nil (s_end (Or.inl ⟨_, rfl⟩)))))
end Mn
namespace Mn
open PySem PySem.Spec PyProof.Rows
open L2 (atI ixN cutS)
theorem w_row_of_v2 (v_p : Int) (v_widths : List Int) (v_arrows : List (Str × List (List Int))) : Sim (s_row_of_v2 [PyData.int v_p, (encL PyData.int) v_widths, (encL (encP2 PyData.str (encL (encL PyData.int)))) v_arrows]) (F_row_of_v2 v_p v_widths v_arrows) (fz (encP3 PyData.int (encU PyData.int) (encU (encP2 PyData.str (encP3 PyData.int PyData.int (encU (encU PyData.int))))))) :=
  s_def (φ := (fz (encP3 PyData.int (encU PyData.int) (encU (encP2 PyData.str (encP3 PyData.int PyData.int (encU (encU PyData.int)))))))) rfl (s_if (e_ninUI (e_var rfl) (e_glb rfl) rfl rfl)
  (s_nev)
  (s_nil (sms_bx (.call 0 (.cons (.var 1) .nil)) (fz encN) (m_call (eb_cons (e_var rfl) rfl (eb_nil) rfl) (w_look_at_widths v_widths)) fun t1 ht1 =>
  s_drp (ht1) (s_if (e_neI (e_len (e := (encP2 PyData.str (encL (encL PyData.int)))) (e_var rfl) rfl) (e_sub (e_len (e := PyData.int) (e_var rfl) rfl) (e_int _)))
  (s_nev)
  (s_nil (s_asg (φ := (ol (encP2 PyData.str (encP3 PyData.int PyData.int (encU (encU PyData.int)))))) (m_comp (e := (encP2 PyData.int (encP2 PyData.str (encL (encL PyData.int))))) (f := (encP2 PyData.str (encP3 PyData.int PyData.int (encU (encU PyData.int))))) (φ := (fz (encP2 PyData.str (encP3 PyData.int PyData.int (encU (encU PyData.int)))))) (i_en (e := (encP2 PyData.str (encL (encL PyData.int)))) (e_var rfl) rfl) (fun y2 => ⟨_, rfl, m_call (eb_cons (e_var rfl) rfl (eb_cons (e_var rfl) rfl (eb_cons (e_var rfl) rfl (eb_cons (e_var rfl) rfl (eb_nil) rfl) rfl) rfl) rfl) (w_arrow_of v_p v_widths y2.1 y2.2)⟩) (fun _ => own_v rfl)) (fun _ => rfl) fun v_told_5 =>
  s_ret1 (φ := (fz (encP3 PyData.int (encU PyData.int) (encU (encP2 PyData.str (encP3 PyData.int PyData.int (encU (encU PyData.int)))))))) (sim_p (e_tup (es_cons (e_var rfl) (own_v rfl) (es_cons (e_tupO (e := PyData.int) (e_var rfl) rfl) (own_v rfl) (es_cons (e_tupO (e := (encP2 PyData.str (encP3 PyData.int PyData.int (encU (encU PyData.int))))) (e_var rfl) rfl) (own_v rfl) (es_nil)))) (Nat.le_of_ble_eq_true rfl))) (fun _ => rfl)))))))
end Mn
namespace Mn
open PySem PySem.Spec PyProof.Rows
open L2 (atI ixN cutS)
theorem w_law_k10 (v_script : List Int) : Sim (s_law_k10 [scrD v_script]) (F_law_k10 v_script) (fz PyData.bool) :=
  s_def (φ := (fz PyData.bool)) rfl (sms_bx (.call 0 (.cons (.var 0) (.cons (.int 0) .nil))) (fz PyData.int) (m_call (eb_cons (e_var rfl) rfl (eb_cons (e_int _) rfl (eb_nil) rfl) rfl) (w_law_mix v_script ((0 : Int)))) fun t1 ht1 =>
  sms_bx (.bin .mod (.call 0 (.cons (.var 0) (.cons (.int 0) .nil))) (.int 4)) (fz PyData.int) (m_mod (ht1) (e_int _)) fun t2 ht2 =>
  s_asg (φ := (fz PyData.int)) (m_idx (e := PyData.int) (e_lst (es_cons (e_int _) (own_v rfl) (es_cons (e_int _) (own_v rfl) (es_cons (e_int _) (own_v rfl) (es_cons (e_int _) (own_v rfl) (es_nil))))) (Nat.le_of_ble_eq_true rfl)) (ht2) rfl) (fun _ => rfl) fun v_p_4 =>
  sms_bx (.call 0 (.cons (.var 0) (.cons (.int 1) .nil))) (fz PyData.int) (m_call (eb_cons (e_var rfl) rfl (eb_cons (e_int _) rfl (eb_nil) rfl) rfl) (w_law_mix v_script ((1 : Int)))) fun t5 ht5 =>
  s_asg (φ := (fz PyData.str)) (m_call (eb_cons (ht5) rfl (eb_nil) rfl) (w_law_ways t5)) (fun _ => rfl) fun v_ways_here_7 =>
  s_asg (φ := (fz (encP3 PyData.int (encU PyData.int) (encU (encP2 PyData.str (encP3 PyData.int PyData.int (encU (encU PyData.int)))))))) (m_call (eb_cons (e_var rfl) rfl (eb_cons (e_int _) rfl (eb_cons (e_var rfl) rfl (eb_cons (e_var rfl) rfl (eb_cons (e_int _) rfl (eb_nil) rfl) rfl) rfl) rfl) rfl) (w_law_row v_script ((2 : Int)) v_p_4 v_ways_here_7 ((5 : Int)))) (fun _ => rfl) fun v_due_9 =>
  s_norm (env' := [some (RV.fz (scrD v_script)), some (RV.fz (PyData.int v_p_4)), some (RV.fz (PyData.str v_ways_here_7)), some (RV.fz ((encP3 PyData.int (encU PyData.int) (encU (encP2 PyData.str (encP3 PyData.int PyData.int (encU (encU PyData.int)))))) v_due_9)), none, none, none, none, none, none, none, none, none, none, none, none]) rfl (s_asT (eT := (lsT (tpT2 (lfT PyData.str) (lsT (lsT (lfT PyData.int)))))) (eb_cons (e_var rfl) rfl (eb_cons (e_var rfl) rfl (eb_nil) rfl) rfl) (w_law_handed_v2 v_script v_due_9) rfl fun v_pairs_10 =>
  s_hnd (e0 := PyData.str) (f := PyData.int) (xs := v_pairs_10) (f1 := (encP2 PyData.str (encL (encL PyData.int)))) (f2 := PyData.int) (f3 := (encP3 PyData.int (encU PyData.int) (encU (encP2 PyData.str (encP3 PyData.int PyData.int (encU (encU PyData.int))))))) (M2 := fun v_stay_15 => some v_due_9.2.1) (M3 := fun v_stay_15 v_widths_16 => F_row_of_v2 v_p_4 v_widths_16 v_pairs_10) (M4 := fun v_stay_15 v_widths_16 v_found_18 => ((neG (okL (okP2 strOk (fun _ => true))) v_pairs_10 v_stay_15).bind fun (t19 : Bool) => some ((t19 || (!decide (v_widths_16 = v_due_9.2.1)))))) (N := some false) rfl rfl (by decide) rfl rfl rfl
  (m_comp (e := (encP2 PyData.str (encL (encL PyData.int)))) (f := (encP2 PyData.str (encL (encL PyData.int)))) (φ := (fz (encP2 PyData.str (encL (encL PyData.int))))) (i_ex (e := (encP2 PyData.str (encL (encL PyData.int)))) (e_var rfl) rfl) (fun y11 => ⟨_, rfl, sim_bx (.comp (.bi .list (.cons (.var 8) .nil)) (.nm 8) (.ex (.var 7)) .emp [8]) (ol (encL PyData.int)) (m_comp (e := (encL PyData.int)) (f := (encL PyData.int)) (φ := (ol PyData.int)) (i_ex (e := (encL PyData.int)) (e_var rfl) rfl) (fun y12 => ⟨_, rfl, sim_p (e_lisO (e := PyData.int) (e_var rfl) rfl)⟩) (fun _ => own_o rfl rfl)) fun t13 ht13 => sim_p (e_tup (es_cons (e_var rfl) (own_v rfl) (es_cons (ht13) (own_o rfl rfl) (es_nil))) (Nat.le_of_ble_eq_true rfl))⟩) (fun _ => own_v rfl))
  (fun v_stay_15 => sim_p (e_lisO (e := PyData.int) (e_idxP (e_var rfl) (e_int _) rfl rfl) rfl))
  (fun v_stay_15 v_widths_16 => m_call (eb_cons (e_var rfl) rfl (eb_cons (e_var rfl) rfl (eb_cons (e_var rfl) rfl (eb_nil) rfl) rfl) rfl) (w_row_of_v2 v_p_4 v_widths_16 v_pairs_10))
  (fun v_stay_15 v_widths_16 v_found_18 => sim_bx (.cmp .ne (.var 4) (.var 5)) (fz PyData.bool) (m_nek (goodk_L (goodk_P2 goodk_S (Good.k (good_L (good_L good_I))))) (by decide) (e_var rfl) (e_var rfl) rfl rfl) fun t19 ht19 => sim_p (e_or (ht19) (e_one (e_nev (good_L good_I) (by decide) (e_var rfl) (e_lisO (e := PyData.int) (e_idxP (e_var rfl) (e_int _) rfl rfl) rfl) rfl rfl))))
  ((flat_P3 flat_I (flat_U flat_I) (flat_U (flat_P2 flat_S (flat_P3 flat_I flat_I (flat_U (flat_U flat_I))))))) (fun w e => by cases e; rfl) (fun v_found_18 => s_norm (env' := [some (RV.fz (scrD v_script)), some (RV.fz (PyData.int v_p_4)), some (RV.fz (PyData.str v_ways_here_7)), some (RV.fz ((encP3 PyData.int (encU PyData.int) (encU (encP2 PyData.str (encP3 PyData.int PyData.int (encU (encU PyData.int)))))) v_due_9)), none, none, none, none, none, none, some (RV.fz ((encP3 PyData.int (encU PyData.int) (encU (encP2 PyData.str (encP3 PyData.int PyData.int (encU (encU PyData.int)))))) v_found_18)), none, none, none, none, none]) rfl (sms_bx (.call 4 (.cons (.var 10) (.cons (.var 3) .nil))) (fz PyData.bool) (m_call (eb_cons (e_var rfl) rfl (eb_cons (e_var rfl) rfl (eb_nil) rfl) rfl) (w_law_is_row v_found_18 v_due_9)) fun t21 ht21 =>
  sms_bx (.or (.not (.call 4 (.cons (.var 10) (.cons (.var 3) .nil)))) (.or (.cmp .ne (.call 5 (.cons (.var 10) .nil)) (.var 2)) (.one (.not (.bi (.isI .str) (.cons (.call 5 (.cons (.var 10) .nil)) .nil)))))) (fz PyData.bool) (m_or (e_not (ht21)) (sim_bx (.call 5 (.cons (.var 10) .nil)) (fz PyData.str) (m_call (eb_cons (e_var rfl) rfl (eb_nil) rfl) (w_ways_of v_found_18)) fun t22 ht22 => sim_bx (.cmp .ne (.call 5 (.cons (.var 10) .nil)) (.var 2)) (fz PyData.bool) (m_nek goodk_S (by decide) (ht22) (e_var rfl) rfl rfl) fun t23 ht23 => m_or (ht23) (sim_bx (.call 5 (.cons (.var 10) .nil)) (fz PyData.str) (m_call (eb_cons (e_var rfl) rfl (eb_nil) rfl) (w_ways_of v_found_18)) fun t24 ht24 => sim_p (e_one (e_not (e_isI (ht24) rfl rfl)))))) fun t26 ht26 =>
  s_if (ht26)
  (s_norm (env' := [some (RV.fz (scrD v_script)), some (RV.fz (PyData.int v_p_4)), some (RV.fz (PyData.str v_ways_here_7)), some (RV.fz ((encP3 PyData.int (encU PyData.int) (encU (encP2 PyData.str (encP3 PyData.int PyData.int (encU (encU PyData.int)))))) v_due_9)), none, none, none, none, none, none, some (RV.fz ((encP3 PyData.int (encU PyData.int) (encU (encP2 PyData.str (encP3 PyData.int PyData.int (encU (encU PyData.int)))))) v_found_18)), none, none, none, none, none]) rfl (s_ret1 (φ := (fz PyData.bool)) (sim_p (e_bl _)) (fun _ => rfl)))
  (s_nil (sms_bx (.call 0 (.cons (.var 0) (.cons (.int 59) .nil))) (fz PyData.int) (m_call (eb_cons (e_var rfl) rfl (eb_cons (e_int _) rfl (eb_nil) rfl) rfl) (w_law_mix v_script ((59 : Int)))) fun t27 ht27 =>
  s_asg (φ := (fz PyData.str)) (m_call (eb_cons (ht27) rfl (eb_nil) rfl) (w_law_ways t27)) (fun _ => rfl) fun v_far_29 =>
  sms_bx (.call 0 (.cons (.var 0) (.cons (.int 59) .nil))) (fz PyData.int) (m_call (eb_cons (e_var rfl) rfl (eb_cons (e_int _) rfl (eb_nil) rfl) rfl) (w_law_mix v_script ((59 : Int)))) fun t30 ht30 =>
  sms_bx (.bin .fdiv (.call 0 (.cons (.var 0) (.cons (.int 59) .nil))) (.int 200)) (fz PyData.int) (m_fdiv (ht30) (e_int _)) fun t31 ht31 =>
  sms_bx (.bin .mod (.bin .fdiv (.call 0 (.cons (.var 0) (.cons (.int 59) .nil))) (.int 200)) (.int 2)) (fz PyData.int) (m_mod (ht31) (e_int _)) fun t32 ht32 =>
  s_cut (σ := Str) (E := fun (s33 : Str) => [some (RV.fz (scrD v_script)), some (RV.fz (PyData.int v_p_4)), some (RV.fz (PyData.str v_ways_here_7)), some (RV.fz ((encP3 PyData.int (encU PyData.int) (encU (encP2 PyData.str (encP3 PyData.int PyData.int (encU (encU PyData.int)))))) v_due_9)), none, none, none, none, none, none, none, some (RV.fz (PyData.str s33)), none, none, none, none]) (s_if (e_eqI (ht32) (e_int _))
  (s_norm (env' := [some (RV.fz (scrD v_script)), some (RV.fz (PyData.int v_p_4)), some (RV.fz (PyData.str v_ways_here_7)), some (RV.fz ((encP3 PyData.int (encU PyData.int) (encU (encP2 PyData.str (encP3 PyData.int PyData.int (encU (encU PyData.int)))))) v_due_9)), none, none, none, none, none, none, some (RV.fz ((encP3 PyData.int (encU PyData.int) (encU (encP2 PyData.str (encP3 PyData.int PyData.int (encU (encU PyData.int)))))) v_found_18)), some (RV.fz (PyData.str v_far_29)), none, none, none, none]) rfl (s_asg (φ := (fz PyData.str)) (sim_p (e_var rfl)) (fun _ => rfl) fun v_far_34 =>
  s_del (s_nil (s_nil (s_end rfl)))))
  (s_del (s_nil (s_nil (s_end rfl))))) fun s33 =>
  sms_bx (.call 0 (.cons (.var 0) (.cons (.int 58) .nil))) (fz PyData.int) (m_call (eb_cons (e_var rfl) rfl (eb_cons (e_int _) rfl (eb_nil) rfl) rfl) (w_law_mix v_script ((58 : Int)))) fun t35 ht35 =>
  sms_bx (.bin .mod (.call 0 (.cons (.var 0) (.cons (.int 58) .nil))) (.int 4)) (fz PyData.int) (m_mod (ht35) (e_int _)) fun t36 ht36 =>
  sms_bx (.idx (.lst (.cons (.int 2) (.cons (.int 3) (.cons (.int 5) (.cons (.int 7) .nil))))) (.bin .mod (.call 0 (.cons (.var 0) (.cons (.int 58) .nil))) (.int 4))) (fz PyData.int) (m_idx (e := PyData.int) (e_lst (es_cons (e_int _) (own_v rfl) (es_cons (e_int _) (own_v rfl) (es_cons (e_int _) (own_v rfl) (es_cons (e_int _) (own_v rfl) (es_nil))))) (Nat.le_of_ble_eq_true rfl)) (ht36) rfl) fun t37 ht37 =>
  s_asg (φ := (fz (encP3 PyData.int (encU PyData.int) (encU (encP2 PyData.str (encP3 PyData.int PyData.int (encU (encU PyData.int)))))))) (m_call (eb_cons (e_var rfl) rfl (eb_cons (e_int _) rfl (eb_cons (ht37) rfl (eb_cons (e_var rfl) rfl (eb_cons (e_int _) rfl (eb_nil) rfl) rfl) rfl) rfl) rfl) (w_law_row v_script ((60 : Int)) t37 s33 ((3 : Int)))) (fun _ => rfl) fun v_other_39 =>
  s_asg (φ := (fz (encP3 PyData.int (encU PyData.int) (encU (encP2 PyData.str (encP3 PyData.int PyData.int (encU (encU PyData.int)))))))) (m_call (eb_cons (e_var rfl) rfl (eb_cons (e_int _) rfl (eb_cons (e_var rfl) rfl (eb_cons (e_var rfl) rfl (eb_cons (e_int _) rfl (eb_nil) rfl) rfl) rfl) rfl) rfl) (w_law_row v_script ((60 : Int)) v_p_4 v_ways_here_7 ((4 : Int)))) (fun _ => rfl) fun v_near_41 =>
  s_norm (env' := [some (RV.fz (scrD v_script)), some (RV.fz (PyData.int v_p_4)), some (RV.fz (PyData.str v_ways_here_7)), some (RV.fz ((encP3 PyData.int (encU PyData.int) (encU (encP2 PyData.str (encP3 PyData.int PyData.int (encU (encU PyData.int)))))) v_due_9)), none, none, none, none, none, none, none, some (RV.fz (PyData.str s33)), some (RV.fz ((encP3 PyData.int (encU PyData.int) (encU (encP2 PyData.str (encP3 PyData.int PyData.int (encU (encU PyData.int)))))) v_other_39)), some (RV.fz ((encP3 PyData.int (encU PyData.int) (encU (encP2 PyData.str (encP3 PyData.int PyData.int (encU (encU PyData.int)))))) v_near_41)), none, none]) rfl (s_asg (φ := (fz PyData.bool)) (m_and (e_eqI (e_var rfl) (e_idxP (e_var rfl) (e_int _) rfl rfl)) (sim_bx (.comp (.var 6) (.tp [6, 15]) (.ex (.idx (.var 12) (.int 2))) .emp [6, 15]) (ol PyData.str) (m_comp (e := (encP2 PyData.str (encP3 PyData.int PyData.int (encU (encU PyData.int))))) (f := PyData.str) (φ := (fz PyData.str)) (i_ex (e := (encP2 PyData.str (encP3 PyData.int PyData.int (encU (encU PyData.int))))) (e_idxP (e_var rfl) (e_int _) rfl rfl) rfl) (fun y42 => ⟨_, rfl, sim_p (e_var rfl)⟩) (fun _ => own_v rfl)) fun t43 ht43 => sim_bx (.mt .join (.str "") (.cons (.comp (.var 6) (.tp [6, 15]) (.ex (.idx (.var 12) (.int 2))) .emp [6, 15]) .nil)) (fz PyData.str) (m_joinT (e_str _) (ht43) rfl) fun t44 ht44 => sim_bx (.cmp .eq (.var 2) (.mt .join (.str "") (.cons (.comp (.var 6) (.tp [6, 15]) (.ex (.idx (.var 12) (.int 2))) .emp [6, 15]) .nil))) (fz PyData.bool) (m_eqk goodk_S (by decide) (e_var rfl) (ht44) rfl rfl) fun t45 ht45 => sim_p (e_one (ht45)))) (fun _ => rfl) fun v_like_47 =>
  sms_bx (.call 7 (.cons (.var 3) (.cons (.var 12) .nil))) (fz PyData.bool) (m_call (eb_cons (e_var rfl) rfl (eb_cons (e_var rfl) rfl (eb_nil) rfl) rfl) (w_one_kind v_due_9 v_other_39)) fun t48 ht48 =>
  sms_bx (.call 6 (.cons (.call 7 (.cons (.var 3) (.cons (.var 12) .nil))) (.cons (.var 14) .nil))) (fz PyData.bool) (m_call (eb_cons (ht48) rfl (eb_cons (e_var rfl) rfl (eb_nil) rfl) rfl) (w_law_truth t48 v_like_47)) fun t49 ht49 =>
  s_ret1 (φ := (fz PyData.bool)) (m_and (ht49) (sim_bx (.call 7 (.cons (.var 3) (.cons (.var 13) .nil))) (fz PyData.bool) (m_call (eb_cons (e_var rfl) rfl (eb_cons (e_var rfl) rfl (eb_nil) rfl) rfl) (w_one_kind v_due_9 v_near_41)) fun t50 ht50 => sim_bx (.call 6 (.cons (.call 7 (.cons (.var 3) (.cons (.var 13) .nil))) (.cons (.bl true) .nil))) (fz PyData.bool) (m_call (eb_cons (ht50) rfl (eb_cons (e_bl _) rfl (eb_nil) rfl) rfl) (w_law_truth t50 true)) fun t51 ht51 => sim_p (e_one (ht51)))) (fun _ => rfl))))))))
end Mn
set_option maxHeartbeats 1000000
namespace La
open Mn (mulG modG mapG mapO LIM)
class Pr (p : Int) : Prop where
  pr : p = 2 ∨ p = 3 ∨ p = 5 ∨ p = 7
theorem Pr.pos {p : Int} [h : Pr p] : 0 < p := by rcases h.pr with e | e | e | e <;> omega
theorem Pr.le {p : Int} [h : Pr p] : p ≤ 7 := by rcases h.pr with e | e | e | e <;> omega
theorem Pr.gt {p : Int} [h : Pr p] : 1 < p := by rcases h.pr with e | e | e | e <;> omega
structure Fp (p : Int) where
  v : Int
  lo : 0 ≤ v
  hi : v < p
namespace Fp
variable {p : Int}
theorem ext {a b : Fp p} (h : a.v = b.v) : a = b := by cases a; cases b; cases h; rfl
theorem ext_iff {a b : Fp p} : a = b ↔ a.v = b.v := ⟨fun h => by rw [h], ext⟩
instance : DecidableEq (Fp p) := fun a b => decidable_of_iff (a.v = b.v) ext_iff.symm
variable [Pr p]
def of (x : Int) : Fp p := ⟨x % p, Int.emod_nonneg _ (by have := Pr.pos (p := p); omega), Int.emod_lt_of_pos _ Pr.pos⟩
theorem of_self (a : Fp p) : of a.v = a := ext (Int.emod_eq_of_lt a.lo a.hi)
theorem of_eq {x y : Int} (h : x % p = y % p) : (of x : Fp p) = of y := ext h
theorem v_mod (a : Fp p) : a.v % p = a.v := Int.emod_eq_of_lt a.lo a.hi
def powN (a : Fp p) : Nat → Fp p
  | 0 => of 1
  | n + 1 => of ((powN a n).v * a.v)
def inv (a : Fp p) : Fp p := if a.v = 0 then of 0 else powN a (p - 2).toNat
def powZ (a : Fp p) : Int → Fp p
  | .ofNat n => powN a n
  | .negSucc n => inv (powN a (n + 1))
theorem mm1 (x y : Int) : (x % p * y) % p = (x * y) % p := by rw [Int.mul_emod, Int.emod_emod_of_dvd _ (Int.dvd_refl p), ← Int.mul_emod]
theorem mm2 (x y : Int) : (x * (y % p)) % p = (x * y) % p := by rw [Int.mul_comm, mm1, Int.mul_comm]
theorem ng (i : Int) : (-(i % p)) % p = (-i) % p := by
  have : -(i % p) = -i + p * (i / p) := by have := Int.emod_add_mul_ediv i p; omega
  rw [this, Int.add_mul_emod_self_left]
instance : Lean.Grind.Semiring (Fp p) where
  add a b := of (a.v + b.v)
  mul a b := of (a.v * b.v)
  natCast := ⟨fun n => of n⟩
  ofNat n := ⟨of n⟩
  nsmul := ⟨fun n a => of ((n : Int) % p * a.v)⟩
  npow := ⟨powN⟩
  add_zero a := ext (by show (a.v + 0 % p) % p = a.v; simp [v_mod])
  add_comm a b := ext (by show (a.v + b.v) % p = (b.v + a.v) % p; rw [Int.add_comm])
  add_assoc a b c := ext (by show ((a.v + b.v) % p + c.v) % p = (a.v + (b.v + c.v) % p) % p; simp [Int.add_assoc])
  mul_assoc a b c := ext (by show ((a.v * b.v) % p * c.v) % p = (a.v * ((b.v * c.v) % p)) % p; rw [mm1, mm2, Int.mul_assoc])
  mul_one a := ext (by show (a.v * (1 % p)) % p = a.v; rw [mm2, Int.mul_one, v_mod])
  one_mul a := ext (by show ((1 % p) * a.v) % p = a.v; rw [mm1, Int.one_mul, v_mod])
  left_distrib a b c := ext (by show (a.v * ((b.v + c.v) % p)) % p = ((a.v * b.v) % p + (a.v * c.v) % p) % p; rw [mm2, Int.mul_add, Int.add_emod])
  right_distrib a b c := ext (by show (((a.v + b.v) % p) * c.v) % p = ((a.v * c.v) % p + (b.v * c.v) % p) % p; rw [mm1, Int.add_mul, Int.add_emod])
  zero_mul a := ext (by show ((0 % p) * a.v) % p = 0 % p; simp)
  mul_zero a := ext (by show (a.v * (0 % p)) % p = 0 % p; simp)
  pow_zero a := rfl
  pow_succ a n := rfl
  ofNat_succ n := ext (by show ((n + 1 : Nat) : Int) % p = ((n : Int) % p + ((1 : Nat) : Int) % p) % p; simp)
  ofNat_eq_natCast n := rfl
  nsmul_eq_natCast_mul n a := rfl
instance : Lean.Grind.Ring (Fp p) where
  neg a := of (-a.v)
  sub a b := of (a.v - b.v)
  intCast := ⟨of⟩
  zsmul := ⟨fun i a => of (i % p * a.v)⟩
  neg_add_cancel a := ext (by show ((-a.v) % p + a.v) % p = ((0 : Nat) : Int) % p; simp [Int.add_left_neg])
  sub_eq_add_neg a b := ext (by show (a.v - b.v) % p = (a.v + (-b.v) % p) % p; rw [Int.add_emod_emod]; rfl)
  neg_zsmul i a := ext (by
    show ((-i) % p * a.v) % p = (-((i % p * a.v) % p)) % p
    rw [mm1, Int.neg_mul, mm1, ng])
  zsmul_natCast_eq_nsmul n a := rfl
  intCast_ofNat n := rfl
  intCast_neg i := ext (by show (-i) % p = (-(i % p)) % p; exact (ng _).symm)
instance : Lean.Grind.CommRing (Fp p) where
  mul_comm a b := ext (by show (a.v * b.v) % p = (b.v * a.v) % p; rw [Int.mul_comm])
theorem zero_v : (0 : Fp p).v = 0 := by show ((0 : Nat) : Int) % p = 0; simp
theorem one_v : (1 : Fp p).v = 1 := by show ((1 : Nat) : Int) % p = 1; exact Int.emod_eq_of_lt (by omega) (by have := Pr.gt (p := p); omega)
theorem inv_mul {a : Fp p} (h : a.v ≠ 0) : (inv a).v * a.v % p = 1 := by
  have hp := Pr.pr (p := p)
  have lo := a.lo
  have hi := a.hi
  unfold inv
  rw [if_neg h]
  obtain ⟨x, l, u⟩ := a
  simp only at h lo hi ⊢
  rcases hp with rfl | rfl | rfl | rfl
  · have : x = 1 := by omega
    subst this; rfl
  · have : x = 1 ∨ x = 2 := by omega
    rcases this with rfl | rfl <;> rfl
  · have : x = 1 ∨ x = 2 ∨ x = 3 ∨ x = 4 := by omega
    rcases this with rfl | rfl | rfl | rfl <;> rfl
  · have : x = 1 ∨ x = 2 ∨ x = 3 ∨ x = 4 ∨ x = 5 ∨ x = 6 := by omega
    rcases this with rfl | rfl | rfl | rfl | rfl | rfl <;> rfl
instance : Lean.Grind.Field (Fp p) where
  inv := inv
  div a b := a * inv b
  zpow := ⟨powZ⟩
  div_eq_mul_inv a b := rfl
  zero_ne_one h := by
    have := congrArg Fp.v h
    rw [zero_v, one_v] at this
    omega
  inv_zero := by
    show inv (0 : Fp p) = 0
    unfold inv
    rw [if_pos zero_v]
    rfl
  mul_inv_cancel {a} h := by
    refine ext ?_
    have : a.v ≠ 0 := fun e => h (ext (by rw [e, zero_v]))
    show (a.v * (inv a).v) % p = ((1 : Nat) : Int) % p
    rw [Int.mul_comm, inv_mul this]
    exact one_v.symm
  zpow_zero a := rfl
  zpow_succ a n := by
    show powZ a (((n + 1 : Nat)) : Int) = powZ a (n : Int) * a
    rfl
  zpow_neg a n := by
    show powZ a (-n) = inv (powZ a n)
    have inv1 : inv (of 1 : Fp p) = of 1 := by
      refine ext ?_
      have h1 : (of 1 : Fp p).v = 1 := one_v
      have := inv_mul (a := (of 1 : Fp p)) (by rw [h1]; omega)
      rw [h1, Int.mul_one, v_mod] at this
      rw [this, h1]
    have invinv : ∀ b : Fp p, inv (inv b) = b := fun b => by
      by_cases z : b.v = 0
      · have : inv b = b := by unfold inv; rw [if_pos z]; exact ext (by rw [z]; exact zero_v)
        rw [this, this]
      · have e1 := inv_mul z
        have z2 : (inv b).v ≠ 0 := fun q => by rw [q] at e1; simp at e1
        have e2 := inv_mul z2
        refine ext ?_
        have : ((inv (inv b)).v * ((inv b).v * b.v % p)) % p = ((inv (inv b)).v * (inv b).v % p * b.v) % p := by
          rw [mm1, mm2, Int.mul_assoc]
        rw [e1, e2, Int.mul_one, Int.one_mul, v_mod, v_mod] at this
        exact this
    cases n with
    | ofNat n =>
      cases n with
      | zero => exact inv1.symm
      | succ n => rfl
    | negSucc n =>
      show powN a (n + 1) = inv (inv (powN a (n + 1)))
      rw [invinv]
end Fp
section
variable {K : Type} [Lean.Grind.CommRing K]
def sm : Nat → (Nat → K) → K
  | 0, _ => 0
  | n + 1, f => sm n f + f n
def mm (w : Nat) (A B : Nat → Nat → K) : Nat → Nat → K := fun i j => sm w fun k => A i k * B k j
end
end La
namespace La
section
variable {K : Type} [Lean.Grind.Field K] [DecidableEq K]
inductive Spn (L : List (Nat → K)) : (Nat → K) → Prop
  | zero : Spn L (fun _ => 0)
  | add (c : K) {b v : Nat → K} : b ∈ L → Spn L v → Spn L (fun i => v i + c * b i)
theorem Spn.eq {L : List (Nat → K)} {v w : Nat → K} (h : Spn L v) (e : ∀ i, w i = v i) : Spn L w := by
  have : w = v := funext e
  rw [this]; exact h
theorem Spn.mem {L : List (Nat → K)} {b : Nat → K} (h : b ∈ L) : Spn L b := (Spn.add 1 h .zero).eq fun i => by grind
theorem Spn.plus {L : List (Nat → K)} {v w : Nat → K} (hv : Spn L v) (hw : Spn L w) : Spn L (fun i => v i + w i) := by
  induction hw with
  | zero => exact hv.eq fun i => by grind
  | add c hb _ ih => exact (ih.add c hb).eq fun i => by grind
theorem Spn.smul {L : List (Nat → K)} {v : Nat → K} (c : K) (hv : Spn L v) : Spn L (fun i => c * v i) := by
  induction hv with
  | zero => exact Spn.zero.eq fun i => by grind
  | add d hb _ ih => exact (ih.add (c * d) hb).eq fun i => by grind
theorem Spn.sub {L : List (Nat → K)} {v w : Nat → K} (hv : Spn L v) (hw : Spn L w) : Spn L (fun i => v i - w i) := ((hv.plus (hw.smul (-1)))).eq fun i => by grind
theorem Spn.less {L : List (Nat → K)} {v w : Nat → K} (c : K) (hv : Spn L v) (hw : Spn L w) : Spn L (fun i => v i - c * w i) := hv.sub (hw.smul c)
theorem Spn.mono {L M : List (Nat → K)} (h : ∀ b ∈ L, Spn M b) {v : Nat → K} (hv : Spn L v) : Spn M v := by
  induction hv with
  | zero => exact .zero
  | add c hb _ ih => exact (ih.plus ((h _ hb).smul c))
theorem Spn.sup {L : List (Nat → K)} {n : Nat} (h : ∀ b ∈ L, ∀ i, n ≤ i → b i = 0) {v : Nat → K} (hv : Spn L v) : ∀ i, n ≤ i → v i = 0 := by
  induction hv with
  | zero => intro i _; rfl
  | add c hb _ ih => intro i hi; have := ih i hi; have := h _ hb i hi; grind
structure Rf (n : Nat) (ps : List (Nat × (Nat → K))) : Prop where
  inc : ps.Pairwise (fun a b => a.1 < b.1)
  one : ∀ q ∈ ps, q.2 q.1 = 1
  low : ∀ q ∈ ps, ∀ i, i < q.1 → q.2 i = 0
  oth : ∀ q ∈ ps, ∀ r ∈ ps, q.1 ≠ r.1 → r.2 q.1 = 0
  lt : ∀ q ∈ ps, q.1 < n
  sup : ∀ q ∈ ps, ∀ i, n ≤ i → q.2 i = 0
def vs (ps : List (Nat × (Nat → K))) : List (Nat → K) := ps.map Prod.snd
theorem mem_vs {ps : List (Nat × (Nat → K))} {b : Nat → K} : b ∈ vs ps ↔ ∃ q ∈ ps, q.2 = b := by unfold vs; rw [List.mem_map]
def cmb (ps : List (Nat × (Nat → K))) (v : Nat → K) (i : Nat) : K := ps.foldr (fun q s => v q.1 * q.2 i + s) 0
theorem cmb_cons (q : Nat × (Nat → K)) (ps : List (Nat × (Nat → K))) (v : Nat → K) (i : Nat) : cmb (q :: ps) v i = v q.1 * q.2 i + cmb ps v i := rfl
theorem cmb_zero (ps : List (Nat × (Nat → K))) (v : Nat → K) (h : ∀ q ∈ ps, v q.1 = 0) (i : Nat) : cmb ps v i = 0 := by
  induction ps with
  | nil => rfl
  | cons q ps ih =>
    rw [cmb_cons, h q (by simp), ih fun r hr => h r (by simp [hr])]
    grind
theorem cmb_add (ps : List (Nat × (Nat → K))) (v w : Nat → K) (c : K) (i : Nat) : cmb ps (fun j => v j + c * w j) i = cmb ps v i + c * cmb ps w i := by
  induction ps with
  | nil => show (0 : K) = 0 + c * 0; grind
  | cons q ps ih => rw [cmb_cons, cmb_cons, cmb_cons, ih]; grind
theorem cmb_one (ps : List (Nat × (Nat → K))) (inc : ps.Pairwise (fun a b => a.1 < b.1)) {q : Nat × (Nat → K)} (hq : q ∈ ps) (v : Nat → K) (h1 : v q.1 = 1) (h0 : ∀ r ∈ ps, r.1 ≠ q.1 → v r.1 = 0) (i : Nat) : cmb ps v i = q.2 i := by
  induction ps with
  | nil => simp at hq
  | cons r ps ih =>
    have hp := List.pairwise_cons.mp inc
    rw [cmb_cons]
    rcases List.mem_cons.mp hq with rfl | hq
    · rw [h1, cmb_zero ps v fun r hr => h0 r (by simp [hr]) (by have := hp.1 r hr; omega)]
      grind
    · have := hp.1 q hq
      rw [h0 r (by simp) (by omega), ih hp.2 hq fun r hr => h0 r (by simp [hr])]
      grind
theorem Rf.coord {n : Nat} {ps : List (Nat × (Nat → K))} (R : Rf n ps) {v : Nat → K} (h : Spn (vs ps) v) : ∀ i, v i = cmb ps v i := by
  induction h with
  | zero => intro i; exact (cmb_zero ps _ (fun _ _ => rfl) i).symm
  | add c hb _ ih =>
    intro i
    rw [cmb_add, ← ih i]
    obtain ⟨q, hq, rfl⟩ := mem_vs.mp hb
    rw [cmb_one ps R.inc hq q.2 (R.one q hq) (fun r hr e => R.oth r hr q hq e) i]
theorem Rf.null {n : Nat} {ps : List (Nat × (Nat → K))} (R : Rf n ps) {v : Nat → K} (h : Spn (vs ps) v) (z : ∀ q ∈ ps, v q.1 = 0) : ∀ i, v i = 0 := fun i => by
  rw [R.coord h i, cmb_zero ps v z]
theorem cmb_low (ps : List (Nat × (Nat → K))) (v : Nat → K) (i : Nat) (h : ∀ q ∈ ps, v q.1 = 0 ∨ q.2 i = 0) : cmb ps v i = 0 := by
  induction ps with
  | nil => rfl
  | cons q ps ih =>
    rw [cmb_cons, ih fun r hr => h r (by simp [hr])]
    rcases h q (by simp) with e | e <;> rw [e] <;> grind
theorem Rf.lead {n : Nat} {ps : List (Nat × (Nat → K))} (R : Rf n ps) {v : Nat → K} (h : Spn (vs ps) v) {l : Nat} (hl : v l ≠ 0) (z : ∀ i, i < l → v i = 0) : ∃ q ∈ ps, q.1 = l := by
  have step : ∀ ps' : List (Nat × (Nat → K)), (∀ q ∈ ps', q ∈ ps) → ps'.Pairwise (fun a b => a.1 < b.1) → (∀ q ∈ ps, q ∈ ps' ∨ v q.1 = 0) → ∃ q ∈ ps, q.1 = l := fun ps' => by
    induction ps' with
    | nil =>
      intro _ _ hz
      exact absurd (R.null h (fun q hq => (hz q hq).elim (fun a => absurd a (by simp)) id) l) hl
    | cons q ps' ih =>
      intro hs hp hz
      have hp := List.pairwise_cons.mp hp
      by_cases e : v q.1 = 0
      · refine ih (fun r hr => hs r (by simp [hr])) hp.2 fun r hr => ?_
        rcases hz r hr with a | a
        · rcases List.mem_cons.mp a with rfl | a
          · exact .inr e
          · exact .inl a
        · exact .inr a
      · refine ⟨q, hs q (by simp), ?_⟩
        have low : ∀ i, i < q.1 → v i = 0 := fun i hi => by
          rw [R.coord h i]
          refine cmb_low ps v i fun r hr => ?_
          rcases hz r hr with a | a
          · rcases List.mem_cons.mp a with rfl | a
            · exact .inr (R.low r hr i hi)
            · have := hp.1 r a
              exact .inr (R.low r hr i (by omega))
          · exact .inl a
        rcases Nat.lt_trichotomy q.1 l with a | a | a
        · exact absurd (z _ a) e
        · exact a
        · exact absurd (low _ a) hl
  exact step ps (fun q hq => hq) R.inc fun q hq => .inl hq
theorem Rf.mem_iff {n : Nat} {ps : List (Nat × (Nat → K))} (R : Rf n ps) (q : Nat × (Nat → K)) : q ∈ ps ↔ Spn (vs ps) q.2 ∧ q.2 q.1 = 1 ∧ (∀ i, i < q.1 → q.2 i = 0) ∧ ∀ v l, Spn (vs ps) v → v l ≠ 0 → (∀ i, i < l → v i = 0) → l ≠ q.1 → q.2 l = 0 := by
  constructor
  · intro hq
    refine ⟨Spn.mem (mem_vs.mpr ⟨q, hq, rfl⟩), R.one q hq, R.low q hq, fun v l hv hl z e => ?_⟩
    obtain ⟨r, hr, rfl⟩ := R.lead hv hl z
    exact R.oth r hr q hq e
  · rintro ⟨h1, h2, h3, h4⟩
    obtain ⟨r, hr, e⟩ := R.lead h1 (l := q.1) (by rw [h2]; intro e; exact Lean.Grind.Field.zero_ne_one e.symm) h3
    have : q.2 = r.2 := funext fun i => by
      have d := h1.sub (Spn.mem (mem_vs.mpr ⟨r, hr, rfl⟩))
      have := R.null d (fun s hs => by
        by_cases es : s.1 = q.1
        · rw [es, h2, ← e, R.one r hr]; grind
        · rw [h4 s.2 s.1 (Spn.mem (mem_vs.mpr ⟨s, hs, rfl⟩)) (by rw [R.one s hs]; intro e; exact Lean.Grind.Field.zero_ne_one e.symm) (R.low s hs) es, R.oth s hs r hr (by omega)]; grind) i
      grind
    have : q = r := Prod.ext e.symm this
    rw [this]
    exact hr
theorem Rf.nodup {n : Nat} {ps : List (Nat × (Nat → K))} (R : Rf n ps) : ps.Nodup := R.inc.imp fun {a b} h e => by rw [e] at h; omega
structure At (n q : Nat) (rows : List (Nat → K)) (ps : List (Nat × (Nat → K))) : Prop where
  rf : Rf n ps
  ahead : ∀ r ∈ ps, r.1 < q
  zero : ∀ r ∈ rows, ∀ i, i < q → r i = 0
  sup : ∀ r ∈ rows, ∀ i, n ≤ i → r i = 0
theorem At.start {n : Nat} {rows : List (Nat → K)} (h : ∀ r ∈ rows, ∀ i, n ≤ i → r i = 0) : At n 0 rows [] :=
  ⟨⟨.nil, fun q h => absurd h (by simp), fun q h => absurd h (by simp), fun q h => absurd h (by simp), fun q h => absurd h (by simp), fun q h => absurd h (by simp)⟩, fun q h => absurd h (by simp), fun r _ i hi => absurd hi (by omega), h⟩
theorem At.skip {n q : Nat} {rows : List (Nat → K)} {ps : List (Nat × (Nat → K))} (A : At n q rows ps) (h : ∀ r ∈ rows, r q = 0) : At n (q + 1) rows ps :=
  ⟨A.rf, fun r hr => Nat.lt_succ_of_lt (A.ahead r hr), fun r hr i hi => by
    rcases Nat.lt_succ_iff_lt_or_eq.mp hi with a | rfl
    · exact A.zero r hr i a
    · exact h r hr, A.sup⟩
def cut (c : Nat → K) (q : Nat) (r : Nat → K) : Nat → K := fun i => r i - r q * c i
theorem At.step {n q : Nat} {rows : List (Nat → K)} {ps : List (Nat × (Nat → K))} (A : At n q rows ps) (hq : q < n) {k : Nat} {r0 : Nat → K} (hk : rows[k]? = some r0) (h : r0 q ≠ 0) :
    At n (q + 1) ((rows.eraseIdx k).map (cut (fun i => (r0 q)⁻¹ * r0 i) q)) (ps.map (fun b => (b.1, cut (fun i => (r0 q)⁻¹ * r0 i) q b.2)) ++ [(q, fun i => (r0 q)⁻¹ * r0 i)]) ∧
    ∀ v, Spn (((rows.eraseIdx k).map (cut (fun i => (r0 q)⁻¹ * r0 i) q)) ++ vs (ps.map (fun b => (b.1, cut (fun i => (r0 q)⁻¹ * r0 i) q b.2)) ++ [(q, fun i => (r0 q)⁻¹ * r0 i)])) v ↔ Spn (rows ++ vs ps) v := by
  have hm : r0 ∈ rows := List.mem_of_getElem? hk
  have c1 : (r0 q)⁻¹ * r0 q = 1 := by grind
  have c0 : ∀ i, i < q → (r0 q)⁻¹ * r0 i = 0 := fun i hi => by rw [A.zero r0 hm i hi]; grind
  have cs : ∀ i, n ≤ i → (r0 q)⁻¹ * r0 i = 0 := fun i hi => by rw [A.sup r0 hm i hi]; grind
  have er : ∀ r ∈ rows.eraseIdx k, r ∈ rows := fun r hr => List.mem_of_mem_eraseIdx hr
  generalize hc : (fun i => (r0 q)⁻¹ * r0 i) = c at *
  have c1 : c q = 1 := by rw [← hc]; exact c1
  have c0 : ∀ i, i < q → c i = 0 := fun i hi => by rw [← hc]; exact c0 i hi
  have cs : ∀ i, n ≤ i → c i = 0 := fun i hi => by rw [← hc]; exact cs i hi
  have inv : ∀ r ∈ ps.map (fun b => (b.1, cut c q b.2)) ++ [(q, c)], (∃ b ∈ ps, r = (b.1, cut c q b.2)) ∨ r = (q, c) := fun r hr => by
    rcases List.mem_append.mp hr with hr | hr
    · obtain ⟨b, hb, rfl⟩ := List.mem_map.mp hr
      exact .inl ⟨b, hb, rfl⟩
    · exact .inr (List.mem_singleton.mp hr)
  refine ⟨⟨⟨?_, ?_, ?_, ?_, ?_, ?_⟩, ?_, ?_, ?_⟩, fun v => ⟨Spn.mono fun b hb => ?_, Spn.mono fun b hb => ?_⟩⟩
  · refine List.pairwise_append.mpr ⟨List.pairwise_map.mpr A.rf.inc, List.pairwise_singleton _ _, fun a ha b hb => ?_⟩
    obtain ⟨x, hx, rfl⟩ := List.mem_map.mp ha
    rw [List.mem_singleton.mp hb]
    exact A.ahead x hx
  · intro r hr
    rcases inv r hr with ⟨b, hb, rfl⟩ | rfl
    · show b.2 b.1 - b.2 q * c b.1 = 1
      rw [A.rf.one b hb, c0 _ (A.ahead b hb)]; grind
    · exact c1
  · intro r hr i hi
    rcases inv r hr with ⟨b, hb, rfl⟩ | rfl
    · have hi : i < b.1 := hi
      have := A.ahead b hb
      show b.2 i - b.2 q * c i = 0
      rw [A.rf.low b hb i hi, c0 i (by omega)]; grind
    · exact c0 i hi
  · intro r hr s hs e
    rcases inv r hr with ⟨b, hb, rfl⟩ | rfl
    · rcases inv s hs with ⟨d, hd, rfl⟩ | rfl
      · show d.2 b.1 - d.2 q * c b.1 = 0
        rw [A.rf.oth b hb d hd e, c0 _ (A.ahead b hb)]; grind
      · exact c0 _ (A.ahead b hb)
    · rcases inv s hs with ⟨d, hd, rfl⟩ | rfl
      · show d.2 q - d.2 q * c q = 0
        rw [c1]; grind
      · exact absurd rfl e
  · intro r hr
    rcases inv r hr with ⟨b, hb, rfl⟩ | rfl
    · exact A.rf.lt b hb
    · exact hq
  · intro r hr i hi
    rcases inv r hr with ⟨b, hb, rfl⟩ | rfl
    · show b.2 i - b.2 q * c i = 0
      rw [A.rf.sup b hb i hi, cs i hi]; grind
    · exact cs i hi
  · intro r hr
    rcases inv r hr with ⟨b, hb, rfl⟩ | rfl
    · exact Nat.lt_succ_of_lt (A.ahead b hb)
    · exact Nat.lt_succ_self q
  · intro r hr i hi
    obtain ⟨x, hx, rfl⟩ := List.mem_map.mp hr
    show x i - x q * c i = 0
    rcases Nat.lt_succ_iff_lt_or_eq.mp hi with a | rfl
    · rw [A.zero x (er x hx) i a, c0 i a]; grind
    · rw [c1]; grind
  · intro r hr i hi
    obtain ⟨x, hx, rfl⟩ := List.mem_map.mp hr
    show x i - x q * c i = 0
    rw [A.sup x (er x hx) i hi, cs i hi]; grind
  · have hcS : Spn (rows ++ vs ps) c := by
      rw [← hc]
      exact (Spn.mem (List.mem_append_left _ hm)).smul _
    rcases List.mem_append.mp hb with hb | hb
    · obtain ⟨x, hx, rfl⟩ := List.mem_map.mp hb
      exact (Spn.mem (List.mem_append_left _ (er x hx))).less (x q) hcS
    · obtain ⟨r, hr, rfl⟩ := mem_vs.mp hb
      rcases inv r hr with ⟨b, hb2, rfl⟩ | rfl
      · exact (Spn.mem (List.mem_append_right _ (mem_vs.mpr ⟨b, hb2, rfl⟩))).less (b.2 q) hcS
      · exact hcS
  · have hcS : Spn ((rows.eraseIdx k).map (cut c q) ++ vs (ps.map (fun b => (b.1, cut c q b.2)) ++ [(q, c)])) c := Spn.mem (List.mem_append_right _ (mem_vs.mpr ⟨(q, c), by simp, rfl⟩))
    have back : ∀ x : Nat → K, Spn ((rows.eraseIdx k).map (cut c q) ++ vs (ps.map (fun b => (b.1, cut c q b.2)) ++ [(q, c)])) (cut c q x) → Spn ((rows.eraseIdx k).map (cut c q) ++ vs (ps.map (fun b => (b.1, cut c q b.2)) ++ [(q, c)])) x := fun x hx => (hx.plus (hcS.smul (x q))).eq fun i => by
      show x i = (x i - x q * c i) + x q * c i
      grind
    rcases List.mem_append.mp hb with hb | hb
    · obtain ⟨j, hj, rfl⟩ := List.getElem_of_mem hb
      by_cases e : j = k
      · subst e
        have : rows[j] = r0 := by rw [List.getElem?_eq_getElem hj] at hk; exact Option.some.inj hk
        rw [this]
        refine (hcS.smul (r0 q)).eq fun i => ?_
        rw [← hc]
        grind
      · refine back _ (Spn.mem (List.mem_append_left _ (List.mem_map.mpr ⟨rows[j], ?_, rfl⟩)))
        refine List.mem_iff_getElem?.mpr ?_
        by_cases l : j < k
        · exact ⟨j, by rw [List.getElem?_eraseIdx, if_pos l]; exact List.getElem?_eq_getElem hj⟩
        · exact ⟨j - 1, by rw [List.getElem?_eraseIdx, if_neg (by omega), show j - 1 + 1 = j by omega]; exact List.getElem?_eq_getElem hj⟩
    · obtain ⟨b', hb', rfl⟩ := mem_vs.mp hb
      exact back _ (Spn.mem (List.mem_append_right _ (mem_vs.mpr ⟨(b'.1, cut c q b'.2), List.mem_append_left _ (List.mem_map.mpr ⟨b', hb', rfl⟩), rfl⟩)))
theorem Rf.put {n l : Nat} {ps qs : List (Nat × (Nat → K))} (R : Rf n ps) {r : Nat → K} (hz : ∀ q ∈ ps, r q.1 = 0) (hl : r l ≠ 0) (low : ∀ i, i < l → r i = 0) (ln : l < n) (sup : ∀ i, n ≤ i → r i = 0)
    (pm : qs.Perm (ps.map (fun q => (q.1, cut (fun i => (r l)⁻¹ * r i) l q.2)) ++ [(l, fun i => (r l)⁻¹ * r i)])) (inc : qs.Pairwise (fun a b => a.1 < b.1)) : Rf n qs ∧ ∀ v, Spn (vs qs) v ↔ Spn (vs ps ++ [r]) v := by
  have c1 : (r l)⁻¹ * r l = 1 := by grind
  have c0 : ∀ i, i < l → (r l)⁻¹ * r i = 0 := fun i hi => by rw [low i hi]; grind
  have cz : ∀ q ∈ ps, (r l)⁻¹ * r q.1 = 0 := fun q hq => by rw [hz q hq]; grind
  have cs : ∀ i, n ≤ i → (r l)⁻¹ * r i = 0 := fun i hi => by rw [sup i hi]; grind
  have ne : ∀ q ∈ ps, q.1 ≠ l := fun q hq e => hl (by rw [← e]; exact hz q hq)
  have crs : Spn (vs ps ++ [r]) (fun i => (r l)⁻¹ * r i) := (Spn.mem (b := r) (by simp)).smul _
  have rc : ∀ i, r i = r l * ((r l)⁻¹ * r i) := fun i => by grind
  generalize hc : (fun i => (r l)⁻¹ * r i) = c at *
  have c1 : c l = 1 := by rw [← hc]; exact c1
  have c0 : ∀ i, i < l → c i = 0 := fun i hi => by rw [← hc]; exact c0 i hi
  have cz : ∀ q ∈ ps, c q.1 = 0 := fun q hq => by rw [← hc]; exact cz q hq
  have cs : ∀ i, n ≤ i → c i = 0 := fun i hi => by rw [← hc]; exact cs i hi
  have rc : ∀ i, r i = r l * c i := fun i => by rw [← hc]; exact rc i
  have inv : ∀ s ∈ qs, (∃ b ∈ ps, s = (b.1, cut c l b.2)) ∨ s = (l, c) := fun s hs => by
    rcases List.mem_append.mp (pm.mem_iff.mp hs) with hs | hs
    · obtain ⟨b, hb, rfl⟩ := List.mem_map.mp hs
      exact .inl ⟨b, hb, rfl⟩
    · exact .inr (List.mem_singleton.mp hs)
  have cq : (l, c) ∈ qs := pm.mem_iff.mpr (by simp)
  refine ⟨⟨inc, fun s hs => ?_, fun s hs i hi => ?_, fun s hs t ht e => ?_, fun s hs => ?_, fun s hs i hi => ?_⟩, fun v => ⟨Spn.mono fun b hb => ?_, Spn.mono fun b hb => ?_⟩⟩
  · rcases inv s hs with ⟨b, hb, rfl⟩ | rfl
    · show b.2 b.1 - b.2 l * c b.1 = 1
      rw [R.one b hb, cz b hb]; grind
    · exact c1
  · rcases inv s hs with ⟨b, hb, rfl⟩ | rfl
    · have hi : i < b.1 := hi
      show b.2 i - b.2 l * c i = 0
      rw [R.low b hb i hi]
      by_cases q : l < b.1
      · rw [R.low b hb l q]; grind
      · rw [c0 i (by omega)]; grind
    · exact c0 i hi
  · rcases inv s hs with ⟨b, hb, rfl⟩ | rfl
    · rcases inv t ht with ⟨d, hd, rfl⟩ | rfl
      · show d.2 b.1 - d.2 l * c b.1 = 0
        rw [R.oth b hb d hd e, cz b hb]; grind
      · exact cz b hb
    · rcases inv t ht with ⟨d, hd, rfl⟩ | rfl
      · show d.2 l - d.2 l * c l = 0
        rw [c1]; grind
      · exact absurd rfl e
  · rcases inv s hs with ⟨b, hb, rfl⟩ | rfl
    · exact R.lt b hb
    · exact ln
  · rcases inv s hs with ⟨b, hb, rfl⟩ | rfl
    · show b.2 i - b.2 l * c i = 0
      rw [R.sup b hb i hi, cs i hi]; grind
    · exact cs i hi
  · obtain ⟨s, hs, rfl⟩ := mem_vs.mp hb
    rcases inv s hs with ⟨b, hb2, rfl⟩ | rfl
    · exact (Spn.mem (List.mem_append_left _ (mem_vs.mpr ⟨b, hb2, rfl⟩))).less (b.2 l) crs
    · exact crs
  · have hcS : Spn (vs qs) c := Spn.mem (mem_vs.mpr ⟨(l, c), cq, rfl⟩)
    rcases List.mem_append.mp hb with hb | hb
    · obtain ⟨b', hb', rfl⟩ := mem_vs.mp hb
      have : (b'.1, cut c l b'.2) ∈ qs := pm.mem_iff.mpr (List.mem_append_left _ (List.mem_map.mpr ⟨b', hb', rfl⟩))
      refine ((Spn.mem (mem_vs.mpr ⟨_, this, rfl⟩)).plus (hcS.smul (b'.2 l))).eq fun i => ?_
      show b'.2 i = (b'.2 i - b'.2 l * c i) + b'.2 l * c i
      grind
    · rw [List.mem_singleton.mp hb]
      exact (hcS.smul (r l)).eq rc
open Classical in
noncomputable def bse (n : Nat) (S : (Nat → K) → Prop) : List (Nat × (Nat → K)) := if h : ∃ ps, Rf n ps ∧ ∀ v, Spn (vs ps) v ↔ S v then h.choose else []
def rowsOf (h w : Nat) (A : Nat → Nat → K) : List (Nat → K) := (List.range h).map fun i j => if j < w then A i j else 0
def tr (A : Nat → Nat → K) : Nat → Nat → K := fun i j => A j i
noncomputable def rk (h w : Nat) (A : Nat → Nat → K) : Nat := (bse w (Spn (rowsOf h w A))).length
end
end La
namespace La
section
variable {K : Type} [Lean.Grind.Field K] [DecidableEq K]
def dt (n : Nat) (u v : Nat → K) : K := sm n fun k => u k * v k
def isLead (ps : List (Nat × (Nat → K))) (i : Nat) : Bool := ps.any fun q => q.1 == i
structure Kv (ps : List (Nat × (Nat → K))) (j : Nat) (v : Nat → K) : Prop where
  at_ : ∀ q ∈ ps, v q.1 = - q.2 j
  no : ∀ i, isLead ps i = false → v i = if i = j then 1 else 0
end
end La
namespace La
variable {K : Type} [Lean.Grind.Field K] [DecidableEq K]
end La
set_option maxHeartbeats 4000000
namespace Mn
open PySem PySem.Spec PyProof.Rows
open L2 (atI ixN cutS)
end Mn
namespace Mn
open PySem PySem.Spec PyProof.Rows
open L2 (atI ixN cutS)
end Mn
namespace Mn
open PySem PySem.Spec PyProof.Rows
open L2 (atI ixN cutS)
end Mn
namespace Mn
open PySem PySem.Spec PyProof.Rows
open L2 (atI ixN cutS)
end Mn
namespace Mn
open PySem PySem.Spec PyProof.Rows
open L2 (atI ixN cutS)
end Mn
namespace Mn
open PySem PySem.Spec PyProof.Rows
open L2 (atI ixN cutS)
end Mn
namespace Mn
open PySem PySem.Spec PyProof.Rows
open L2 (atI ixN cutS)
end Mn
namespace Mn
open PySem PySem.Spec PyProof.Rows
open L2 (atI ixN cutS)
end Mn
namespace Mn
open PySem PySem.Spec PyProof.Rows
open L2 (atI ixN cutS)
end Mn
set_option maxHeartbeats 1000000
namespace La
open Mn
open PySem
open L2 (atI ixN atI_nat)
theorem lim : LIM = 1000000 := rfl
theorem mulG_l {x y : Int} (h1 : -1000000000000000 ≤ x) (h2 : x ≤ 1000000000000000) : mulG x y = some (x * y) := by
  unfold mulG
  rw [z_small_of h1 h2]
  rfl
theorem mulG_r {x y : Int} (h1 : -1000000000000000 ≤ y) (h2 : y ≤ 1000000000000000) : mulG x y = some (x * y) := by
  unfold mulG
  rw [z_small_of h1 h2, Bool.or_true]
  rfl
theorem modG_s {x y : Int} (h : 0 < y) : modG x y = some (x % y) := if_pos h
theorem fdivG_s {x y : Int} (h : 0 < y) (h2 : y < 1073741824) : fdivG x y = some (x / y) := if_pos ⟨h, h2⟩
theorem rng1_s {n : Nat} (h : n ≤ 1000000) : rng1 (n : Int) = some ((List.range n).map fun i : Nat => (i : Int)) := by
  unfold rng1
  rw [if_pos ⟨by omega, by omega⟩, Int.toNat_natCast]
theorem rng1_z {n : Int} (h0 : 0 ≤ n) (h : n ≤ 1000000) : rng1 n = some ((List.range n.toNat).map fun i : Nat => (i : Int)) := by
  unfold rng1
  rw [if_pos ⟨by omega, by omega⟩]
theorem mapO_s {α β : Type} {f : α → Option β} {g : α → β} : ∀ {xs : List α}, (∀ x ∈ xs, f x = some (g x)) → mapO f xs = some (xs.map g)
  | [], _ => rfl
  | x :: xs, h => by
    unfold mapO
    rw [h x (by simp), mapO_s fun y hy => h y (by simp [hy])]
    rfl
theorem mapG_s {α β : Type} {f : α → Option β} {xs : List α} (g : α → β) (h : ∀ x ∈ xs, f x = some (g x)) (hl : xs.length ≤ LIM) : mapG xs f = some (xs.map g) := by
  unfold mapG
  rw [if_pos hl, mapO_s h]
theorem mapG_r {α β : Type} {f : α → Option β} {φ : Nat → α} {n : Nat} (g : Nat → β) (h : ∀ i, i < n → f (φ i) = some (g i)) (hl : n ≤ 1000000) : mapG ((List.range n).map φ) f = some ((List.range n).map g) := by
  have : mapO f ((List.range n).map φ) = some ((List.range n).map g) := by
    have : ∀ xs : List Nat, (∀ i ∈ xs, f (φ i) = some (g i)) → mapO f (xs.map φ) = some (xs.map g) := fun xs => by
      induction xs with
      | nil => intro _; rfl
      | cons x xs ih =>
        intro h
        rw [List.map_cons, List.map_cons]
        unfold mapO
        rw [h x (by simp), ih fun i hi => h i (by simp [hi])]
        rfl
    exact this _ fun i hi => h i (List.mem_range.mp hi)
  unfold mapG
  rw [if_pos (by rw [List.length_map, List.length_range, lim]; exact hl), this]
theorem appG_s {α : Type} {xs : List α} {x : α} (h : xs.length < 1000000) : appG xs x = some (xs ++ [x]) := if_pos h
theorem foldO_r {α β : Type} {f : α → List β → Option (List β)} {φ : Nat → α} {n : Nat} (g : Nat → β) (h : ∀ i, i < n → ∀ s, f (φ i) s = appG s (g i)) (hl : n ≤ 1000000) : foldO f ((List.range n).map φ) [] = some ((List.range n).map g) := by
  have : ∀ (xs : List Nat) (s : List β), (∀ i ∈ xs, i < n) → s.length + xs.length ≤ 1000000 → foldO f (xs.map φ) s = some (s ++ xs.map g) := fun xs => by
    induction xs with
    | nil => intro s _ _; simp [foldO]
    | cons x xs ih =>
      intro s hx hs
      rw [List.map_cons]
      unfold foldO
      rw [List.length_cons] at hs
      rw [h x (hx x (by simp)) s, appG_s (by omega)]
      show foldO f (xs.map φ) (s ++ [g x]) = _
      rw [ih _ (fun i hi => hx i (by simp [hi])) (by rw [List.length_append, List.length_cons, List.length_nil]; omega)]
      simp
  have := this (List.range n) [] (fun i hi => List.mem_range.mp hi) (by simp; omega)
  simpa using this
theorem loopO_nx {σ ρ α : Type} {f : α → σ → Option (Lp σ ρ)} {φ : Nat → α} {n : Nat} (S : Nat → σ) (h : ∀ i, i < n → f (φ i) (S i) = some (.nx (S (i + 1)))) : loopO f ((List.range n).map φ) (S 0) = some (.nx (S n)) := by
  induction n generalizing φ S with
  | zero => rfl
  | succ n ih =>
    rw [List.range_succ_eq_map, List.map_cons, List.map_map]
    unfold loopO
    rw [h 0 (by omega)]
    exact ih (φ := φ ∘ Nat.succ) (fun i => S (i + 1)) fun i hi => h (i + 1) (by omega)
theorem zip_r {α β : Type} (f : Nat → α) (g : Nat → β) (n : Nat) : List.zip ((List.range n).map f) ((List.range n).map g) = (List.range n).map fun i => (f i, g i) := by
  generalize List.range n = xs
  induction xs with
  | nil => rfl
  | cons x xs ih => simp [ih]
theorem at_r {α : Type} (f : Nat → α) {n i : Nat} (h : i < n) : atI ((List.range n).map f) (i : Int) = some (f i) := atI_nat (by rw [List.getElem?_map, List.getElem?_range h]; rfl)
theorem r_inj {α : Type} {f g : Nat → α} {n : Nat} : (List.range n).map f = (List.range n).map g ↔ ∀ i, i < n → f i = g i := by
  constructor
  · intro h i hi
    have : ((List.range n).map f)[i]? = ((List.range n).map g)[i]? := by rw [h]
    rw [List.getElem?_map, List.getElem?_map, List.getElem?_range hi] at this
    exact Option.some.inj this
  · intro h
    exact List.map_congr_left fun i hi => h i (List.mem_range.mp hi)
theorem r_len {α : Type} (f : Nat → α) (n : Nat) : ((List.range n).map f).length = n := by rw [List.length_map, List.length_range]
variable {p : Int} [Pr p]
def lst (n : Nat) (v : Nat → Fp p) : List Int := (List.range n).map fun i => (v i).v
def rws (h w : Nat) (A : Nat → Nat → Fp p) : List (List Int) := (List.range h).map fun i => lst w (A i)
def tb (h w : Nat) (A : Nat → Nat → Fp p) : Int × Int × List (List Int) := ((h : Int), (w : Int), rws h w A)
theorem lst_len (n : Nat) (v : Nat → Fp p) : (lst n v).length = n := r_len _ _
theorem rws_len (h w : Nat) (A : Nat → Nat → Fp p) : (rws h w A).length = h := r_len _ _
theorem rws_at {n w i : Nat} (A : Nat → Nat → Fp p) (h : i < n) : atI (rws n w A) (i : Int) = some (lst w (A i)) := at_r _ h
theorem lst_eq {n : Nat} {v w : Nat → Fp p} : lst n v = lst n w ↔ ∀ i, i < n → v i = w i := by
  unfold lst
  rw [r_inj]
  exact ⟨fun h i hi => Fp.ext (h i hi), fun h i hi => by rw [h i hi]⟩
theorem rws_eq {h w : Nat} {A B : Nat → Nat → Fp p} : rws h w A = rws h w B ↔ ∀ i, i < h → ∀ j, j < w → A i j = B i j := by
  unfold rws
  rw [r_inj]
  exact ⟨fun q i hi => lst_eq.mp (q i hi), fun q i hi => lst_eq.mpr (q i hi)⟩
theorem tb_eq {h w : Nat} {A B : Nat → Nat → Fp p} : tb h w A = tb h w B ↔ ∀ i, i < h → ∀ j, j < w → A i j = B i j := by
  unfold tb
  rw [Prod.mk.injEq, Prod.mk.injEq, rws_eq]
  exact ⟨fun q => q.2.2, fun q => ⟨rfl, rfl, q⟩⟩
theorem tb_congr {h w : Nat} {A B : Nat → Nat → Fp p} (q : ∀ i, i < h → ∀ j, j < w → A i j = B i j) : tb h w A = tb h w B := tb_eq.mpr q
theorem pP : 0 < p := Pr.pos
theorem f_law_rests (x : List Int) (hx : x.length ≤ 1000000) : F_law_rests x x = some true := by
  unfold F_law_rests
  have e : mapG x (fun y1 => F_law_whole y1) = some (x.map fun _ => true) := mapG_s (fun _ => true) (fun _ _ => rfl) hx
  rw [e]
  simp
theorem f_law_is_table (h w : Nat) (hh : h ≤ 1000000) (hw : w ≤ 1000000) (A : Nat → Nat → Fp p) : F_law_is_table (tb h w A) (tb h w A) = some true := by
  unfold F_law_is_table
  have e : mapG ((List.range h).map fun i : Nat => (i : Int)) (fun y => (atI (rws h w A) y).bind fun t8 => (atI (rws h w A) y).bind fun t9 => F_law_rests t8 t9) = some ((List.range h).map fun _ => true) := mapG_r (fun _ => true) (fun i hi => by
    rw [rws_at _ hi, Option.bind_some, Option.bind_some]
    exact f_law_rests _ (by rw [lst_len]; exact hw)) hh
  simp [F_law_whole, tb, rws_len, rng1_s hh, e]
end La
set_option maxHeartbeats 4000000
namespace Mn
open PySem PySem.Spec PyProof.Rows
open L2 (atI ixN cutS)
end Mn
namespace Mn
open PySem PySem.Spec PyProof.Rows
open L2 (atI ixN cutS)
end Mn
namespace Mn
open PySem PySem.Spec PyProof.Rows
open L2 (atI ixN cutS)
end Mn
namespace Mn
open PySem PySem.Spec PyProof.Rows
open L2 (atI ixN cutS)
end Mn
namespace Mn
open PySem PySem.Spec PyProof.Rows
open L2 (atI ixN cutS)
end Mn
set_option maxHeartbeats 1000000
namespace La
open Mn
open PySem
open L2 (atI ixN atI_nat)
variable {p : Int} [Pr p]
theorem Fp.v_one {x : Fp p} : x = 1 ↔ x.v = 1 := by
  rw [Fp.ext_iff, Fp.one_v]
end La
namespace La
open Mn
open PySem
open L2 (atI ixN atI_nat)
variable {p : Int} [Pr p]
def eb (n : Nat) (ps : List (Nat × (Nat → Fp p))) : List (Int × List Int) := ps.map fun q => ((q.1 : Int), lst n q.2)
end La
namespace La
open Mn
open PySem
open L2 (atI ixN atI_nat)
theorem at_any {ns : List Int} {i : Int} (h0 : 0 ≤ i) (h1 : i < ns.length) : ∃ x, atI ns i = some x := by
  have : i.toNat < ns.length := by omega
  refine ⟨ns[i.toNat], ?_⟩
  have e : i = ((i.toNat : Nat) : Int) := by omega
  conv => lhs; rw [e]
  exact atI_nat (by rw [List.getElem?_eq_getElem this])
theorem foldO_any {σ α : Type} {f : α → σ → Option σ} (h : ∀ x s, ∃ s', f x s = some s') : ∀ (xs : List α) (s : σ), ∃ s', foldO f xs s = some s'
  | [], s => ⟨s, rfl⟩
  | x :: xs, s => by
    obtain ⟨s1, e⟩ := h x s
    obtain ⟨s2, e2⟩ := foldO_any h xs s1
    exact ⟨s2, by unfold foldO; rw [e]; exact e2⟩
theorem pow9 : powG 10 9 = some 1000000000 := rfl
theorem pow30 : powG 10 30 = some 1000000000000000000000000000000 := rfl
theorem mix_ex (ns : List Int) (hns : ns.length ≤ 1000) (k : Int) (h0 : 0 ≤ k) (h1 : k < 1000000) : ∃ m, F_law_mix ns k = some m ∧ 0 ≤ m := by
  have hk : 0 ≤ k * k := Int.mul_nonneg h0 h0
  have hk2 : k * k ≤ 1000000 * 1000000 := Int.mul_le_mul (by omega) (by omega) h0 (by omega)
  unfold F_law_mix
  by_cases c : ns.length = 0
  · have : (decide ((ns.length : Int) = 0)) = true := by simp [c]
    rw [if_pos this, mulG_l (by omega) (by omega), Option.bind_some, mulG_r (by omega) (by omega), Option.bind_some, mulG_r (by omega) (by omega), Option.bind_some, modG_s (by omega), Option.bind_some, mulG_r (by omega) (by omega), Option.bind_some, modG_s (by omega)]
    exact ⟨_, rfl, Int.emod_nonneg _ (by omega)⟩
  · have : ¬ (decide ((ns.length : Int) = 0)) = true := by simp [c]
    rw [if_neg this, modG_s (by omega), Option.bind_some]
    have m0 := Int.emod_nonneg k (show (ns.length : Int) ≠ 0 by omega)
    have m1 := Int.emod_lt_of_pos k (show 0 < (ns.length : Int) by omega)
    obtain ⟨cell, e⟩ := at_any m0 m1
    rw [e, Option.bind_some]
    obtain ⟨x0, e0⟩ := at_any (ns := ns) (i := 0) (by omega) (by omega)
    have fin : ∃ m, ((powG 10 30).bind fun t25 => (modG cell t25).bind fun t26 => (mulG t26 48271).bind fun t27 => (mulG k k).bind fun t28 => (mulG t28 7919).bind fun t29 => (modG (t27 + t29 + 11) 2147483647).bind fun t30 => (mulG t30 69621).bind fun t31 => modG t31 1000000007) = some m ∧ 0 ≤ m := by
      rw [pow30, Option.bind_some, modG_s (by omega), Option.bind_some, mulG_r (by omega) (by omega), Option.bind_some, mulG_l (by omega) (by omega), Option.bind_some, mulG_r (by omega) (by omega), Option.bind_some, modG_s (by omega), Option.bind_some, mulG_r (by omega) (by omega), Option.bind_some, modG_s (by omega)]
      exact ⟨_, rfl, Int.emod_nonneg _ (by omega)⟩
    by_cases c2 : (1 : Int) < ns.length
    · rw [if_pos (by simp [c2]), e0, Option.bind_some, modG_s (by omega), Option.bind_some, Option.bind_some]
      by_cases c3 : x0 % 2 = 1
      · rw [if_pos (by simp [c3]), modG_s (by omega), Option.bind_some]
        have m2 := Int.emod_nonneg k (show (ns.length : Int) - 1 ≠ 0 by omega)
        have m3 := Int.emod_lt_of_pos k (show 0 < (ns.length : Int) - 1 by omega)
        obtain ⟨d, e1⟩ := at_any (ns := ns) (i := 1 + k % ((ns.length : Int) - 1)) (by omega) (by omega)
        have q0 : 0 ≤ k / ((ns.length : Int) - 1) := Int.ediv_nonneg h0 (by omega)
        have q1 : k / ((ns.length : Int) - 1) ≤ k := Int.ediv_le_self _ h0
        rw [e1, Option.bind_some, fdivG_s (by omega) (by omega), Option.bind_some, rng1_z q0 (by omega), Option.bind_some]
        obtain ⟨s, e2⟩ := foldO_any (σ := Int) (f := fun (x : Int) (s : Int) => (powG 10 9).bind fun t20 => (fdivG s t20).bind fun v => some v) (fun x s => ⟨s / 1000000000, by rw [pow9, Option.bind_some, fdivG_s (by omega) (by omega)]; rfl⟩) ((List.range (k / ((ns.length : Int) - 1)).toNat).map fun i : Nat => (i : Int)) d
        rw [e2, Option.bind_some, pow9, Option.bind_some, modG_s (by omega)]
        exact ⟨_, rfl, Int.emod_nonneg _ (by omega)⟩
      · rw [if_neg (by simp [c3])]
        exact fin
    · rw [if_neg (by simpa using c2), Option.bind_some, if_neg (by simp)]
      exact fin
def mixV (ns : List Int) (k : Int) : Int := (F_law_mix ns k).getD 0
theorem mix_s {ns : List Int} (hns : ns.length ≤ 63) {k : Int} (h0 : 0 ≤ k) (h1 : k < 1000000) : F_law_mix ns k = some (mixV ns k) := by
  obtain ⟨m, e, _⟩ := mix_ex ns (by omega) k h0 h1
  unfold mixV
  rw [e]
  rfl
theorem mixV_nn {ns : List Int} (hns : ns.length ≤ 63) {k : Int} (h0 : 0 ≤ k) (h1 : k < 1000000) : 0 ≤ mixV ns k := by
  obtain ⟨m, e, h⟩ := mix_ex ns (by omega) k h0 h1
  unfold mixV
  rw [e]
  exact h
theorem prime_at {m : Int} (h : 0 ≤ m) : ∃ p : Int, Pr p ∧ atI [(2 : Int), 3, 5, 7] (m % 4) = some p := by
  have : m % 4 = 0 ∨ m % 4 = 1 ∨ m % 4 = 2 ∨ m % 4 = 3 := by omega
  rcases this with e | e | e | e <;> rw [e]
  · exact ⟨2, ⟨.inl rfl⟩, rfl⟩
  · exact ⟨3, ⟨.inr (.inl rfl)⟩, rfl⟩
  · exact ⟨5, ⟨.inr (.inr (.inl rfl))⟩, rfl⟩
  · exact ⟨7, ⟨.inr (.inr (.inr rfl))⟩, rfl⟩
theorem nat_mod {x m : Int} (hm : 0 < m) : ∃ n : Nat, x % m = (n : Nat) ∧ (n : Int) < m := by
  have a := Int.emod_nonneg x (show m ≠ 0 by omega)
  have b := Int.emod_lt_of_pos x hm
  exact ⟨(x % m).toNat, by omega, by omega⟩
variable {p : Int} [Pr p]
def drawn (ns : List Int) (at_ : Int) (w : Nat) (i j : Nat) : Fp p := if 0 < mixV ns (at_ + (i : Int) * (w : Int) + (j : Int)) / 7 % 3 then Fp.of (mixV ns (at_ + (i : Int) * (w : Int) + (j : Int))) else 0
theorem f_law_table {ns : List Int} (hns : ns.length ≤ 63) {at_ : Int} (h0 : 0 ≤ at_) (h1 : at_ < 1000) {h w : Nat} (hh : h < 100) (hw : w < 100) : F_law_table ns at_ p (h : Int) (w : Int) = some (tb h w (drawn (p := p) ns at_ w)) := by
  unfold F_law_table
  rw [Option.bind_some, rng1_s (by omega), Option.bind_some, foldO_r (fun i => lst w (drawn (p := p) ns at_ w i)) (fun i hi s => ?_) (by omega)]
  · rfl
  · rw [Option.bind_some, rng1_s (by omega), Option.bind_some]
    have e := foldO_r (f := fun (x8 : Int) (s6 : List Int) => (mulG (i : Int) (w : Int)).bind fun t9 => (F_law_mix ns (at_ + t9 + x8)).bind fun v_cell => (modG v_cell p).bind fun t13 => (fdivG v_cell 7).bind fun t14 => (modG t14 3).bind fun t15 => (mulG t13 (if decide (0 < t15) = true then (1 : Int) else 0)).bind fun t16 => (appG s6 t16).bind fun v => some v)
      (φ := fun i : Nat => (i : Int)) (n := w) (fun j => (drawn (p := p) ns at_ w i j).v) (fun j hj s => by
      have b0 : 0 ≤ (i : Int) * (w : Int) := Int.mul_nonneg (by omega) (by omega)
      have b1 : (i : Int) * (w : Int) ≤ 100 * 100 := Int.mul_le_mul (by omega) (by omega) (by omega) (by omega)
      have hm := mix_s hns (k := at_ + (i : Int) * (w : Int) + (j : Int)) (by omega) (by omega)
      have ft : ∀ b : Bool, (if b = true then (1 : Int) else 0) = 1 ∨ (if b = true then (1 : Int) else 0) = 0 := fun b => by cases b <;> simp
      rw [mulG_r (by omega) (by omega), Option.bind_some, hm, Option.bind_some, modG_s pP, Option.bind_some, fdivG_s (by omega) (by omega), Option.bind_some, modG_s (by omega), Option.bind_some,
        mulG_r (by split <;> omega) (by split <;> omega), Option.bind_some]
      have : mixV ns (at_ + (i : Int) * (w : Int) + (j : Int)) % p * (if decide (0 < mixV ns (at_ + (i : Int) * (w : Int) + (j : Int)) / 7 % 3) = true then (1 : Int) else 0) = (drawn (p := p) ns at_ w i j).v := by
        unfold drawn
        by_cases c : 0 < mixV ns (at_ + (i : Int) * (w : Int) + (j : Int)) / 7 % 3
        · rw [if_pos c, if_pos (by simp [c]), Int.mul_one]; rfl
        · rw [if_neg c, if_neg (by simp [c]), Int.mul_zero]; exact Fp.zero_v.symm
      rw [this]
      cases appG s _ <;> rfl) (by omega)
    rw [e, Option.bind_some]
    show (appG s _).bind _ = _
    unfold lst
    cases appG s _ <;> rfl
end La
set_option maxHeartbeats 4000000
namespace Mn
open PySem PySem.Spec PyProof.Rows
open L2 (atI ixN cutS)
end Mn
set_option maxHeartbeats 1000000
namespace La
open Mn
open PySem
open L2 (atI ixN atI_nat)
variable {p : Int} [Pr p]
theorem at_nth {α : Type} {xs : List α} {i : Nat} (h : i < xs.length) : atI xs (i : Int) = some xs[i] := atI_nat (List.getElem?_eq_getElem h)
end La
set_option maxHeartbeats 4000000
namespace Mn
open PySem PySem.Spec PyProof.Rows
open L2 (atI ixN cutS)
end Mn
namespace Mn
open PySem PySem.Spec PyProof.Rows
open L2 (atI ixN cutS)
end Mn
namespace Mn
open PySem PySem.Spec PyProof.Rows
open L2 (atI ixN cutS)
end Mn
set_option maxHeartbeats 1000000
namespace La
open Mn
open PySem
open L2 (atI ixN atI_nat)
variable {p : Int} [Pr p]
end La
set_option maxHeartbeats 4000000
namespace Mn
open PySem PySem.Spec PyProof.Rows
open L2 (atI ixN cutS)
end Mn
namespace Mn
open PySem PySem.Spec PyProof.Rows
open L2 (atI ixN cutS)
end Mn
set_option maxHeartbeats 1000000
namespace La
open Mn
open PySem
open L2 (atI ixN atI_nat)
theorem enI_r {β : Type} (f : Nat → β) (n : Nat) : enI 0 ((List.range n).map f) = (List.range n).map fun i : Nat => ((i : Int), f i) := by
  have : ∀ (m k : Nat), enI k ((List.range m).map fun i => f (k + i)) = (List.range m).map fun i : Nat => (((k + i : Nat) : Int), f (k + i)) := fun m => by
    induction m with
    | zero => intro k; rfl
    | succ m ih =>
      intro k
      rw [List.range_succ_eq_map, List.map_cons, List.map_cons, List.map_map, List.map_map]
      show _ :: enI (k + 1) _ = _
      have := ih (k + 1)
      have e : ((fun i => f (k + i)) ∘ Nat.succ) = fun i => f (k + 1 + i) := funext fun i => by show f (k + (i + 1)) = _; rw [show k + (i + 1) = k + 1 + i by omega]
      have e2 : ((fun i : Nat => (((k + i : Nat) : Int), f (k + i))) ∘ Nat.succ) = fun i : Nat => (((k + 1 + i : Nat) : Int), f (k + 1 + i)) := funext fun i => by show (((k + (i + 1) : Nat) : Int), f (k + (i + 1))) = _; rw [show k + (i + 1) = k + 1 + i by omega]
      rw [e, e2, this]
      rfl
  have := this n 0
  simpa using this
variable {p : Int} [Pr p]
end La
set_option maxHeartbeats 4000000
namespace Mn
open PySem PySem.Spec PyProof.Rows
open L2 (atI ixN cutS)
end Mn
namespace Mn
open PySem PySem.Spec PyProof.Rows
open L2 (atI ixN cutS)
end Mn
namespace Mn
open PySem PySem.Spec PyProof.Rows
open L2 (atI ixN cutS)
end Mn
namespace Mn
open PySem PySem.Spec PyProof.Rows
open L2 (atI ixN cutS)
end Mn
namespace Mn
open PySem PySem.Spec PyProof.Rows
open L2 (atI ixN cutS)
end Mn
namespace Mn
open PySem PySem.Spec PyProof.Rows
open L2 (atI ixN cutS)
end Mn
namespace Mn
open PySem PySem.Spec PyProof.Rows
open L2 (atI ixN cutS)
end Mn
set_option maxHeartbeats 1000000
namespace La
open Mn
open PySem
open L2 (atI ixN atI_nat)
variable {p : Int} [Pr p]
end La
namespace La
open Mn
open PySem
open L2 (atI ixN atI_nat)
variable {p : Int} [Pr p]
theorem list_r {α β : Type} (xs : List α) (d : α) (g : α → β) : xs.map g = (List.range xs.length).map fun i => g (xs[i]?.getD d) := by
  refine List.ext_getElem (by simp) fun i h1 h2 => ?_
  simp at h1
  simp [List.getElem?_eq_getElem h1]
end La
set_option maxHeartbeats 4000000
namespace Mn
open PySem PySem.Spec PyProof.Rows
open L2 (atI ixN cutS)
end Mn
namespace Mn
open PySem PySem.Spec PyProof.Rows
open L2 (atI ixN cutS)
end Mn
set_option maxHeartbeats 1000000
namespace La
open Mn
open PySem
open L2 (atI ixN atI_nat)
abbrev chS (b : Bool) : Str := if b = true then ("l" : Str) else ("r" : Str)
def wayS (bs : List Bool) : Str := Txt.join ("" : Str) (bs.map chS)
def wayOk (bs : List Bool) : Bool := decide (lenS (wayS bs) = some (bs.length : Int)) && decide (joinG ("" : Str) (bs.map chS) = some (wayS bs)) && (List.range bs.length).all fun i => decide (idxS (wayS bs) (i : Int) = some (chS (bs[i]?.getD false)))
def allW : Nat → List (List Bool)
  | 0 => [[]]
  | n + 1 => (allW n).map (true :: ·) ++ (allW n).map (false :: ·)
theorem mem_allW : ∀ bs : List Bool, bs ∈ allW bs.length
  | [] => by simp [allW]
  | b :: bs => by
    have := mem_allW bs
    cases b <;> simp [allW, this]
theorem way_fin : ((List.range 6).all fun n => (allW n).all wayOk) = true := by decide +kernel
theorem way_ok {bs : List Bool} (h : bs.length < 6) : lenS (wayS bs) = some (bs.length : Int) ∧ joinG ("" : Str) (bs.map chS) = some (wayS bs) ∧ ∀ i, i < bs.length → idxS (wayS bs) (i : Int) = some (chS (bs[i]?.getD false)) := by
  have h1 := List.all_eq_true.mp way_fin bs.length (List.mem_range.mpr h)
  have h2 := List.all_eq_true.mp h1 bs (mem_allW bs)
  unfold wayOk at h2
  simp only [Bool.and_eq_true, decide_eq_true_eq, List.all_eq_true] at h2
  exact ⟨h2.1.1, h2.1.2, fun i hi => h2.2 i (List.mem_range.mpr hi)⟩
theorem eq_l (b : Bool) : eqG strOk (chS b) ("l" : Str) = some b := by cases b <;> decide +kernel
theorem ne_ch (b : Bool) : neG strOk (chS b) (chS b) = some false := by cases b <;> decide +kernel
theorem ways_ex (cell : Int) (h : 0 ≤ cell) : ∃ bs : List Bool, F_law_ways cell = some (wayS bs) ∧ bs.length < 6 := by
  unfold F_law_ways
  rw [modG_s (by omega), Option.bind_some]
  obtain ⟨m, em, lm⟩ := nat_mod (x := cell) (m := 6) (by omega)
  rw [em, rng1_s (by omega), Option.bind_some]
  have : ∃ g : Nat → Bool, mapG ((List.range m).map fun i : Nat => (i : Int)) (fun (y4 : Int) => ((atI ([(6 : Int), (12 : Int), (24 : Int), (48 : Int), (96 : Int)]) y4).bind fun (t5 : Int) => (fdivG cell t5).bind fun (t6 : Int) => (modG t6 ((2 : Int))).bind fun (t7 : Int) => idxS (("rl" : Str)) t7)) = some ((List.range m).map fun i => chS (g i)) := by
    refine ⟨fun i => decide (cell / ([(6 : Int), 12, 24, 48, 96][i]?.getD 1) % 2 = 1), mapG_r (fun i => chS (decide (cell / ([(6 : Int), 12, 24, 48, 96][i]?.getD 1) % 2 = 1))) (fun i hi => ?_) (by omega)⟩
    have hl : i < [(6 : Int), 12, 24, 48, 96].length := by simp; omega
    rw [at_nth hl, Option.bind_some]
    have hb : ∀ d : Int, 0 < d → d < 1000 → ((fdivG cell d).bind fun (t6 : Int) => (modG t6 ((2 : Int))).bind fun (t7 : Int) => idxS (("rl" : Str)) t7) = some (chS (decide (cell / d % 2 = 1))) := fun d d0 d1 => by
      rw [fdivG_s d0 (by omega), Option.bind_some, modG_s (by omega), Option.bind_some]
      have : cell / d % 2 = 0 ∨ cell / d % 2 = 1 := by omega
      rcases this with e | e <;> rw [e] <;> decide +kernel
    rw [List.getElem?_eq_getElem hl, Option.getD_some]
    have : i = 0 ∨ i = 1 ∨ i = 2 ∨ i = 3 ∨ i = 4 := by omega
    rcases this with e | e | e | e | e <;> subst e <;> exact hb _ (by simp) (by simp)
  obtain ⟨g, e⟩ := this
  rw [e, Option.bind_some]
  refine ⟨(List.range m).map g, ?_, by rw [r_len]; omega⟩
  have := (way_ok (bs := (List.range m).map g) (by rw [r_len]; omega)).2.1
  rw [List.map_map] at this
  exact this
variable {p : Int} [Pr p]
def bgN (cb : Nat → Bool) (i : Nat) : Nat := if cb i = true then i + 1 else i
def enN (cb : Nat → Bool) (i : Nat) : Nat := if cb i = true then i else i + 1
def arr (m : Nat) (wd : Nat → Nat) (cb : Nat → Bool) (M : Nat → Nat → Nat → Fp p) : List (Str × Int × Int × List (List Int)) := (List.range m).map fun i => (chS (cb i), tb (wd (enN cb i)) (wd (bgN cb i)) (M i))
def wds (m : Nat) (wd : Nat → Nat) : List Int := (List.range (m + 1)).map fun i => (wd i : Int)
theorem loop_u {ρ α R : Type} {f : α → Unit → Option (Lp Unit ρ)} {φ : Nat → α} {n : Nat} {K : Unit → Option R} {m : ρ → Option R} (h : ∀ i, i < n → f (φ i) () = some (.nx ())) : (loopO f ((List.range n).map φ) ()).bind (lpK K m) = K () := by
  have := loopO_nx (f := f) (φ := φ) (n := n) (fun _ => ()) h
  rw [this]
  rfl
theorem f_is_row (m : Nat) (hm : m ≤ 1000) (wd : Nat → Nat) (hw : ∀ i, wd i < 100) (ws : List Int) (hl : ws.length ≤ 1000) (cb : Nat → Bool) (M : Nat → Nat → Nat → Fp p) : F_law_is_row (p, ws, arr m wd cb M) (p, ws, arr m wd cb M) = some true := by
  unfold F_law_is_row F_law_whole
  rw [if_neg (by simp), if_neg (by simp), Option.bind_some, Option.bind_some, if_neg (by simp), show F_law_rests (p, ws, arr m wd cb M).2.1 (p, ws, arr m wd cb M).2.1 = some true from f_law_rests ws (by omega), Option.bind_some, if_neg (by simp)]
  unfold arr
  simp only []
  rw [zip_r]
  refine loop_u fun i hi => ?_
  simp only []
  rw [if_neg (by simp), if_neg (by simp), ne_ch, Option.bind_some, Option.bind_some, if_neg (by simp), if_neg (by simp), f_law_is_table _ _ (by have := hw (enN cb i); omega) (by have := hw (bgN cb i); omega), Option.bind_some, Option.bind_some, if_neg (by simp)]
end La
set_option maxHeartbeats 4000000
namespace Mn
open PySem PySem.Spec PyProof.Rows
open L2 (atI ixN cutS)
end Mn
namespace Mn
open PySem PySem.Spec PyProof.Rows
open L2 (atI ixN cutS)
end Mn
namespace Mn
open PySem PySem.Spec PyProof.Rows
open L2 (atI ixN cutS)
end Mn
namespace Mn
open PySem PySem.Spec PyProof.Rows
open L2 (atI ixN cutS)
end Mn
namespace Mn
open PySem PySem.Spec PyProof.Rows
open L2 (atI ixN cutS)
end Mn
namespace Mn
open PySem PySem.Spec PyProof.Rows
open L2 (atI ixN cutS)
end Mn
set_option maxHeartbeats 1000000
namespace La
open Mn
open PySem
open L2 (atI ixN atI_nat)
def wayOk3 (bs : List Bool) : Bool := decide (signsOf (wayS bs) = bs.map chS)
theorem way_fin3 : ((List.range 7).all fun n => (allW n).all wayOk3) = true := by decide +kernel
theorem way_signs {bs : List Bool} (h : bs.length < 7) : signsOf (wayS bs) = bs.map chS := by
  have h1 := List.all_eq_true.mp way_fin3 bs.length (List.mem_range.mpr h)
  have h2 := List.all_eq_true.mp h1 bs (mem_allW bs)
  unfold wayOk3 at h2
  simpa using h2
variable {p : Int} [Pr p]
end La
set_option maxHeartbeats 4000000
namespace Mn
open PySem PySem.Spec PyProof.Rows
open L2 (atI ixN cutS)
end Mn
namespace Mn
open PySem PySem.Spec PyProof.Rows
open L2 (atI ixN cutS)
end Mn
namespace Mn
open PySem PySem.Spec PyProof.Rows
open L2 (atI ixN cutS)
end Mn
namespace Mn
open PySem PySem.Spec PyProof.Rows
open L2 (atI ixN cutS)
end Mn
namespace Mn
open PySem PySem.Spec PyProof.Rows
open L2 (atI ixN cutS)
end Mn
namespace Mn
open PySem PySem.Spec PyProof.Rows
open L2 (atI ixN cutS)
end Mn
namespace Mn
open PySem PySem.Spec PyProof.Rows
open L2 (atI ixN cutS)
abbrev Arr : Type := Bool × Int × Int × Int × List (List Int)
abbrev encTab : Int × Int × List (List Int) → PyData := encP3 PyData.int PyData.int (encU (encU PyData.int))
abbrev OFA : List (Str × Str) := [("Right", "prime"), ("Right", "table"), ("Left", "prime"), ("Left", "table")]
abbrev tt_arr0 : TTab := ⟨[], [], [], OFA, [], [], [], [], []⟩
section
variable {c : Cl} {env : Ev} {a : Ex} {x : Arr} {β : Type}
end
end Mn
namespace Mn
open PySem PySem.Spec PyProof.Rows
open L2 (atI ixN cutS)
end Mn
namespace Mn
open PySem PySem.Spec PyProof.Rows
open L2 (atI ixN cutS)
end Mn
set_option maxHeartbeats 1000000
namespace La
open Mn
open PySem
open L2 (atI ixN atI_nat)
section
variable {p : Int} [Pr p]
theorem row_ex2 {ns : List Int} (hns : ns.length ≤ 63) {at_ most : Int} (h0 : 0 ≤ at_) (h1 : at_ < 500) (hm0 : 0 < most) (hm1 : most < 100) {bs : List Bool} (hb : bs.length < 6) :
    ∃ (wd : Nat → Nat) (M : Nat → Nat → Nat → Fp p), (∀ i, wd i < 100) ∧ (∀ i, (wd i : Int) < most) ∧ F_law_row ns at_ p (wayS bs) most = some (p, wds bs.length wd, arr bs.length wd (fun i => bs[i]?.getD false) M) := by
  obtain ⟨w1, _, w3⟩ := way_ok hb
  refine ⟨fun i => (mixV ns (at_ + (i : Int)) % most).toNat, fun i => drawn (p := p) ns (at_ + 10 + 17 * (i : Int)) ((mixV ns (at_ + ((bgN (fun i => bs[i]?.getD false) i : Nat) : Int)) % most).toNat), fun i => by
    have a := Int.emod_nonneg (mixV ns (at_ + (i : Int))) (show most ≠ 0 by omega)
    have b := Int.emod_lt_of_pos (mixV ns (at_ + (i : Int))) hm0
    show (mixV ns (at_ + (i : Int)) % most).toNat < 100
    omega, fun i => by
    have a := Int.emod_nonneg (mixV ns (at_ + (i : Int))) (show most ≠ 0 by omega)
    have b := Int.emod_lt_of_pos (mixV ns (at_ + (i : Int))) hm0
    show (((mixV ns (at_ + (i : Int)) % most).toNat : Nat) : Int) < most
    omega, ?_⟩
  generalize hwd : (fun i : Nat => (mixV ns (at_ + (i : Int)) % most).toNat) = wd
  have hw : ∀ i : Nat, ((wd i : Nat) : Int) = mixV ns (at_ + (i : Int)) % most := fun i => by
    rw [← hwd]
    exact Int.toNat_of_nonneg (Int.emod_nonneg _ (by omega))
  have hwl : ∀ i : Nat, wd i < 100 := fun i => by
    have b := Int.emod_lt_of_pos (mixV ns (at_ + (i : Int))) hm0
    have := hw i
    omega
  have hwn : ∀ i : Nat, (mixV ns (at_ + (i : Int)) % most).toNat = wd i := fun i => by rw [← hwd]
  unfold F_law_row
  rw [w1, Option.bind_some, show (bs.length : Int) + 1 = ((bs.length + 1 : Nat) : Int) by omega, rng1_s (by omega), Option.bind_some]
  rw [mapG_r (fun i => ((wd i : Nat) : Int)) (fun i hi => by rw [mix_s hns (by omega) (by omega), Option.bind_some, modG_s hm0, hw]) (by omega), Option.bind_some, Option.bind_some, Option.bind_some, Option.bind_some, rng1_s (by omega), Option.bind_some]
  rw [foldO_r (fun i => (chS (bs[i]?.getD false), tb (wd (enN (fun i => bs[i]?.getD false) i)) (wd (bgN (fun i => bs[i]?.getD false) i)) (drawn (p := p) ns (at_ + 10 + 17 * (i : Int)) (wd (bgN (fun i => bs[i]?.getD false) i))))) (fun i hi s => ?_) (by omega), Option.bind_some]
  · unfold arr wds
    simp only [hwn]
  · have e1 : (i : Int) + 1 = ((i + 1 : Nat) : Int) := by omega
    have a1 := at_r (fun i : Nat => ((wd i : Nat) : Int)) (n := bs.length + 1) (i := i) (by omega)
    have a2 := at_r (fun i : Nat => ((wd i : Nat) : Int)) (n := bs.length + 1) (i := i + 1) (by omega)
    rw [e1, a2, Option.bind_some, a1, Option.bind_some, Option.bind_some, w3 i hi, Option.bind_some, eq_l, Option.bind_some]
    have fin : ∀ (h w : Nat), h < 100 → w < 100 → ((some (chS (bs[i]?.getD false))).bind fun (t23 : Str) =>
        (mulG ((17 : Int)) (i : Int)).bind fun (t24 : Int) =>
        (F_law_table ns ((at_ + ((10 : Int))) + t24) p (h : Int) (w : Int)).bind fun (t25 : Int × Int × List (List Int)) =>
        (appG s ((t23, t25))).bind fun (v_arrows_22 : List (Str × Int × Int × List (List Int))) =>
        some v_arrows_22) = appG s (chS (bs[i]?.getD false), tb h w (drawn (p := p) ns (at_ + 10 + 17 * (i : Int)) w)) := fun h w hh hw2 => by
      rw [Option.bind_some, mulG_l (by omega) (by omega), Option.bind_some, f_law_table hns (p := p) (by omega) (by omega) hh hw2, Option.bind_some]
      cases appG s _ <;> rfl
    unfold enN bgN
    cases hc : bs[i]?.getD false with
    | true =>
      rw [hc] at fin
      simp only [hc, if_true]
      rw [Option.bind_some, Option.bind_some]
      exact fin _ _ (hwl _) (hwl _)
    | false =>
      rw [hc] at fin
      simp only [hc, Bool.false_eq_true, if_false]
      rw [Option.bind_some]
      exact fin _ _ (hwl _) (hwl _)
theorem chS_inj {a b : Bool} (h : chS a = chS b) : a = b := by
  cases a <;> cases b <;> first | rfl | exact absurd h (by decide +kernel)
theorem map_chS {bs cs : List Bool} : bs.map chS = cs.map chS ↔ bs = cs := by
  refine ⟨fun h => ?_, fun h => by rw [h]⟩
  induction bs generalizing cs with
  | nil =>
    cases cs with
    | nil => rfl
    | cons _ _ => cases h
  | cons b bs ih =>
    cases cs with
    | nil => cases h
    | cons d ds =>
      rw [List.map_cons, List.map_cons, List.cons.injEq] at h
      rw [chS_inj h.1, ih h.2]
theorem wayS_inj {bs cs : List Bool} (hb : bs.length < 6) (hc : cs.length < 6) : wayS bs = wayS cs ↔ bs = cs := by
  refine ⟨fun h => ?_, fun h => by rw [h]⟩
  have := congrArg signsOf h
  rw [way_signs (by omega), way_signs (by omega)] at this
  exact map_chS.mp this
theorem way_str_fin : ((List.range 6).all fun n => (allW n).all fun bs => strOk (wayS bs)) = true := by decide +kernel
theorem way_str {bs : List Bool} (h : bs.length < 6) : strOk (wayS bs) = true := List.all_eq_true.mp (List.all_eq_true.mp way_str_fin bs.length (List.mem_range.mpr h)) bs (mem_allW bs)
abbrev cbF (bs : List Bool) : Nat → Bool := fun i => bs[i]?.getD false
theorem ways_arr (bs : List Bool) (hb : bs.length < 6) (wd : Nat → Nat) (M : Nat → Nat → Nat → Fp p) : mapG (arr bs.length wd (cbF bs) M) (fun (y1 : Str × Int × Int × List (List Int)) => some y1.1) = some (bs.map chS) := by
  have h := mapG_r (f := fun (y1 : Str × Int × Int × List (List Int)) => some y1.1) (φ := fun i => (chS (cbF bs i), tb (wd (enN (cbF bs) i)) (wd (bgN (cbF bs) i)) (M i))) (n := bs.length) (fun i => chS (cbF bs i)) (fun i _ => rfl) (by omega)
  rw [list_r bs false chS]
  exact h
theorem f_ways_of (bs : List Bool) (hb : bs.length < 6) (ws : List Int) (wd : Nat → Nat) (M : Nat → Nat → Nat → Fp p) : F_ways_of (p, ws, arr bs.length wd (cbF bs) M) = some (wayS bs) := by
  unfold F_ways_of
  dsimp only
  rw [ways_arr bs hb, Option.bind_some]
  exact (way_ok hb).2.1
end
structure Rw where
  p : Int
  pr : Pr p
  bs : List Bool
  hb : bs.length < 6
  wd : Nat → Nat
  hw : ∀ i, wd i < 100
  M : Nat → Nat → Nat → Fp p
instance (r : Rw) : Pr r.p := r.pr
def Rw.row (r : Rw) : Int × List Int × List (Str × Int × Int × List (List Int)) := (r.p, wds r.bs.length r.wd, arr r.bs.length r.wd (cbF r.bs) r.M)
theorem f_one_kind (r s : Rw) : F_one_kind r.row s.row = some (decide (r.p = s.p ∧ r.bs = s.bs)) := by
  unfold F_one_kind Rw.row
  dsimp only
  by_cases h : r.p = s.p
  · rw [if_pos (by simp [h]), f_ways_of r.bs r.hb, Option.bind_some, f_ways_of s.bs s.hb, Option.bind_some]
    unfold eqG
    rw [if_pos ⟨way_str r.hb, way_str s.hb⟩]
    simp [h, wayS_inj r.hb s.hb]
  · rw [if_neg (by simp [h])]
    simp [h]
section
variable {p : Int} [Pr p]
end
end La
namespace La
open Mn
open PySem
open L2 (atI ixN atI_nat)
end La
set_option maxHeartbeats 4000000
namespace Mn
open PySem PySem.Spec PyProof.Rows
open L2 (atI ixN cutS)
end Mn
namespace Mn
open PySem PySem.Spec PyProof.Rows
open L2 (atI ixN cutS)
end Mn
namespace Mn
open PySem PySem.Spec PyProof.Rows
open L2 (atI ixN cutS)
end Mn
namespace Mn
open PySem PySem.Spec PyProof.Rows
open L2 (atI ixN cutS)
end Mn
namespace Mn
open PySem PySem.Spec PyProof.Rows
open L2 (atI ixN cutS)
end Mn
set_option maxHeartbeats 1000000
namespace La
open Mn
open PySem
open L2 (atI ixN atI_nat)
variable {p : Int} [Pr p]
theorem table_ok {h w : Nat} (hh : h ≤ 30) (hw : w ≤ 30) (g : Nat → Nat → Int) :
    F_table_of p (h : Int) (w : Int) ((List.range h).map fun i => (List.range w).map (g i)) = some (tb h w fun i j => (Fp.of (g i j) : Fp p)) := by
  unfold F_table_of
  have hp : p ∈ [(2 : Int), 3, 5, 7] := by rcases Pr.pr (p := p) with e | e | e | e <;> simp [e]
  rw [if_neg (show ¬ (!decide (p ∈ [(2 : Int), 3, 5, 7])) = true by rw [decide_eq_true hp]; decide), if_neg (by simp [coI]; omega), Option.bind_some, foldO_r (fun i => lst w fun j => (Fp.of (g i j) : Fp p)) (fun i hi s => ?_) (by omega), Option.bind_some]
  · rfl
  · rw [if_neg (by simp), mapG_r (fun j => (Fp.of (g i j) : Fp p).v) (fun j hj => modG_s pP) (by omega), Option.bind_some]
    show (appG s _).bind _ = _
    unfold lst
    cases appG s _ <;> rfl
end La
set_option maxHeartbeats 4000000
namespace Mn
open PySem PySem.Spec PyProof.Rows
open L2 (atI ixN cutS)
end Mn
namespace Mn
open PySem PySem.Spec PyProof.Rows
open L2 (atI ixN cutS)
end Mn
namespace Mn
open PySem PySem.Spec PyProof.Rows
open L2 (atI ixN cutS)
end Mn
set_option maxHeartbeats 1000000
namespace La
open Mn
open PySem SX
open L2 (atI ixN atI_nat)
section
variable {p : Int} [Pr p]
theorem eq_rS (b : Bool) : eqG strOk (chS b) ("r" : Str) = some (!b) := by cases b <;> decide +kernel
end
end La
set_option maxHeartbeats 4000000
namespace Mn
open PySem PySem.Spec PyProof.Rows
open L2 (atI ixN cutS)
end Mn
namespace Mn
open PySem PySem.Spec PyProof.Rows
open L2 (atI ixN cutS)
end Mn
namespace Mn
open PySem PySem.Spec PyProof.Rows
open L2 (atI ixN cutS)
end Mn
namespace Mn
open PySem PySem.Spec PyProof.Rows
open L2 (atI ixN cutS)
end Mn
namespace Mn
open PySem PySem.Spec PyProof.Rows
open L2 (atI ixN cutS)
end Mn
set_option maxHeartbeats 1000000
namespace La
open Mn
open PySem SX
open L2 (atI ixN atI_nat)
section
variable {p : Int} [Pr p]
theorem f_size_at (m : Nat) (wd : Nat → Nat) (cb : Nat → Bool) {i : Nat} (hi : i < m) : F_size_at (wds m wd) (i : Int) (chS (cb i)) = some (((wd (enN cb i) : Nat) : Int), ((wd (bgN cb i) : Nat) : Int)) := by
  unfold F_size_at wds
  rw [eq_rS, Option.bind_some, show (i : Int) + 1 = ((i + 1 : Nat) : Int) by omega, at_r _ (show i + 1 < m + 1 by omega), at_r _ (show i < m + 1 by omega)]
  unfold enN bgN
  cases cb i
  · rfl
  · rfl
theorem ch_in (b : Bool) : (!decide (chS b ∈ [("r" : Str), ("l" : Str)])) = false := by cases b <;> decide +kernel
theorem sum_wds (m : Nat) (wd : Nat → Nat) : ∀ x ∈ wds m wd, 0 ≤ x := fun x hx => by
  unfold wds at hx
  obtain ⟨i, _, rfl⟩ := List.mem_map.mp hx
  omega
theorem foldO_u {α : Type} {f : α → Unit → Option Unit} : ∀ {xs : List α}, (∀ x ∈ xs, f x () = some ()) → foldO f xs () = some ()
  | [], _ => rfl
  | x :: xs, h => by
    show (f x ()).bind (foldO f xs) = _
    rw [h x (by simp), Option.bind_some]
    exact foldO_u fun y hy => h y (by simp [hy])
theorem f_look_widths {m : Nat} (hm : m ≤ 5) {wd : Nat → Nat} (hs : (wds m wd).sum ≤ 30) : F_look_at_widths (wds m wd) = some () := by
  unfold F_look_at_widths
  have l : (wds m wd).length = m + 1 := r_len _ _
  rw [if_neg (by simp [coI, l]; omega), foldO_u (fun x hx => by
    have := sum_wds m wd x hx
    rw [if_neg (by simp; omega)])]
  rfl
end
end La
namespace La
open Mn
open PySem
open L2 (atI ixN atI_nat)
section
variable {p : Int} [Pr p]
def off10 (ns : List Int) (i : Nat) : Int := mixV ns (120 + (i : Int)) % 2001 - 1000
def han10 (ns : List Int) (m : Nat) (wd : Nat → Nat) (cb : Nat → Bool) (M : Nat → Nat → Nat → Fp p) : List (Str × List (List Int)) := (List.range m).map fun i => (chS (cb i), (List.range (wd (enN cb i))).map fun a => (List.range (wd (bgN cb i))).map fun b => (M i a b).v + p * off10 ns i)
theorem hand10 {ns : List Int} (hns : ns.length ≤ 63) (m : Nat) (hm : m ≤ 1000) (wd : Nat → Nat) (hw : ∀ i, wd i < 100) (ws : List Int) (cb : Nat → Bool) (M : Nat → Nat → Nat → Fp p) : F_law_handed_v2 ns (p, ws, arr m wd cb M) = some (han10 ns m wd cb M) := by
  unfold F_law_handed_v2
  dsimp only
  have al : (arr m wd cb M).length = m := r_len _ _
  rw [al, Option.bind_some, rng1_s (by omega), Option.bind_some, foldO_r (fun i => (chS (cb i), (List.range (wd (enN cb i))).map fun a => (List.range (wd (bgN cb i))).map fun b => (M i a b).v + p * off10 ns i)) (fun i hi s => ?_) (by omega), Option.bind_some]
  · rfl
  · have e : atI (arr m wd cb M) (i : Int) = some (chS (cb i), tb (wd (enN cb i)) (wd (bgN cb i)) (M i)) := at_r _ hi
    rw [e, Option.bind_some, mix_s hns (by omega) (by omega), Option.bind_some, modG_s (by omega), Option.bind_some, Option.bind_some]
    dsimp only [tb]
    have e2 : mapG (rws (wd (enN cb i)) (wd (bgN cb i)) (M i)) (fun (y10 : List Int) => mapG y10 fun (y11 : Int) => ((mulG p (mixV ns (120 + (i : Int)) % 2001 - 1000)).bind fun (t12 : Int) => some (y11 + t12))) = some ((List.range (wd (enN cb i))).map fun a => (List.range (wd (bgN cb i))).map fun b => (M i a b).v + p * off10 ns i) := by
      unfold rws
      refine mapG_r (fun a => (List.range (wd (bgN cb i))).map fun b => (M i a b).v + p * off10 ns i) (fun a ha => ?_) (by have := hw (enN cb i); omega)
      unfold lst
      refine mapG_r (fun b => (M i a b).v + p * off10 ns i) (fun b hb => ?_) (by have := hw (bgN cb i); omega)
      have := Pr.le (p := p)
      have := Pr.pos (p := p)
      rw [mulG_l (by omega) (by omega)]
      rfl
    rw [e2, Option.bind_some]
    cases appG s _ <;> rfl
theorem of_off (x : Fp p) (k : Int) : (Fp.of (x.v + p * k) : Fp p) = x := by
  rw [← Fp.of_self x]
  refine Fp.of_eq ?_
  rw [Fp.of_self, Int.add_mul_emod_self_left]
theorem row10 {ns : List Int} {m : Nat} (hm : m ≤ 5) {wd : Nat → Nat} (hw : ∀ i, wd i ≤ 30) (hs : (wds m wd).sum ≤ 30) (cb : Nat → Bool) (M : Nat → Nat → Nat → Fp p) : F_row_of_v2 p (wds m wd) (han10 ns m wd cb M) = some (p, wds m wd, arr m wd cb M) := by
  unfold F_row_of_v2
  have hp : decide (p ∈ [(2 : Int), 3, 5, 7]) = true := by
    rcases Pr.pr (p := p) with e | e | e | e <;> subst e <;> decide
  have hl : (han10 ns m wd cb M).length = m := r_len _ _
  have wl : (wds m wd).length = m + 1 := r_len _ _
  rw [if_neg (by rw [hp]; simp), f_look_widths hm hs, Option.bind_some, if_neg (by rw [hl, wl]; simp)]
  unfold han10
  rw [enI_r]
  refine Eq.trans (congrArg (fun z => Option.bind z _) (mapG_r (fun i => (chS (cb i), tb (wd (enN cb i)) (wd (bgN cb i)) (M i))) (fun i hi => ?_) (by omega))) rfl
  dsimp only
  unfold F_arrow_of
  dsimp only
  rw [if_neg (by rw [ch_in]; simp), f_size_at m wd cb hi, Option.bind_some]
  dsimp only
  have t := table_ok (p := p) (hw (enN cb i)) (hw (bgN cb i)) (fun a b => (M i a b).v + p * off10 ns i)
  rw [t, Option.bind_some]
  congr 2
  exact tb_congr fun a _ b _ => of_off _ _
theorem stay10 : ∀ xs : List (Str × List (List Int)), xs.length ≤ 1000 → (∀ x ∈ xs, x.2.length ≤ 1000) → mapG xs (fun (y11 : Str × List (List Int)) => ((mapG y11.2 fun (y12 : List Int) => some y12).bind fun (t13 : List (List Int)) => some ((y11.1, t13)))) = some xs := fun xs h h2 => by
  have := mapG_s (f := fun (y11 : Str × List (List Int)) => ((mapG y11.2 fun (y12 : List Int) => some y12).bind fun (t13 : List (List Int)) => some ((y11.1, t13)))) (xs := xs) (fun x => x) (fun x hx => by
    have e := mapG_s (f := fun (y12 : List Int) => some y12) (xs := x.2) (fun y => y) (fun _ _ => rfl) (by rw [lim]; have := h2 x hx; omega)
    rw [e, Option.bind_some, List.map_id']) (by rw [lim]; omega)
  rw [this, List.map_id']
end
theorem k10_true (ns : List Int) (hns : ns.length ≤ 63) : F_law_k10 ns = some true := by
  unfold F_law_k10
  rw [mix_s hns (by omega) (by omega), Option.bind_some, modG_s (by omega), Option.bind_some]
  obtain ⟨p, hp, e⟩ := prime_at (mixV_nn hns (k := 0) (by omega) (by omega))
  rw [e, Option.bind_some, mix_s hns (by omega) (by omega), Option.bind_some]
  obtain ⟨bs, e1, hb⟩ := ways_ex (mixV ns 1) (mixV_nn hns (by omega) (by omega))
  rw [e1, Option.bind_some]
  obtain ⟨wd, M, hw, hw5, e2⟩ := row_ex2 (p := p) hns (at_ := 2) (most := 5) (by omega) (by omega) (by omega) (by omega) hb
  rw [e2, Option.bind_some]
  have w30 : ∀ i, wd i ≤ 30 := fun i => by have := hw5 i; omega
  have hs : (wds bs.length wd).sum ≤ 30 := by
    have : ∀ n, ((List.range n).map fun i => ((wd i : Nat) : Int)).sum ≤ 4 * (n : Int) := fun n => by
      induction n with
      | zero => simp
      | succ n ih =>
        have := hw5 n
        rw [List.range_succ, List.map_append, List.sum_append]
        simp
        omega
    have := this (bs.length + 1)
    unfold wds
    omega
  rw [hand10 hns bs.length (by omega) wd hw, Option.bind_some]
  have hl : (han10 ns bs.length wd (cbF bs) M).length = bs.length := r_len _ _
  rw [stay10 _ (by rw [hl]; omega) (fun x hx => by
    obtain ⟨i, _, rfl⟩ := List.mem_map.mp hx
    dsimp only
    rw [r_len]
    exact Nat.le_trans (Nat.le_of_lt (hw _)) (by omega)), Option.bind_some, Option.bind_some]
  rw [row10 (by omega) w30 hs, Option.bind_some]
  have ne : neG (okL (okP2 strOk (fun _ => true))) (han10 ns bs.length wd (cbF bs) M) (han10 ns bs.length wd (cbF bs) M) = some false := by
    unfold neG
    have : okL (okP2 strOk (fun _ => true)) (han10 ns bs.length wd (cbF bs) M) = true := by
      unfold okL
      refine List.all_eq_true.mpr fun x hx => ?_
      obtain ⟨i, _, rfl⟩ := List.mem_map.mp hx
      unfold okP2
      dsimp only
      cases cbF bs i <;> decide +kernel
    rw [if_pos ⟨this, this⟩]
    simp
  rw [ne, Option.bind_some, Option.bind_some]
  rw [if_neg (by simp)]
  have wl : (wds bs.length wd).length = bs.length + 1 := r_len _ _
  rw [f_is_row (p := p) bs.length (by omega) wd hw _ (by rw [wl]; omega) _ _, Option.bind_some, if_neg (by simp)]
  have so := way_str hb
  have nw : neG strOk (wayS bs) (wayS bs) = some false := by
    unfold neG
    rw [if_pos ⟨so, so⟩]
    simp
  rw [f_ways_of bs hb, Option.bind_some, nw, Option.bind_some, if_neg (by simp), Option.bind_some, Option.bind_some, if_neg (by simp)]
  rw [mix_s hns (by omega) (by omega), Option.bind_some]
  have m59 := mixV_nn hns (k := 59) (by omega) (by omega)
  obtain ⟨fs, e3, hf⟩ := ways_ex (mixV ns 59) m59
  rw [e3, Option.bind_some, Option.bind_some, fdivG_s (by omega) (by omega), Option.bind_some, modG_s (by omega), Option.bind_some]
  obtain ⟨cs, e4, hc⟩ : ∃ cs : List Bool, (if (decide (mixV ns 59 / 200 % 2 = (1 : Int))) = true then ((some (wayS bs)).bind fun (v_far_34 : Str) => some v_far_34) else (some (wayS fs)) : Option (Str)) = some (wayS cs) ∧ cs.length < 6 := by
    by_cases q : mixV ns 59 / 200 % 2 = 1
    · exact ⟨bs, by rw [if_pos (by simpa using q)]; rfl, hb⟩
    · exact ⟨fs, by rw [if_neg (by simpa using q)], hf⟩
  rw [e4, Option.bind_some, mix_s hns (by omega) (by omega), Option.bind_some, modG_s (by omega), Option.bind_some]
  obtain ⟨q, hq, e5⟩ := prime_at (mixV_nn hns (k := 58) (by omega) (by omega))
  rw [e5, Option.bind_some]
  obtain ⟨wd2, M2, hw2, _, e6⟩ := row_ex2 (p := q) hns (at_ := 60) (most := 3) (by omega) (by omega) (by omega) (by omega) hc
  obtain ⟨wd3, M3, hw3, _, e7⟩ := row_ex2 (p := p) hns (at_ := 60) (most := 4) (by omega) (by omega) (by omega) (by omega) hb
  rw [e6, Option.bind_some, e7, Option.bind_some]
  have k1 := f_one_kind ⟨p, hp, bs, hb, wd, hw, M⟩ ⟨q, hq, cs, hc, wd2, hw2, M2⟩
  have k2 := f_one_kind ⟨p, hp, bs, hb, wd, hw, M⟩ ⟨p, hp, bs, hb, wd3, hw3, M3⟩
  unfold Rw.row at k1 k2
  dsimp only at k1 k2
  have like : (if (decide (p = q)) = true then ((mapG (arr cs.length wd2 (cbF cs) M2) fun (y42 : Str × Int × Int × List (List Int)) => some y42.1).bind fun (t43 : List Str) => (joinG (("" : Str)) t43).bind fun (t44 : Str) => (eqG strOk (wayS bs) t44).bind fun (t45 : Bool) => some t45) else some false) = some (decide (p = q ∧ bs = cs)) := by
    by_cases z : p = q
    · rw [if_pos (by simpa using z), ways_arr cs hc, Option.bind_some, (way_ok hc).2.1, Option.bind_some]
      unfold eqG
      rw [if_pos ⟨so, way_str hc⟩, Option.bind_some]
      simp [z, wayS_inj hb hc]
    · rw [if_neg (by simpa using z)]
      simp [z]
  refine Eq.trans (congrArg (fun o => Option.bind o _) like) ?_
  have k1 : F_one_kind (p, wds bs.length wd, arr bs.length wd (fun i => bs[i]?.getD false) M) (q, wds cs.length wd2, arr cs.length wd2 (fun i => cs[i]?.getD false) M2) = some (decide (p = q ∧ bs = cs)) := k1
  have k2 : F_one_kind (p, wds bs.length wd, arr bs.length wd (fun i => bs[i]?.getD false) M) (p, wds bs.length wd3, arr bs.length wd3 (fun i => bs[i]?.getD false) M3) = some (decide (p = p ∧ bs = bs)) := k2
  rw [Option.bind_some, k1, Option.bind_some]
  unfold F_law_truth
  rw [Option.bind_some, if_pos (by simp), k2, Option.bind_some, Option.bind_some]
  simp
end La
set_option maxHeartbeats 4000000
namespace Lk10
open PySem PySem.Spec PyProof.Rows L2 Mn
theorem all_mk {l : W.OpenLaw} {w : World} {K : W.Frag} {h : Heap} {mg : Str → Option Value} {fa f0 f1 f2 f3 f4 f5 f6 f7 f8 f9 f10 f11 f12 f13 f14 f15 f16 f17 : Addr} (X : K.In h) (G : h.Ns mainGlobals mg) (hfa : mg "law" = some (.ref fa))
    {od0 od1 od2 od3 od4 od5 od6 od7 od8 od9 od10 od11 od12 od13 od14 od15 od16 od17 an0 an1 an2 an3 an4 an5 an6 an7 an8 an9 an10 an11 an12 an13 an14 an15 an16 an17 : Option Addr} {sl0 sl1 sl2 sl3 sl4 sl5 sl6 sl7 sl8 sl9 sl10 sl11 sl12 sl13 sl14 sl15 sl16 sl17 : Array (Option Value)} {oc0 oc1 oc2 oc3 oc4 oc5 oc6 oc7 oc8 oc9 oc10 oc11 oc12 oc13 oc14 oc15 oc16 oc17 kV0 kV1 kV2 kV3 kV4 kV5 kV6 kV7 kV8 kV9 kV10 kV11 kV12 kV13 kV14 kV15 kV16 kV17 dc0 dc1 dc2 dc3 dc4 dc5 dc6 dc7 dc8 dc9 dc10 dc11 dc12 dc13 dc14 dc15 dc16 dc17 pm0 pm1 pm2 pm3 pm4 pm5 pm6 pm7 pm8 pm9 pm10 pm11 pm12 pm13 pm14 pm15 pm16 pm17 cd0 cd1 cd2 cd3 cd4 cd5 cd6 cd7 cd8 cd9 cd10 cd11 cd12 cd13 cd14 cd15 cd16 cd17 ct0 ct1 ct2 ct3 ct4 ct5 ct6 ct7 ct8 ct9 ct10 ct11 ct12 ct13 ct14 ct15 ct16 ct17 : Value}
    {gt0 : Tok} {gt1 : Tok} {gt2x0 gt2x1 gt2x2 gt2x3 : Tok} {gr2 : Addr} {gn2 : Nat} {gs2 : Array (Option Value)} {gt3 : Tok}
    (a0 : W.nsIn K mainGlobals "_law_mix" = some (some (.ref f0))) (l0 : K.lookup f0 = some ⟨oc0, od0, .func (W.fnOf "_law_mix" "_law_mix" (defArgs t__law_mix) (defBody t__law_mix) (defScope t__law_mix) .none kV0 dc0 pm0 an0 cd0 ct0), sl0⟩) (c0 : W.codeIn K cd0 "_law_mix" = true) (k0 : W.keepIn K (.ref f0) = true)
    (a1 : W.nsIn K mainGlobals "_law_ways" = some (some (.ref f1))) (l1 : K.lookup f1 = some ⟨oc1, od1, .func (W.fnOf "_law_ways" "_law_ways" (defArgs t__law_ways) (defBody t__law_ways) (defScope t__law_ways) .none kV1 dc1 pm1 an1 cd1 ct1), sl1⟩) (c1 : W.codeIn K cd1 "_law_ways" = true) (k1 : W.keepIn K (.ref f1) = true)
    (a2 : W.nsIn K mainGlobals "_law_table" = some (some (.ref f2))) (l2 : K.lookup f2 = some ⟨oc2, od2, .func (W.fnOf "_law_table" "_law_table" (defArgs t__law_table) (defBody t__law_table) (defScope t__law_table) .none kV2 dc2 pm2 an2 cd2 ct2), sl2⟩) (c2 : W.codeIn K cd2 "_law_table" = true) (k2 : W.keepIn K (.ref f2) = true)
    (a3 : W.nsIn K mainGlobals "_law_row" = some (some (.ref f3))) (l3 : K.lookup f3 = some ⟨oc3, od3, .func (W.fnOf "_law_row" "_law_row" (defArgs t__law_row) (defBody t__law_row) (defScope t__law_row) .none kV3 dc3 pm3 an3 cd3 ct3), sl3⟩) (c3 : W.codeIn K cd3 "_law_row" = true) (k3 : W.keepIn K (.ref f3) = true)
    (a4 : W.nsIn K mainGlobals "look_at_widths" = some (some (.ref f4))) (l4 : K.lookup f4 = some ⟨oc4, od4, .func (W.fnOf "look_at_widths" "look_at_widths" (defArgs t_look_at_widths) (defBody t_look_at_widths) (defScope t_look_at_widths) .none kV4 dc4 pm4 an4 cd4 ct4), sl4⟩) (c4 : W.codeIn K cd4 "look_at_widths" = true) (k4 : W.keepIn K (.ref f4) = true)
    (a5 : W.nsIn K mainGlobals "size_at" = some (some (.ref f5))) (l5 : K.lookup f5 = some ⟨oc5, od5, .func (W.fnOf "size_at" "size_at" (defArgs t_size_at) (defBody t_size_at) (defScope t_size_at) .none kV5 dc5 pm5 an5 cd5 ct5), sl5⟩) (c5 : W.codeIn K cd5 "size_at" = true) (k5 : W.keepIn K (.ref f5) = true)
    (a6 : W.nsIn K mainGlobals "table_of" = some (some (.ref f6))) (l6 : K.lookup f6 = some ⟨oc6, od6, .func (W.fnOf "table_of" "table_of" (defArgs t_table_of) (defBody t_table_of) (defScope t_table_of) .none kV6 dc6 pm6 an6 cd6 ct6), sl6⟩) (c6 : W.codeIn K cd6 "table_of" = true) (k6 : W.keepIn K (.ref f6) = true)
    (a7 : W.nsIn K mainGlobals "arrow_of" = some (some (.ref f7))) (l7 : K.lookup f7 = some ⟨oc7, od7, .func (W.fnOf "arrow_of" "arrow_of" (defArgs t_arrow_of) (defBody t_arrow_of) (defScope t_arrow_of) .none kV7 dc7 pm7 an7 cd7 ct7), sl7⟩) (c7 : W.codeIn K cd7 "arrow_of" = true) (k7 : W.keepIn K (.ref f7) = true)
    (a8 : W.nsIn K mainGlobals "row_of" = some (some (.ref f8))) (l8 : K.lookup f8 = some ⟨oc8, od8, .func (W.fnOf "row_of" "row_of" (defArgs t_row_of) (defBody t_row_of) (defScope t_row_of) .none kV8 dc8 pm8 an8 cd8 ct8), sl8⟩) (c8 : W.codeIn K cd8 "row_of" = true) (k8 : W.keepIn K (.ref f8) = true)
    (a9 : W.nsIn K mainGlobals "_law_whole" = some (some (.ref f9))) (l9 : K.lookup f9 = some ⟨oc9, od9, .func (W.fnOf "_law_whole" "_law_whole" (defArgs t__law_whole) (defBody t__law_whole) (defScope t__law_whole) .none kV9 dc9 pm9 an9 cd9 ct9), sl9⟩) (c9 : W.codeIn K cd9 "_law_whole" = true) (k9 : W.keepIn K (.ref f9) = true)
    (a10 : W.nsIn K mainGlobals "_law_rests" = some (some (.ref f10))) (l10 : K.lookup f10 = some ⟨oc10, od10, .func (W.fnOf "_law_rests" "_law_rests" (defArgs t__law_rests) (defBody t__law_rests) (defScope t__law_rests) .none kV10 dc10 pm10 an10 cd10 ct10), sl10⟩) (c10 : W.codeIn K cd10 "_law_rests" = true) (k10 : W.keepIn K (.ref f10) = true)
    (a11 : W.nsIn K mainGlobals "_law_is_table" = some (some (.ref f11))) (l11 : K.lookup f11 = some ⟨oc11, od11, .func (W.fnOf "_law_is_table" "_law_is_table" (defArgs t__law_is_table) (defBody t__law_is_table) (defScope t__law_is_table) .none kV11 dc11 pm11 an11 cd11 ct11), sl11⟩) (c11 : W.codeIn K cd11 "_law_is_table" = true) (k11 : W.keepIn K (.ref f11) = true)
    (a12 : W.nsIn K mainGlobals "_law_is_row" = some (some (.ref f12))) (l12 : K.lookup f12 = some ⟨oc12, od12, .func (W.fnOf "_law_is_row" "_law_is_row" (defArgs t__law_is_row) (defBody t__law_is_row) (defScope t__law_is_row) .none kV12 dc12 pm12 an12 cd12 ct12), sl12⟩) (c12 : W.codeIn K cd12 "_law_is_row" = true) (k12 : W.keepIn K (.ref f12) = true)
    (a13 : W.nsIn K mainGlobals "ways_of" = some (some (.ref f13))) (l13 : K.lookup f13 = some ⟨oc13, od13, .func (W.fnOf "ways_of" "ways_of" (defArgs t_ways_of) (defBody t_ways_of) (defScope t_ways_of) .none kV13 dc13 pm13 an13 cd13 ct13), sl13⟩) (c13 : W.codeIn K cd13 "ways_of" = true) (k13 : W.keepIn K (.ref f13) = true)
    (a14 : W.nsIn K mainGlobals "_law_truth" = some (some (.ref f14))) (l14 : K.lookup f14 = some ⟨oc14, od14, .func (W.fnOf "_law_truth" "_law_truth" (defArgs t__law_truth) (defBody t__law_truth) (defScope t__law_truth) .none kV14 dc14 pm14 an14 cd14 ct14), sl14⟩) (c14 : W.codeIn K cd14 "_law_truth" = true) (k14 : W.keepIn K (.ref f14) = true)
    (a15 : W.nsIn K mainGlobals "one_kind" = some (some (.ref f15))) (l15 : K.lookup f15 = some ⟨oc15, od15, .func (W.fnOf "one_kind" "one_kind" (defArgs t_one_kind) (defBody t_one_kind) (defScope t_one_kind) .none kV15 dc15 pm15 an15 cd15 ct15), sl15⟩) (c15 : W.codeIn K cd15 "one_kind" = true) (k15 : W.keepIn K (.ref f15) = true)
    (a16 : W.nsIn K mainGlobals "_law_handed" = some (some (.ref f16))) (l16 : K.lookup f16 = some ⟨oc16, od16, .func (W.fnOf "_law_handed" "_law_handed" (defArgs t__law_handed) (defBody t__law_handed) (defScope t__law_handed) .none kV16 dc16 pm16 an16 cd16 ct16), sl16⟩) (c16 : W.codeIn K cd16 "_law_handed" = true) (k16 : W.keepIn K (.ref f16) = true)
    (a17 : W.nsIn K mainGlobals "law" = some (some (.ref f17))) (l17 : K.lookup f17 = some ⟨oc17, od17, .func (W.fnOf "law" "law" (defArgs t_law) (defBody t_law) (defScope t_law) .none kV17 dc17 pm17 an17 cd17 ct17), sl17⟩) (c17 : W.codeIn K cd17 "law" = true) (k17 : W.keepIn K (.ref f17) = true)
    (z0 : W.nsIn K mainGlobals "len" = some none)
    (z1 : W.nsIn K mainGlobals "sum" = some none)
    (z2 : W.nsIn K mainGlobals "min" = some none)
    (z3 : W.nsIn K mainGlobals "max" = some none)
    (z4 : W.nsIn K mainGlobals "any" = some none)
    (z5 : W.nsIn K mainGlobals "all" = some none)
    (z6 : W.nsIn K mainGlobals "int" = some none)
    (z7 : W.nsIn K mainGlobals "str" = some none)
    (z8 : W.nsIn K mainGlobals "tuple" = some none)
    (z9 : W.nsIn K mainGlobals "list" = some none)
    (z10 : W.nsIn K mainGlobals "sorted" = some none)
    (z11 : W.nsIn K mainGlobals "isinstance" = some none)
    (z12 : W.nsIn K mainGlobals "bool" = some none)
    (z13 : W.nsIn K mainGlobals "dict" = some none)
    (z14 : W.nsIn K mainGlobals "range" = some none)
    (z15 : W.nsIn K mainGlobals "zip" = some none)
    (z16 : W.nsIn K mainGlobals "enumerate" = some none)
    (z17 : W.nsIn K mainGlobals "reversed" = some none)
    (ga0 : W.nsIn K mainGlobals "MOST_ROOMS" = some (some (.int 6 gt0)))
    (ga1 : W.nsIn K mainGlobals "MOST_WIDTH" = some (some (.int 30 gt1)))
    (ga2 : W.nsIn K mainGlobals "PRIMES" = some (some (.ref gr2)))
    (gl2 : K.lookup gr2 = some ⟨.type "tuple", none, .seq (List.toArray [.int 2 gt2x0, .int 3 gt2x1, .int 5 gt2x2, .int 7 gt2x3]) gn2, gs2⟩)
    (ga3 : W.nsIn K mainGlobals "MOST" = some (some (.int 30 gt3)))
    : ∃ fd : FuncData, (∀ (s : Shared) (v : Value), BindsTo s fd ⟨[v], []⟩ [("_law_script", v)]) ∧ ∀ base : Heap, K.In base → base.Ns mainGlobals mg → FnOk l.prog w K mg base CX0 5 fa fd ["_law_script"] (spD K 1 s_law_k10) := by
  have e := hfa.symm.trans (W.mg_of X G a17)
  cases e
  have bn : ∀ x ∈ bnames, mg x = none := fun x hx => by
    simp only [bnames, List.mem_cons, List.mem_nil_iff, or_false] at hx
    rcases hx with rfl | rfl | rfl | rfl | rfl | rfl | rfl | rfl | rfl | rfl | rfl | rfl | rfl | rfl | rfl | rfl | rfl | rfl
    · exact W.mg_none_of X G z0
    · exact W.mg_none_of X G z1
    · exact W.mg_none_of X G z2
    · exact W.mg_none_of X G z3
    · exact W.mg_none_of X G z4
    · exact W.mg_none_of X G z5
    · exact W.mg_none_of X G z6
    · exact W.mg_none_of X G z7
    · exact W.mg_none_of X G z8
    · exact W.mg_none_of X G z9
    · exact W.mg_none_of X G z10
    · exact W.mg_none_of X G z11
    · exact W.mg_none_of X G z12
    · exact W.mg_none_of X G z13
    · exact W.mg_none_of X G z14
    · exact W.mg_none_of X G z15
    · exact W.mg_none_of X G z16
    · exact W.mg_none_of X G z17
  have F0 := fun_mk (st := t__law_mix) l0 c0 k0
  have b0 := F0.binds (ps := ["_law_script", "_law_k"]) fun _ _ _ _ _ _ us hl => match us, hl with | [_, _], _ => rfl
  have F1 := fun_mk (st := t__law_ways) l1 c1 k1
  have b1 := F1.binds (ps := ["_law_cell"]) fun _ _ _ _ _ _ us hl => match us, hl with | [_], _ => rfl
  have F2 := fun_mk (st := t__law_table) l2 c2 k2
  have b2 := F2.binds (ps := ["_law_script", "_law_at", "_law_p", "_law_high", "_law_wide"]) fun _ _ _ _ _ _ us hl => match us, hl with | [_, _, _, _, _], _ => rfl
  have F3 := fun_mk (st := t__law_row) l3 c3 k3
  have b3 := F3.binds (ps := ["_law_script", "_law_at", "_law_p", "_law_ways_here", "_law_most"]) fun _ _ _ _ _ _ us hl => match us, hl with | [_, _, _, _, _], _ => rfl
  have F4 := fun_mk (st := t_look_at_widths) l4 c4 k4
  have b4 := F4.binds (ps := ["widths"]) fun _ _ _ _ _ _ us hl => match us, hl with | [_], _ => rfl
  have F5 := fun_mk (st := t_size_at) l5 c5 k5
  have b5 := F5.binds (ps := ["widths", "k", "way"]) fun _ _ _ _ _ _ us hl => match us, hl with | [_, _, _], _ => rfl
  have F6 := fun_mk (st := t_table_of) l6 c6 k6
  have b6 := F6.binds (ps := ["p", "high", "wide", "rows"]) fun _ _ _ _ _ _ us hl => match us, hl with | [_, _, _, _], _ => rfl
  have F7 := fun_mk (st := t_arrow_of) l7 c7 k7
  have b7 := F7.binds (ps := ["p", "widths", "k", "pair"]) fun _ _ _ _ _ _ us hl => match us, hl with | [_, _, _, _], _ => rfl
  have F8 := fun_mk (st := t_row_of) l8 c8 k8
  have b8 := F8.binds (ps := ["p", "widths", "arrows"]) fun _ _ _ _ _ _ us hl => match us, hl with | [_, _, _], _ => rfl
  have F9 := fun_mk (st := t__law_whole) l9 c9 k9
  have b9 := F9.binds (ps := ["_law_found"]) fun _ _ _ _ _ _ us hl => match us, hl with | [_], _ => rfl
  have F10 := fun_mk (st := t__law_rests) l10 c10 k10
  have b10 := F10.binds (ps := ["_law_found", "_law_due"]) fun _ _ _ _ _ _ us hl => match us, hl with | [_, _], _ => rfl
  have F11 := fun_mk (st := t__law_is_table) l11 c11 k11
  have b11 := F11.binds (ps := ["_law_found", "_law_due"]) fun _ _ _ _ _ _ us hl => match us, hl with | [_, _], _ => rfl
  have F12 := fun_mk (st := t__law_is_row) l12 c12 k12
  have b12 := F12.binds (ps := ["_law_found", "_law_due"]) fun _ _ _ _ _ _ us hl => match us, hl with | [_, _], _ => rfl
  have F13 := fun_mk (st := t_ways_of) l13 c13 k13
  have b13 := F13.binds (ps := ["row"]) fun _ _ _ _ _ _ us hl => match us, hl with | [_], _ => rfl
  have F14 := fun_mk (st := t__law_truth) l14 c14 k14
  have b14 := F14.binds (ps := ["_law_found", "_law_due"]) fun _ _ _ _ _ _ us hl => match us, hl with | [_, _], _ => rfl
  have F15 := fun_mk (st := t_one_kind) l15 c15 k15
  have b15 := F15.binds (ps := ["one", "other"]) fun _ _ _ _ _ _ us hl => match us, hl with | [_, _], _ => rfl
  have F16 := fun_mk (st := t__law_handed) l16 c16 k16
  have b16 := F16.binds (ps := ["_law_script", "_law_row_here"]) fun _ _ _ _ _ _ us hl => match us, hl with | [_, _], _ => rfl
  have F17 := fun_mk (st := t_law) l17 c17 k17
  refine ⟨W.fnOf "law" "law" (defArgs t_law) (defBody t_law) (defScope t_law) .none kV17 dc17 pm17 an17 cd17 ct17, fun s v => .of_eq rfl, fun base KB GB => ?_⟩
  have h__law_mix : Cal l.prog w K mg base 1 "_law_mix" 2 s_law_mix := cal_mk F0 (W.mg_of X G a0) b0 c__law_mix .nil .nil bn
  have h__law_ways : Cal l.prog w K mg base 1 "_law_ways" 1 s_law_ways := cal_mk F1 (W.mg_of X G a1) b1 c__law_ways .nil .nil bn
  have h__law_table : Cal l.prog w K mg base 2 "_law_table" 5 s_law_table := cal_mk F2 (W.mg_of X G a2) b2 c__law_table (.cons h__law_mix (by decide) .nil) .nil bn
  have h__law_row : Cal l.prog w K mg base 3 "_law_row" 5 s_law_row := cal_mk F3 (W.mg_of X G a3) b3 c__law_row (.cons h__law_mix (by decide) (.cons h__law_table (by decide) .nil)) .nil bn
  have h_look_at_widths : Cal l.prog w K mg base 1 "look_at_widths" 1 s_look_at_widths := cal_mk F4 (W.mg_of X G a4) b4 c_look_at_widths .nil (.cons (gl_int (W.mg_of X G ga0)) (.cons (gl_int (W.mg_of X G ga1)) .nil)) bn
  have h_size_at : Cal l.prog w K mg base 1 "size_at" 3 s_size_at := cal_mk F5 (W.mg_of X G a5) b5 c_size_at .nil .nil bn
  have h_table_of : Cal l.prog w K mg base 1 "table_of" 4 s_table_of := cal_mk F6 (W.mg_of X G a6) b6 c_table_of .nil (.cons (gl_tup (vs := [.int 2, .int 3, .int 5, .int 7]) (W.mg_of X G ga2) gl2 (.cons ⟨_, rfl⟩ (.cons ⟨_, rfl⟩ (.cons ⟨_, rfl⟩ (.cons ⟨_, rfl⟩ .nil)))) (fun _ => (.cons (.int _) (.cons (.int _) (.cons (.int _) (.cons (.int _) .nil))))) (Nat.le_of_ble_eq_true rfl)) (.cons (gl_int (W.mg_of X G ga3)) .nil)) bn
  have h_arrow_of : Cal l.prog w K mg base 2 "arrow_of" 4 s_arrow_of := cal_mk F7 (W.mg_of X G a7) b7 c_arrow_of (.cons h_size_at (by decide) (.cons h_table_of (by decide) .nil)) .nil bn
  have h_row_of : Cal l.prog w K mg base 3 "row_of" 3 s_row_of_v2 := cal_mk F8 (W.mg_of X G a8) b8 c_row_of (.cons h_look_at_widths (by decide) (.cons h_arrow_of (by decide) .nil)) (.cons (gl_tup (vs := [.int 2, .int 3, .int 5, .int 7]) (W.mg_of X G ga2) gl2 (.cons ⟨_, rfl⟩ (.cons ⟨_, rfl⟩ (.cons ⟨_, rfl⟩ (.cons ⟨_, rfl⟩ .nil)))) (fun _ => (.cons (.int _) (.cons (.int _) (.cons (.int _) (.cons (.int _) .nil))))) (Nat.le_of_ble_eq_true rfl)) .nil) bn
  have h__law_whole : Cal l.prog w K mg base 1 "_law_whole" 1 s_law_whole := cal_mk F9 (W.mg_of X G a9) b9 c__law_whole .nil .nil bn
  have h__law_rests : Cal l.prog w K mg base 2 "_law_rests" 2 s_law_rests := cal_mk F10 (W.mg_of X G a10) b10 c__law_rests (.cons h__law_whole (by decide) .nil) .nil bn
  have h__law_is_table : Cal l.prog w K mg base 3 "_law_is_table" 2 s_law_is_table := cal_mk F11 (W.mg_of X G a11) b11 c__law_is_table (.cons h__law_whole (by decide) (.cons h__law_rests (by decide) .nil)) .nil bn
  have h__law_is_row : Cal l.prog w K mg base 4 "_law_is_row" 2 s_law_is_row := cal_mk F12 (W.mg_of X G a12) b12 c__law_is_row (.cons h__law_whole (by decide) (.cons h__law_rests (by decide) (.cons h__law_is_table (by decide) .nil))) .nil bn
  have h_ways_of : Cal l.prog w K mg base 1 "ways_of" 1 s_ways_of := cal_mk F13 (W.mg_of X G a13) b13 c_ways_of .nil .nil bn
  have h__law_truth : Cal l.prog w K mg base 1 "_law_truth" 2 s_law_truth := cal_mk F14 (W.mg_of X G a14) b14 c__law_truth .nil .nil bn
  have h_one_kind : Cal l.prog w K mg base 2 "one_kind" 2 s_one_kind := cal_mk F15 (W.mg_of X G a15) b15 c_one_kind (.cons h_ways_of (by decide) .nil) .nil bn
  have hr__law_handed : CalR l.prog w K mg base 2 "_law_handed" 2 r_law_handed_v2 := ⟨fun _ _ h => runR_len h, f16, _, _, W.mg_of X G a16, k16, b16, fn_mkR (T := {}) F16 cR__law_handed (.cons h__law_mix (by decide) .nil) .nil .nil XcOk.none no1 bn⟩
  exact fn_mkT (T := {}) F17 c_law (.cons h__law_mix (by decide) (.cons h__law_ways (by decide) (.cons h__law_row (by decide) (.cons h_row_of (by decide) (.cons h__law_is_row (by decide) (.cons h_ways_of (by decide) (.cons h__law_truth (by decide) (.cons h_one_kind (by decide) .nil)))))))) .nil .nil XcOk.none no1 bn (to := trs_mk .nil (.cons hr__law_handed (by decide) .nil) .nil OfsOk.nil)
theorem law_true (ns : List Int) (h : ns.length ≤ 63) : s_law_k10 [scrD ns] = some (.fz (.bool true)) := w_law_k10 ns true (La.k10_true ns h)
end Lk10
open PySem PySem.W PyProof.Rows
set_option maxHeartbeats 0 in
theorem PySem.Challenge.cw_barsplit_k10_rows_made_holds : PySem.Challenge.rw_barsplit_k10_rows_made.Holds := by
  refine Hd.fin ?_
  k_fill
  refine L2.walk_of (l := PySem.Challenge.rw_barsplit_k10_rows_made) (n := 63) (k := 5) (x := "_law_script") (CX := fun _ => L2.CX0) (sp := fun w => Mn.spD _ 1 Mn.s_law_k10) rfl (by decide) (by kernel_rfl) ⟨rfl, by decide, by decide⟩ (fun w h Y => PySem.W.kIn_of Y) ?F (fun w H a ns hl _ hS => Mn.law_sp Lk10.law_true H a ns hl hS) (fun _ _ _ _ _ h => h)
  case F =>
    intro w mg fa h KX G hmg
    refine' Lk10.all_mk KX G hmg ?_ ?_ ?_ ?_ ?_ ?_ ?_ ?_ ?_ ?_ ?_ ?_ ?_ ?_ ?_ ?_ ?_ ?_ ?_ ?_ ?_ ?_ ?_ ?_ ?_ ?_ ?_ ?_ ?_ ?_ ?_ ?_ ?_ ?_ ?_ ?_ ?_ ?_ ?_ ?_ ?_ ?_ ?_ ?_ ?_ ?_ ?_ ?_ ?_ ?_ ?_ ?_ ?_ ?_ ?_ ?_ ?_ ?_ ?_ ?_ ?_ ?_ ?_ ?_ ?_ ?_ ?_ ?_ ?_ ?_ ?_ ?_ ?_ ?_ ?_ ?_ ?_ ?_ ?_ ?_ ?_ ?_ ?_ ?_ ?_ ?_ ?_ ?_ ?_ ?_ ?_ ?_ ?_ ?_ ?_
    all_goals try k_is
    skip
    all_goals first | rfl | k_is | decide
