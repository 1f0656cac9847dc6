import PyProof.Rows.All
import Wide.All
import OpenK.AllK
import Wide.FinOn
import HandS.ForMost
import HandS.Deep
import HandS.TupAny
import HandS.TupMul
import HandS.Strs
import HandS.DictTup
import HandS.Iter
import HandS.Walk
import HandS.IsInst
import KE.KDictWalk
import HandS.TupLen
import PyProof.DictKinds
import HandS.SortOrd
import HandS.Sort
import KE.KDictSum
import HandS.ForExc
import HandS.Zip
import HandS.Rev
import HandS.EndBits
import HandS.Replace
import HandS.SortRule
import HandS.SortInts
import HandS.ExcIs
import HandS.ExcField
import KE.DataFind
import KE.KTupSum
import KE.KEqDict
import HandS.Style
import HandS.Text
import HandS.Conv
import KE.KDictList
import KE.KExcIs
import HandS.ExcInit
import HandS.RaiseMore
import HandS.More
import HandS.HotCalls
import KE.GoesEnum
import KE.KDictZip
import PyProof.Rows.ZipGen
import HandS.RevTup
import KE.KDictCopyH
import PyProof.SumAny
import HandS.MapSum
import PyProof.ListNew
import HandS.MapObj
import PyProof.StrOps
import KE.KTryMore
import KE.OsRunLaw
import PySem.Challenge.RW_barsplit_k20_forth_and_back_by_an_arrow
set_option Elab.async false
set_option linter.all false
set_option maxRecDepth 100000
set_option maxHeartbeats 4000000
namespace Hd
open PySem PySem.W PyProof.Rows
local macro_rules
  | `(tactic| o_headL $H) => `(tactic| (have x := $H; assumption))
theorem T0 (h : (OpenLaw.row PySem.Challenge.rw_barsplit_k20_forth_and_back_by_an_arrow).Holds) : (OpenLaw.row PySem.Challenge.rw_barsplit_k20_forth_and_back_by_an_arrow).Holds := by
  k_headL
def as0 : List Addr := [2, 3, 15, 22, 23, 24, 25, 28, 35, 36, 37, 40, 42, 43, 45, 46, 47, 50, 51, 52, 55, 56, 57, 60, 61, 62, 64, 65, 67, 68]
def as1 : List Addr := [69, 72, 73, 74, 76, 77, 79, 80, 81, 84, 85, 86, 89, 90, 91, 94, 95, 96, 99, 100, 108, 110, 111, 113, 114, 115, 117, 118, 120, 121]
def as2 : List Addr := [122, 124, 125, 127, 128, 129, 130, 131, 132, 133, 136, 143, 145, 146, 148, 149, 150, 152, 153, 155, 156, 157, 158, 159, 162, 169, 171, 172, 174, 175]
def as3 : List Addr := [176, 178, 179, 181, 182, 183, 184, 185, 188, 190, 191, 193, 194, 195, 198, 199, 200, 203, 204, 205, 208, 209, 210, 213, 214, 215, 218, 219, 220, 222]
def as4 : List Addr := [223, 225, 226, 227, 230, 231, 232, 235, 236, 237, 240, 241, 242, 245, 246, 247, 249, 250, 252, 253, 254, 256, 257, 259, 260]
def ads : List Addr := as0 ++ as1 ++ as2 ++ as3 ++ as4
def ns0 : List PySem.Str := ["SplitError", "Nought", "inverse", "summed", "led", "less", "first_with", "base_of", "lead_of", "kernel", "pressed", "joined_table", "leading_to", "Arrow", "Right", "Left", "_law_cell", "_law_less", "_law_base", "_law_led", "_law_all", "_law_span", "_law_whole", "_law_is_base", "_law_table", "_law_loads", "_law_due", "_law_right"]
def nms : List PySem.Str := ns0
abbrev Rw := OpenLaw.row PySem.Challenge.rw_barsplit_k20_forth_and_back_by_an_arrow
abbrev vw : Program := view Rw.prog [33]
abbrev Xw : Shared → Bool := fun s => xlAt vw [] s && recOk (RowW.records (OpenRow.toRowW Rw)) s
noncomputable abbrev Fw (w : World) (o : OsState) := (HeadRun.endF (HeadRun.stepQ (HeadRun.denQ HeadRun.tabQ) Rw.prog w) 14000 Rw.prog w o).map
  fun s => (HeadRun.looksF Rw.prog (boot_heap w.params) s.abs, HeadRun.seenQ vw nms (importedModules Rw.prog.main.body) Xw s.abs, ads.map (HeadRun.getT s))
noncomputable abbrev Gw (w : World) := some (true, openGood vw nms, (T0.heap_1 w.params).map fun x => some x.2)
set_option maxHeartbeats 0
theorem run0 : ∀ (w : World) (o : OsState), Fw (w.withFollow "special-get-raises" false) o = Gw (w.withFollow "special-get-raises" false) := by
  intro w o; kernel_rfl
theorem run1 : ∀ (w : World) (o : OsState), Fw (w.withFollow "special-get-raises" true) o = Gw (w.withFollow "special-get-raises" true) := by
  intro w o; kernel_rfl
theorem runs (w : World) : ∀ o : OsState, Fw w o = Gw w := byRow2 "special-get-raises" (P := fun w => ∀ o, Fw w o = Gw w) run0 run1 w
theorem lawH (h : (OpenLaw.row PySem.Challenge.rw_barsplit_k20_forth_and_back_by_an_arrow).wellSaid = true → (OpenLaw.row PySem.Challenge.rw_barsplit_k20_forth_and_back_by_an_arrow).Holds) : (PySem.Challenge.rw_barsplit_k20_forth_and_back_by_an_arrow).Holds := by
  w_on; o_law; exact h (by assumption)
theorem eks (P : Params) : ads = (T0.heap_1 P).map (·.1) := by kernel_rfl
theorem left : LeftO Rw.prog vw nms Xw (Hook.obs (kHook T0.heap_1 ads eks)) (Hook.val (kHook T0.heap_1 ads eks)) 14800 true :=
  HeadRun.left_oneK (M := 14000) (by kernel_rfl) (by rfl) (fun s => by kernel_rfl) (by rfl) runs
abbrev dw : DefRec := { HeadRun.topDef Rw.prog 33 with name := "law" }
theorem fin (call : WalkO vw nms (XL vw []) (Hook.says (kHook T0.heap_1 ads eks)) (OpenRow.toRowW Rw) dw [] fun f vs => PySem.call f vs) : (PySem.Challenge.rw_barsplit_k20_forth_and_back_by_an_arrow).Holds := by
  refine lawH fun said => ?_
  refine holds_open (r := Rw) (q := vw) (loose := nms) (Xt := Xw) (XP := XL vw [])
    (YP := Hook.says (kHook T0.heap_1 ads eks)) (d := dw) (kwd := [])
    left (Hook.of (kHook T0.heap_1 ads eks)) (Hook.keeps (kHook T0.heap_1 ads eks))
    (fun s e => xl_of s (Bool.and_eq_true_iff.mp e).1) XL.keeps
    (by kernel_rfl) (by kernel_rfl) (by kernel_rfl)
    (fun s e => recFacts_of (Bool.and_eq_true_iff.mp e).2) (by rfl)
    (by first | assumption | decide +kernel) (by decide +kernel)
    ⟨rfl, rfl, rfl, rfl, rfl, by decide +kernel⟩ ?hw call
  case hw => w_witness2
end Hd
set_option maxHeartbeats 4000000
namespace Mn
open PySem PySem.Spec PyProof.Rows L2
def TupO (o : Obj) : Prop := o.cls = .type "tuple" ∧ o.dict = none
def TupN (K : PySem.W.Frag) (F : Hp) (a : Addr) (xs : List V) : Prop :=
  (∃ o : Obj, F a = some (.frz o (.tup xs)) ∧ TupO o) ∨
    ∃ (o : Obj) (its : Array Value) (n : Nat), K.lookup a = some o ∧ o.cls = .type "tuple" ∧ o.dict = none ∧ o.data = .seq its n ∧ its.size ≤ sizeLine ∧ Vals xs its.toList
def NewT (Q : VK) (H : Hp) (xs : List V) : Prop := ∀ (p : Addr) (o : Obj), TupO o → H p = none → Q (.ref p) (upd H p (.frz o (.tup xs)))
section
variable {K : PySem.W.Frag} {H H' : Hp}
theorem TupN.sqT {a : Addr} {xs : List V} (h : TupN K H a xs) : SqT K H a xs := by
  rcases h with ⟨o, h, _⟩ | ⟨o, its, n, h1, h2, _, h3⟩
  · exact .inl (.inr ⟨o, h⟩)
  · exact .inr ⟨o, its, n, h1, h2, h3⟩
theorem Same.tupN (e : Same H H') {a : Addr} {xs : List V} (h : TupN K H a xs) : TupN K H' a xs := by
  rcases h with ⟨o, h, q⟩ | h
  · exact .inl ⟨o, e _ _ h, q⟩
  · exact .inr h
theorem TupN.of {a : Addr} {xs : List V} {o : Obj} (q : TupO o) (h : H a = some (.frz o (.tup xs))) : TupN K H a xs := .inl ⟨o, h, q⟩
end
section
variable {X : Cx} {pins : List (Addr × Obj)} {σ : L2.St} {H : Hp} {s : Shared}
theorem laidT {xs : List V} {its : List Value} {h0 : Heap} {tk : Nat} (I : Inv X pins σ H { s with heap := h0, toks := tk }) (hz : xs.length ≤ sizeLine) (r : Vals xs its) :
    Inv X pins σ (upd H h0.objs.size (.frz { cls := .type "tuple", data := .seq its.toArray } (.tup xs))) { s with heap := h0.push { cls := .type "tuple", data := .seq its.toArray }, toks := tk } :=
  I.laid (t' := tk) (fun b u e => Heap.get?_push_of_some _ e) (Nat.le_refl _) ⟨Heap.get?_push_size _ rfl, hz, its, r, IsTup.new _ _⟩
theorem laidQ {xs : List V} {its : List Value} {h0 : Heap} {tk : Nat} {Q : VK} (I : Inv X pins σ H { s with heap := h0, toks := tk }) (hz : xs.length ≤ sizeLine) (r : Vals xs its) (q : NewT Q H xs) :
    EP X pins σ Q (.ref h0.objs.size) { s with heap := h0.push { cls := .type "tuple", data := .seq its.toArray }, toks := tk } :=
  ⟨.ref h0.objs.size, _, laidT I hz r, rfl, q _ _ ⟨rfl, rfl⟩ (I.hok.fresh (Nat.le_refl _))⟩
def tTupN (t : TA) : TE := fun σ H Q => t σ H fun xs H1 => xs.length ≤ sizeLine ∧ NewT Q H1 xs
theorem pe_tupN {es : List Expr} {t : TA} {x1} {pos : Pos} (h : PA X es t) : PE X (.Tuple es x1 pos) (tTupN t) := by
  refine ⟨fun pins s σ H Q I hq => ?_⟩
  refine wpAny_Tuple_spliced (thn (h.run pos pins s σ H _ I hq) fun us s1 ⟨xs, H1, I1, r, z, q⟩ => ⟨by rw [← r.length]; exact z, ?_⟩)
  exact laidQ (s := s1) (h0 := s1.heap) (tk := s1.toks) I1 z r q
theorem call_tuple_ofN : CallR X (.type "tuple") (fun xs H Q => ∃ p ys, xs = [.ref p] ∧ ((SqL X.K H p ys ∧ NewT Q H ys) ∨ (SqT X.K H p ys ∧ Q (.ref p) H))) := by
  intro pins s σ H xs us Q I r h
  obtain ⟨p, ys, rfl, h⟩ := h
  obtain ⟨u, rfl, rx⟩ := vals1 r
  cases rx
  rcases h with ⟨hq, q⟩ | ⟨hq, q⟩
  · obtain ⟨its, r', pl, hz⟩ := I.list hq
    have hlen := r'.length
    refine call_tuple_list pl.isList (fun h' kp => ?_) (by simp only [List.size_toArray] <;> omega)
    exact laidQ (s := s) (h0 := h') (tk := s.toks) (I.kept (t' := s.toks) kp) hz r' q
  · obtain ⟨its, r', pl, hz⟩ := I.tuple hq
    exact call_tuple_same pl ⟨.ref p, H, I, rfl, q⟩
def rCatN (K : PySem.W.Frag) : R2 := fun x y H Q => ∃ a b xs ys, x = .ref a ∧ y = .ref b ∧ SqT K H a xs ∧ SqT K H b ys ∧ xs.length + ys.length ≤ sizeLine ∧
  (xs = [] → Q (.ref b) H) ∧ (xs ≠ [] → ys = [] → Q (.ref a) H) ∧ (xs ≠ [] → ys ≠ [] → NewT Q H (xs ++ ys))
theorem op_catN : OpR X (binaryOp .Add) (rCatN X.K) := by
  intro pins s σ H x y v u Q I rx ry h
  obtain ⟨a, b, xs, ys, rfl, rfl, ha, hb, hz, q0, q1, q2⟩ := h
  cases rx
  cases ry
  obtain ⟨its, r1, p1, _⟩ := I.tuple ha
  obtain ⟨its2, r2, p2, _⟩ := I.tuple hb
  by_cases hx : xs = []
  · subst hx
    cases r1
    exact cat_tup0 p1 p2 ⟨.ref b, H, I, rfl, q0 rfl⟩
  · refine HT.cat_tup p1 p2 (fun z => hx (r1.nil_iff.mp z)) (fun z => ⟨.ref a, H, I, rfl, q1 hx (r2.nil_iff.mp z)⟩) (fun z => ?_) (by rw [← r1.length, ← r2.length]; exact hz)
    exact laidQ (s := s) (h0 := s.heap) (tk := s.toks) I (by rw [List.length_append]; exact hz) (r1.append r2) (q2 hx fun w => z (r2.nil_iff.mpr w))
def rSlN (K : PySem.W.Frag) : V → Option Int → Option Int → Hp → VK → Prop := fun x lo hi H Q => ∃ a xs, x = .ref a ∧ SqT K H a xs ∧
  (HT.sIx xs.length 0 lo = 0 ∧ HT.sIx xs.length xs.length hi = xs.length → Q (.ref a) H) ∧ (¬ (HT.sIx xs.length 0 lo = 0 ∧ HT.sIx xs.length xs.length hi = xs.length) → NewT Q H (cutV xs lo hi))
theorem sl_tupN : SlR X (rSlN X.K) := by
  intro pins s σ H x v vl vu lo hi sl Q I rx hs pl pu h
  obtain ⟨a, xs, rfl, hx, q1, q2⟩ := h
  by_cases hw : HT.sIx xs.length 0 lo = 0 ∧ HT.sIx xs.length xs.length hi = xs.length
  · cases rx
    obtain ⟨its, r, ht, hz⟩ := I.tuple hx
    have hlen : its.toArray.size = xs.length := by rw [List.size_toArray]; exact r.length.symm
    refine ⟨"tuple", _, PyProof.Rows.slot_tuple_getitem.lookup, ht.typeIs, ?_⟩
    exact getItem_tuple_whole ht hs pl pu (by rw [hlen]; exact hw) ⟨.ref a, H, I, rfl, q1 hw⟩
  · cases rx
    obtain ⟨its, r, ht, hz⟩ := I.tuple hx
    have hlen : its.toArray.size = xs.length := by rw [List.size_toArray]; exact r.length.symm
    refine ⟨"tuple", _, PyProof.Rows.slot_tuple_getitem.lookup, ht.typeIs, ?_⟩
    refine HT.getItem_tuple_cut ht hs pl pu (by rw [hlen]; exact hw) ?_ (by rw [hlen]; exact hz)
    rw [hlen]
    exact laidQ (s := s) (h0 := s.heap) (tk := s.toks) I (Nat.le_trans (cutV_length xs lo hi) hz) ((r.drop (HT.sIx xs.length 0 lo)).take (HT.sIx xs.length xs.length hi - HT.sIx xs.length 0 lo)) (q2 hw)
end
end Mn
namespace Mn
open PySem PySem.Spec PyProof.Rows L2
abbrev TK := List (List Int × Addr × V)
abbrev TKv := List (List Int × Addr × Value)
def hashT (ks : List Int) : Int := reduceHash (Builtin.Tuple.tupleHashOf (ks.map hashInt))
def entT (x : List Int × Addr × Value) : DictEntry := ⟨hashT x.1, .ref x.2.1, x.2.2⟩
def KVx : TK → TKv → Prop := Paired fun (p : List Int × Addr × V) (q : List Int × Addr × Value) => p.1 = q.1 ∧ p.2.1 = q.2.1 ∧ RelV p.2.2 q.2.2
def dtP (o : Obj) (kvs : TK) : Prop := o.ExactDict ∧ ∃ es ep xs, o.data = .dict es ep ∧ KVx kvs xs ∧ es.toList = xs.map entT ∧ (xs.map (·.1)).Nodup
def dtO (a : Addr) (o : Obj) (kvs : TK) : HO := .ext fun h => (a == sysModules) = false ∧ kvs.length ≤ sizeLine ∧ h.get? a = some o ∧ dtP o kvs
def KeysN (K : PySem.W.Frag) (H : Hp) (kvs : TK) : Prop := ∀ x ∈ kvs, TupN K H x.2.1 (x.1.map V.int)
def valT (kvs : TK) (k : List Int) : Option (Addr × V) := (kvs.find? fun x => decide (x.1 = k)).map (·.2)
def putAtT (k : List Int) (v : V) (x : List Int × Addr × V) : List Int × Addr × V := if x.1 = k then (x.1, x.2.1, v) else x
def putT (kvs : TK) (k : List Int) (b : Addr) (v : V) : TK := if (valT kvs k).isSome then kvs.map (putAtT k v) else kvs ++ [(k, b, v)]
theorem dtO_ok {P : Program} {w : World} {H : Hp} {h : Heap} {a : Addr} {o : Obj} {kvs : TK} (hs : (a == sysModules) = false) (hz : kvs.length ≤ sizeLine) (ho : h.get? a = some o) (d : dtP o kvs) : ObjOk P w H h a (dtO a o kvs) :=
  ⟨⟨hs, hz, ho, d⟩, ⟨o, ho⟩, fun _ _ x k => ⟨x.1, x.2.1, k _ x.2.2.1, x.2.2.2⟩⟩
theorem dtO_inj {P : Program} {w : World} {H : Hp} {h : Heap} {a : Addr} {o : Obj} {kvs : TK} (x : ObjOk P w H h a (dtO a o kvs)) : (a == sysModules) = false ∧ kvs.length ≤ sizeLine ∧ h.get? a = some o ∧ dtP o kvs := x.1
theorem KVx.length {kvs : TK} {xs : TKv} (r : KVx kvs xs) : kvs.length = xs.length := Paired.length r
theorem KVx.mem {kvs : TK} {xs : TKv} (r : KVx kvs xs) : ∀ x ∈ xs, ∃ p ∈ kvs, p.1 = x.1 ∧ p.2.1 = x.2.1 := by
  unfold KVx at r
  induction r with
  | nil => intro x hx; exact nomatch hx
  | @cons p q ps qs h t ih =>
    intro x hx
    rcases List.mem_cons.mp hx with rfl | hx
    · exact ⟨p, by simp, h.1, h.2.1⟩
    · obtain ⟨p', h1, h2⟩ := ih x hx
      exact ⟨p', by simp [h1], h2⟩
theorem KVx.val {kvs : TK} {xs : TKv} (r : KVx kvs xs) (k : List Int) : match valT kvs k, atKey xs k with
    | some (b, v), some (c, u) => b = c ∧ RelV v u
    | none, none => True
    | _, _ => False := by
  unfold KVx at r
  induction r with
  | nil => exact True.intro
  | @cons p q ps qs h t ih =>
    unfold valT atKey at ih ⊢
    rw [List.find?_cons, List.find?_cons, ← h.1]
    by_cases e : p.1 = k
    · rw [decide_eq_true e]
      exact ⟨h.2.1, h.2.2⟩
    · rw [decide_eq_false e]
      exact ih
theorem KVx.some {kvs : TK} {xs : TKv} (r : KVx kvs xs) {k : List Int} {b : Addr} {v : V} (h : valT kvs k = some (b, v)) : ∃ u, atKey xs k = some (b, u) ∧ RelV v u := by
  have := r.val k
  rw [h] at this
  cases e : atKey xs k with
  | none => rw [e] at this; exact this.elim
  | some c =>
    rw [e] at this
    obtain ⟨c, u⟩ := c
    obtain ⟨rfl, h2⟩ := this
    exact ⟨u, rfl, h2⟩
theorem KVx.isSome {kvs : TK} {xs : TKv} (r : KVx kvs xs) (k : List Int) : (atKey xs k).isSome = (valT kvs k).isSome := by
  have := r.val k
  cases e : valT kvs k with
  | none => rw [e] at this; cases e2 : atKey xs k with
    | none => rfl
    | some c => rw [e2] at this; exact this.elim
  | some c => rw [e] at this; cases e2 : atKey xs k with
    | none => rw [e2] at this; exact this.elim
    | some c => rfl
theorem KVx.repl {kvs : TK} {xs : TKv} (r : KVx kvs xs) (k : List Int) {v : V} {u : Value} (rv : RelV v u) : KVx (kvs.map (putAtT k v)) (xs.map (putAt k u)) := by
  unfold KVx at r ⊢
  induction r with
  | nil => exact .nil
  | @cons p q ps qs h t ih =>
    refine .cons ?_ ih
    unfold putAtT putAt
    rw [← h.1]
    by_cases e : p.1 = k
    · rw [if_pos e, if_pos e]; exact ⟨rfl, h.2.1, rv⟩
    · rw [if_neg e, if_neg e]; exact h
theorem KVx.put {kvs : TK} {xs : TKv} (r : KVx kvs xs) (k : List Int) (b : Addr) {v : V} {u : Value} (rv : RelV v u) : KVx (putT kvs k b v) (storedH xs k b u) := by
  unfold putT storedH
  rw [r.isSome k]
  by_cases e : (valT kvs k).isSome = true
  · rw [if_pos e, if_pos e]; exact r.repl k rv
  · rw [if_neg e, if_neg e]; exact Paired.snoc r ⟨rfl, rfl, rv⟩
theorem putT_len (kvs : TK) (k : List Int) (b : Addr) (v : V) : (putT kvs k b v).length ≤ kvs.length + 1 := by
  unfold putT
  split
  · rw [List.length_map]; omega
  · rw [List.length_append]; simp
theorem ints_items {P : Program} {w : World} : ∀ {ks : List Int} {us : List Value}, Vals (ks.map V.int) us → ItemsAre (intKind P w) ks us
  | [], _, r => by rw [List.map_nil] at r; cases r; exact .nil
  | k :: ks, _, r => by
    rw [List.map_cons] at r
    cases r with
    | cons h t =>
      obtain ⟨tk, rfl⟩ := h
      exact .cons (by simp [intKind, Value.isInt]) (ints_items t)
section
variable {X : Cx} {pins : List (Addr × Obj)} {σ : L2.St} {H : Hp} {s : Shared} {a b : Addr} {o : Obj} {kvs : TK} {k : List Int} {A : Around} {E : Value → Shared → Prop}
theorem keyN_is (I : Inv X pins σ H s) (h : TupN X.K H b (k.map V.int)) : (tupleKind (intKind X.prog X.w)).is s.heap k b := by
  obtain ⟨its, r, ⟨o, ho, hc, n, hd⟩, _⟩ := I.tuple h.sqT
  exact ⟨o, its.toArray, n, ho, hc, hd, by simpa using ints_items r⟩
theorem dt_at (I : Inv X pins σ H s) (h : H a = some (dtO a o kvs)) : (a == sysModules) = false ∧ kvs.length ≤ sizeLine ∧ s.heap.get? a = some o ∧ dtP o kvs := dtO_inj (I.hok a _ h)
theorem dt_H (I : Inv X pins σ H s) (h : H a = some (dtO a o kvs)) (kn : KeysN X.K H kvs) : (a == sysModules) = false ∧ kvs.length ≤ sizeLine ∧ ∃ xs, KVx kvs xs ∧ s.heap.DictOfH (tupleKind (intKind X.prog X.w)) a xs := by
  obtain ⟨hs, hz, ho, hx, es, ep, xs, hd, r, he, nd⟩ := dt_at I h
  refine ⟨hs, hz, xs, r, o, es, ep, ho, hx, hd, he, fun x hx => ?_, nd⟩
  obtain ⟨p, hp, e1, e2⟩ := r.mem x hx
  rw [← e1, ← e2]
  exact keyN_is I (kn p hp)
theorem dt_ty (I : Inv X pins σ H s) (h : H a = some (dtO a o kvs)) : s.TypeIs (.ref a) "dict" ∧ (∀ b, Value.ref a = .ref b → ∃ ob, s.heap.get? b = some ob ∧ ob.dict = none) := by
  obtain ⟨_, _, ho, hx, _⟩ := dt_at I h
  exact ⟨⟨o, ho, hx.1⟩, fun b e => by cases e; exact ⟨o, ho, hx.2.1⟩⟩
def rIxTK (K : PySem.W.Frag) : R2 := fun x y H Q => ∃ a o kvs b k p v, x = V.ref a ∧ y = V.ref b ∧ H a = some (dtO a o kvs) ∧ KeysN K H kvs ∧ TupN K H b (k.map V.int) ∧ valT kvs k = some (p, v) ∧ Q v H
theorem ix_tk (hu : X.A.units + 1 < cLine) : IxR X (rIxTK X.K) := by
  intro value slice pins s σ H x y v u Q I rx ry h hs
  obtain ⟨a, o, kvs, b, k, p, z, rfl, rfl, ha, kn, hb, hv, q⟩ := h
  cases rx
  cases ry
  obtain ⟨hm, hz, xs, r, dd⟩ := dt_H I ha kn
  obtain ⟨w, hw, rw'⟩ := r.some hv
  exact tail_any dd.typeIs slot_dict_getitem.lookup (wpAny_getItem_heap (tupleKind_room_in1 hu) (keyN_is I hb) dd hw ⟨z, H, I.tok _, rw', q⟩) hs
def rInTK (K : PySem.W.Frag) (f : Bool → Bool) : R2 := fun y x H Q => ∃ a o kvs b k, x = V.ref a ∧ y = V.ref b ∧ H a = some (dtO a o kvs) ∧ KeysN K H kvs ∧ TupN K H b (k.map V.int) ∧ Q (.bl (f (valT kvs k).isSome)) H
theorem op_in_tk (hu : X.A.units + 1 < cLine) : OpR X (compareOp .In) (rInTK X.K id) := by
  intro pins s σ H y x u v Q I ry rx h
  obtain ⟨a, o, kvs, b, k, rfl, rfl, ha, kn, hb, q⟩ := h
  cases rx
  cases ry
  obtain ⟨hm, hz, xs, r, dd⟩ := dt_H I ha kn
  refine wpAny_in_heap (tupleKind_room_in1 hu) (keyN_is I hb) hm dd ⟨_, H, I.tok _, ?_, q⟩
  rw [r.isSome k]; rfl
theorem op_nin_tk (hu : X.A.units + 1 < cLine) : OpR X (compareOp .NotIn) (rInTK X.K not) := by
  intro pins s σ H y x u v Q I ry rx h
  obtain ⟨a, o, kvs, b, k, rfl, rfl, ha, kn, hb, q⟩ := h
  cases rx
  cases ry
  obtain ⟨hm, hz, xs, r, dd⟩ := dt_H I ha kn
  refine wpAny_notIn_heap (tupleKind_room_in1 hu) (keyN_is I hb) hm dd ⟨_, H, I.tok _, ?_, q⟩
  rw [r.isSome k]; rfl
def rPutTK (K : PySem.W.Frag) : TSet := fun x y v H Q => ∃ a o kvs b k, x = V.ref a ∧ y = V.ref b ∧ H a = some (dtO a o kvs) ∧ KeysN K H kvs ∧ TupN K H b (k.map V.int) ∧ kvs.length < sizeLine ∧ ∀ o', Q (upd H a (dtO a o' (putT kvs k b v)))
theorem set_tk (hu : X.A.units + 1 < cLine) : PSet X (rPutTK X.K) := by
  intro pins s σ H x y v xv yv u Q I rx ry rv h
  obtain ⟨a, o, kvs, b, k, rfl, rfl, ha, kn, hb, hl, q⟩ := h
  cases rx
  cases ry
  obtain ⟨hm, hz, xs, r, dd⟩ := dt_H I ha kn
  refine wpAny_setItem_heap (hsz := by rw [← r.length]; exact hz) (tupleKind_room_in1 hu) (keyN_is I hb) dd fun h' dd' hs => ?_
  obtain ⟨o', es, ep, ho', hx, hd, he, _, nd⟩ := dd'
  refine ⟨_, ?_, q o'⟩
  refine I.write (x := a) (e := a) (by rw [ha]; exact True.intro) (.inl rfl) (fun c w hc z => (hs.2 c hc).trans z) ⟨o', ho'⟩ ?_
  refine dtO_ok hm ?_ ho' ⟨hx, es, ep, _, hd, r.put k b rv, he, nd⟩
  have := putT_len kvs k b v
  omega
end
end Mn
namespace Mn
open PySem PySem.Spec PyProof.Rows L2
def dkP (o : Obj) (kvs : List (Int × V)) : Prop := o.ExactDict ∧ ∃ es ep vs, o.data = .dict es ep ∧ KV kvs vs ∧ (∀ P w, KeysOf (intKind P w) es ∧ Pairs (intKind P w) es.toList vs) ∧ (vs.map (·.1)).Nodup
def dkO (a : Addr) (o : Obj) (kvs : List (Int × V)) : HO := .ext fun h => (a == sysModules) = false ∧ kvs.length ≤ sizeLine ∧ h.get? a = some o ∧ dkP o kvs
theorem dkO_ok {P : Program} {w : World} {H : Hp} {h : Heap} {a : Addr} {o : Obj} {kvs : List (Int × V)} (hs : (a == sysModules) = false) (hz : kvs.length ≤ sizeLine) (ho : h.get? a = some o) (d : dkP o kvs) : ObjOk P w H h a (dkO a o kvs) :=
  ⟨⟨hs, hz, ho, d⟩, ⟨o, ho⟩, fun _ _ x k => ⟨x.1, x.2.1, k _ x.2.2.1, x.2.2.2⟩⟩
theorem dkO_inj {P : Program} {w : World} {H : Hp} {h : Heap} {a : Addr} {o : Obj} {kvs : List (Int × V)} (x : ObjOk P w H h a (dkO a o kvs)) : (a == sysModules) = false ∧ kvs.length ≤ sizeLine ∧ h.get? a = some o ∧ dkP o kvs := x.1
theorem pairs_any {P P' : Program} {w w' : World} {es : List DictEntry} {vs : List (Int × Value)} (h : Pairs (intKind P w) es vs) : Pairs (intKind P' w') es vs := by
  induction h with
  | nil => exact .nil
  | cons h1 h2 _ ih => exact .cons h1 h2 ih
theorem dkP_of {P : Program} {w : World} {h : Heap} {a : Addr} {kvs : List (Int × V)} {vs : List (Int × Value)} (r : KV kvs vs) (d : h.DictOf (intKind P w) a vs) : ∃ o, h.get? a = some o ∧ dkP o kvs := by
  obtain ⟨o, es, ep, ho, hx, hd, hk, hp, nd⟩ := d
  exact ⟨o, ho, hx, es, ep, vs, hd, r, fun P' w' => ⟨fun e he => hk e he, pairs_any hp⟩, nd⟩
section
variable {X : Cx} {pins : List (Addr × Obj)} {σ : L2.St} {H : Hp} {s : Shared} {a b : Addr} {o : Obj} {kvs : List (Int × V)} {k : Int} {A : Around} {E : Value → Shared → Prop}
theorem dk_at (I : Inv X pins σ H s) (h : H a = some (dkO a o kvs)) : (a == sysModules) = false ∧ kvs.length ≤ sizeLine ∧ s.heap.get? a = some o ∧ dkP o kvs := dkO_inj (I.hok a _ h)
theorem dk_H (I : Inv X pins σ H s) (h : H a = some (dkO a o kvs)) : (a == sysModules) = false ∧ kvs.length ≤ sizeLine ∧ ∃ vs, KV kvs vs ∧ s.heap.DictOf (intKind X.prog X.w) a vs := by
  obtain ⟨hs, hz, ho, hx, es, ep, vs, hd, r, he, nd⟩ := dk_at I h
  exact ⟨hs, hz, vs, r, o, es, ep, ho, hx, hd, (he X.prog X.w).1, (he X.prog X.w).2, nd⟩
theorem dk_ty (I : Inv X pins σ H s) (h : H a = some (dkO a o kvs)) : s.TypeIs (.ref a) "dict" ∧ (∀ b, Value.ref a = .ref b → ∃ ob, s.heap.get? b = some ob ∧ ob.dict = none) := by
  obtain ⟨_, _, ho, hx, _⟩ := dk_at I h
  exact ⟨⟨o, ho, hx.1⟩, fun b e => by cases e; exact ⟨o, ho, hx.2.1⟩⟩
theorem intK_is {P : Program} {w : World} {u : Value} (r : RelV (.int k) u) : (intKind P w).is k u = true := by
  obtain ⟨t, rfl⟩ := r
  simp [intKind, Value.isInt]
def rIxDK (K : PySem.W.Frag) : R2 := fun x y H Q => ∃ a o kvs k v, x = V.ref a ∧ y = V.int k ∧ H a = some (dkO a o kvs) ∧ valV kvs k = some v ∧ Q v H
theorem ix_dk : IxR X (rIxDK X.K) := by
  intro value slice pins s σ H x y v u Q I rx ry h hs
  obtain ⟨a, o, kvs, k, z, rfl, rfl, ha, hv, q⟩ := h
  cases rx
  obtain ⟨hm, hz, vs, r, dd⟩ := dk_H I ha
  obtain ⟨w', hw, rw'⟩ := RelO.some_of (v := z) (o := valueAt vs k) (by rw [← hv]; exact r.val k)
  exact tail_any dd.typeIs slot_dict_getitem.lookup (wpAny_getItem_of (intK_is ry) dd.mapOf hw ⟨z, H, I.tok _, rw', q⟩) hs
def rInDK (K : PySem.W.Frag) (f : Bool → Bool) : R2 := fun y x H Q => ∃ a o kvs k, x = V.ref a ∧ y = V.int k ∧ H a = some (dkO a o kvs) ∧ Q (.bl (f (valV kvs k).isSome)) H
theorem op_in_dk : OpR X (compareOp .In) (rInDK X.K id) := by
  intro pins s σ H y x u v Q I ry rx h
  obtain ⟨a, o, kvs, k, rfl, rfl, ha, q⟩ := h
  cases rx
  obtain ⟨hm, hz, vs, r, dd⟩ := dk_H I ha
  refine wpAny_in_of (intK_is ry) hm dd.mapOf ⟨_, H, I.tok _, ?_, q⟩
  rw [← (r.val k).isSome_eq]; rfl
theorem op_nin_dk : OpR X (compareOp .NotIn) (rInDK X.K not) := by
  intro pins s σ H y x u v Q I ry rx h
  obtain ⟨a, o, kvs, k, rfl, rfl, ha, q⟩ := h
  cases rx
  obtain ⟨hm, hz, vs, r, dd⟩ := dk_H I ha
  refine wpAny_notIn_of (intK_is ry) hm dd.mapOf ⟨_, H, I.tok _, ?_, q⟩
  rw [← (r.val k).isSome_eq]; rfl
def rPutDK (K : PySem.W.Frag) : TSet := fun x y v H Q => ∃ a o kvs k, x = V.ref a ∧ y = V.int k ∧ H a = some (dkO a o kvs) ∧ kvs.length < sizeLine ∧ ∀ o', Q (upd H a (dkO a o' (putK kvs k v)))
theorem set_dk : PSet X (rPutDK X.K) := by
  intro pins s σ H x y v xv yv u Q I rx ry rv h
  obtain ⟨a, o, kvs, k, rfl, rfl, ha, hl, q⟩ := h
  cases rx
  obtain ⟨hm, hz, vs, r, dd⟩ := dk_H I ha
  refine wpAny_setItem_pairs (hsz := by rw [← r.length]; exact hz) (intK_is ry) dd fun h' dd' hs => ?_
  obtain ⟨o', ho', hp⟩ := dkP_of (r.put k rv) dd'
  refine ⟨_, ?_, q o'⟩
  refine I.write (x := a) (e := a) (by rw [ha]; exact True.intro) (.inl rfl) (fun c w hc z => (hs.2 c hc).trans z) ⟨o', ho'⟩ (dkO_ok hm ?_ ho' hp)
  have := length_putK kvs k v
  omega
end
def rLenX : List V → Hp → VK → Prop := fun xs H Q => (∃ a o kvs, xs = [V.ref a] ∧ H a = some (dkO a o kvs) ∧ Q (.int ((kvs.length : Nat) : Int)) H)
def rLenXT (K : PySem.W.Frag) : List V → Hp → VK → Prop := fun xs H Q => (∃ a o kvs, xs = [V.ref a] ∧ H a = some (dtO a o kvs) ∧ KeysN K H kvs ∧ Q (.int ((kvs.length : Nat) : Int)) H)
theorem call_lenX {X : Cx} : CallR X (.builtin "len") rLenX := by
  intro pins s σ H xs us Q I r h
  obtain ⟨a, o, kvs, rfl, ha, q⟩ := h
  obtain ⟨u, rfl, rx⟩ := vals1 r
  cases rx
  obtain ⟨hm, hz, vs, r, dd⟩ := dk_H I ha
  have l : kvs.length = vs.length := Paired.length r
  refine call_len_dict hm dd (by rw [← l]; rw [sizeLine_eq] at hz; omega) ?_
  rw [← l]
  exact ⟨.int ((kvs.length : Nat) : Int), H, I.tok _, ⟨_, rfl⟩, q⟩
theorem call_lenXT {X : Cx} : CallR X (.builtin "len") (rLenXT X.K) := by
  intro pins s σ H xs us Q I r h
  obtain ⟨a, o, kvs, rfl, ha, kn, q⟩ := h
  obtain ⟨u, rfl, rx⟩ := vals1 r
  cases rx
  obtain ⟨hm, hz, vs, r, dd⟩ := dt_H I ha kn
  have l : kvs.length = vs.length := r.length
  refine call_len_dictH (knd := tupleKind (intKind X.prog X.w)) hm dd (by rw [← l]; rw [sizeLine_eq] at hz; omega) ?_
  rw [← l]
  exact ⟨.int ((kvs.length : Nat) : Int), H, I.tok _, ⟨_, rfl⟩, q⟩
def IsDX (a : Addr) (H : Hp) : Prop := (∃ o kvs, H a = some (dkO a o kvs)) ∨ ∃ o kvs, H a = some (dtO a o kvs)
theorem isDX_ty {X : Cx} {pins : List (Addr × Obj)} {σ : L2.St} {H : Hp} {s : Shared} {a : Addr} (I : Inv X pins σ H s) (h : IsDX a H) : s.TypeIs (.ref a) "dict" ∧ (∀ b, Value.ref a = .ref b → ∃ ob, s.heap.get? b = some ob ∧ ob.dict = none) := by
  rcases h with ⟨o, kvs, h⟩ | ⟨o, kvs, h⟩
  · exact dk_ty I h
  · exact dt_ty I h
def rIsiX (K : PySem.W.Frag) : List V → Hp → VK → Prop := fun xs H Q => ∃ (a : Addr) (c : V) (u : Value) (b : Bool), xs = [V.ref a, c] ∧ ClsV c u ∧ IsDX a H ∧ PySem.W.kitOne K (.type "dict") u = some b ∧ Q (.bl b) H
theorem call_isiX {X : Cx} : CallR X (.builtin "isinstance") (rIsiX X.K) := by
  intro pins s σ H xs us Q I r h
  obtain ⟨a, c, u, b, rfl, k, d, e, q⟩ := h
  obtain ⟨u1, u2, rfl, r1, r2⟩ := vals2 r
  have e2 := k.eq r2
  subst e2
  cases r1
  obtain ⟨⟨o, h1, h2⟩, _⟩ := isDX_ty I d
  exact PySem.W.kia_one PySem.W.kitx_dict I.kIn ⟨o, h1, h2⟩ e (fun z => nomatch z) fun tk => ⟨.bl b, H, I.tok tk, rfl, q⟩
def rowsP (o : Obj) (ks vs : List V) : Prop := o.ExactDict ∧ ∃ es ep, o.data = .dict es ep ∧ ks.length = es.size ∧ vs.length = es.size ∧ ∀ i (h : i < es.size), ∃ k v, ks[i]? = some k ∧ vs[i]? = some v ∧ RelV k es[i].key ∧ RelV v es[i].val
def AtO (d : Addr) (o : Obj) (H : Hp) : Prop := ∃ φ, H d = some (.ext φ) ∧ ∀ h, φ h → (d == sysModules) = false ∧ h.get? d = some o
theorem AtO.get {X : Cx} {pins : List (Addr × Obj)} {σ : L2.St} {H : Hp} {s : Shared} {d : Addr} {o : Obj} (a : AtO d o H) (I : Inv X pins σ H s) : (d == sysModules) = false ∧ s.heap.get? d = some o := by
  obtain ⟨φ, h, q⟩ := a
  exact q _ (I.hok d _ h).1
theorem AtO.same {H H' : Hp} {d : Addr} {o : Obj} (a : AtO d o H) (e : ∀ u, H d = some u → H' d = some u) : AtO d o H' := by
  obtain ⟨φ, h, q⟩ := a
  exact ⟨φ, e _ h, q⟩
theorem atO_t {H : Hp} {a : Addr} {o : Obj} {kvs : TK} (h : H a = some (dtO a o kvs)) : AtO a o H := ⟨_, h, fun _ x => ⟨x.1, x.2.2.1⟩⟩
theorem atO_k {H : Hp} {a : Addr} {o : Obj} {kvs : List (Int × V)} (h : H a = some (dkO a o kvs)) : AtO a o H := ⟨_, h, fun _ x => ⟨x.1, x.2.2.1⟩⟩
theorem dtP.rows {o : Obj} {kvs : TK} (h : dtP o kvs) : rowsP o (kvs.map fun x => V.ref x.2.1) (kvs.map fun x => x.2.2) := by
  obtain ⟨hx, es, ep, xs, hd, r, he, _⟩ := h
  have l1 : es.size = xs.length := by rw [← Array.length_toList, he, List.length_map]
  have l2 := r.length
  refine ⟨hx, es, ep, hd, by rw [List.length_map]; omega, by rw [List.length_map]; omega, fun i hi => ?_⟩
  have hk : i < kvs.length := by omega
  obtain ⟨q, hq, h1, h2, h3⟩ := paired_get r (List.getElem?_eq_getElem hk)
  have e2 : es[i]? = some (entT q) := by rw [← Array.getElem?_toList, he, List.getElem?_map, hq]; rfl
  have e3 : es[i] = entT q := by
    have := Array.getElem?_eq_getElem hi
    rw [this] at e2
    exact Option.some.inj e2
  refine ⟨_, _, by rw [List.getElem?_map, List.getElem?_eq_getElem hk]; rfl, by rw [List.getElem?_map, List.getElem?_eq_getElem hk]; rfl, ?_, ?_⟩
  · rw [e3]
    show Value.ref q.2.1 = Value.ref _
    rw [← h2]
  · rw [e3]; exact h3
theorem pairs_get {P : Program} {w : World} : ∀ {es : List DictEntry} {vs : List (Int × Value)}, Pairs (intKind P w) es vs → ∀ (i : Nat) (e : DictEntry), es[i]? = some e → ∃ p, vs[i]? = some p ∧ (intKind P w).is p.1 e.key = true ∧ e.val = p.2
  | _, _, .nil, i, e, h => by simp at h
  | _, _, .cons h1 h2 t, 0, e, h => by
    simp only [List.getElem?_cons_zero, Option.some.injEq] at h
    subst h
    exact ⟨_, rfl, h1, h2⟩
  | _, _, .cons h1 h2 t, i + 1, e, h => by
    simp only [List.getElem?_cons_succ] at h ⊢
    exact pairs_get t i e h
theorem dkP.rows {o : Obj} {kvs : List (Int × V)} (h : dkP o kvs) (P : Program) (w : World) : rowsP o (kvs.map fun x => V.int x.1) (kvs.map fun x => x.2) := by
  obtain ⟨hx, es, ep, vs, hd, r, he, _⟩ := h
  obtain ⟨_, hp⟩ := he P w
  have l1 := hp.length
  rw [Array.length_toList] at l1
  have l2 : kvs.length = vs.length := Paired.length r
  refine ⟨hx, es, ep, hd, by rw [List.length_map]; omega, by rw [List.length_map]; omega, fun i hi => ?_⟩
  have hk : i < kvs.length := by omega
  obtain ⟨q, hq, h1, h2⟩ := paired_get r (List.getElem?_eq_getElem hk)
  obtain ⟨q', hq', e1, e2⟩ := pairs_get hp i es[i] (by rw [Array.getElem?_toList]; exact Array.getElem?_eq_getElem hi)
  rw [hq] at hq'
  cases hq'
  refine ⟨_, _, by rw [List.getElem?_map, List.getElem?_eq_getElem hk]; rfl, by rw [List.getElem?_map, List.getElem?_eq_getElem hk]; rfl, ?_, ?_⟩
  · obtain ⟨t, ht⟩ := Value.isInt_shape e1
    refine ⟨t, ?_⟩
    rw [ht, h1]
  · rw [e2]; exact h2
def DxAt (d : Addr) (o : Obj) (ks vs : List V) (H : Hp) : Prop :=
  (∃ kvs : List (Int × V), H d = some (dkO d o kvs) ∧ ks = (kvs.map fun x => V.int x.1) ∧ vs = kvs.map fun x => x.2) ∨ ∃ kvs : TK, H d = some (dtO d o kvs) ∧ ks = (kvs.map fun x => V.ref x.2.1) ∧ vs = kvs.map fun x => x.2.2
theorem DxAt.atO {d : Addr} {o : Obj} {ks vs : List V} {H : Hp} (h : DxAt d o ks vs H) : AtO d o H := by
  rcases h with ⟨kvs, h, _⟩ | ⟨kvs, h, _⟩
  · exact atO_k h
  · exact atO_t h
theorem DxAt.same {d : Addr} {o : Obj} {ks vs : List V} {H H' : Hp} (h : DxAt d o ks vs H) (e : ∀ u, H d = some u → H' d = some u) : DxAt d o ks vs H' := by
  rcases h with ⟨kvs, h, r⟩ | ⟨kvs, h, r⟩
  · exact .inl ⟨kvs, e _ h, r⟩
  · exact .inr ⟨kvs, e _ h, r⟩
theorem DxAt.rows {X : Cx} {pins : List (Addr × Obj)} {σ : L2.St} {H : Hp} {s : Shared} {d : Addr} {o : Obj} {ks vs : List V} (h : DxAt d o ks vs H) (I : Inv X pins σ H s) : rowsP o ks vs := by
  rcases h with ⟨kvs, h, rfl, rfl⟩ | ⟨kvs, h, rfl, rfl⟩
  · obtain ⟨_, _, _, q⟩ := dk_at I h
    exact q.rows X.prog X.w
  · obtain ⟨_, _, _, q⟩ := dt_at I h
    exact q.rows
def ItX (d : Addr) (o : Obj) (xs : List V) : It := ⟨fun i H => AtO d o H ∧ i < xs.length, fun i H x H' => H' = H ∧ xs[i]? = some x, fun i H => AtO d o H ∧ xs.length ≤ i⟩
theorem walk_x {d : Addr} {o : Obj} {xs : List V} : Walk (ItX d o xs) xs.length (AtO d o) (YAt xs) := ⟨fun i H hi g => ⟨g, hi⟩, fun H g => ⟨g, Nat.le_refl _⟩, fun i H x H' hi g y => y⟩
section
variable {P : Program} {w : World} {K : PySem.W.Frag} {tg : Expr} {d : Addr} {o : Obj} {es : Array DictEntry} {ep : Nat}
theorem turn_kx {ks vs : List V} (it : Addr) (hx : o.ExactDict) (hod : o.data = .dict es ep) (r : rowsP o ks vs) : Turn P w K tg (ItX d o ks) [it] it (fun i h => h.IsKeyIter it d i es.size ep) where
  mem := by simp
  obj := fun i h st b hb => by
    have e : b = it := by simpa using hb
    subst e
    obtain ⟨oi, e, c, dd⟩ := st
    exact ⟨oi, e, fun v z => by rw [dd] at z; cases z⟩
  keep := fun i h h' st k => st.at fun oi e => k it (by simp) oi e
  item := by
    intro X hP hw hK hc i pins s σ H E I hf st hg
    subst hP hw hK
    obtain ⟨hd, hi⟩ := hg
    obtain ⟨f0, f1, f2, f3, f4, f5⟩ := hf it (by simp)
    obtain ⟨hs, hgd⟩ := hd.get I
    obtain ⟨_, es', ep', hdt, l1, l2, ent⟩ := r
    obtain ⟨rfl, rfl⟩ := dict_ep hod hdt
    obtain ⟨k, v, e1, e2, r1, r2⟩ := ent i (by omega)
    refine wpAny_pyNext_keys_item_raw st ⟨o, hgd, hx, hod⟩ (by omega) fun h' st' sb => ?_
    have I1 : Inv X pins σ H { s with heap := h' } := I.turned (t' := s.toks) (fun b ob hb e => (sb.2 b hb).trans e) f0 f1 f3 f4 f5
    obtain ⟨oi, e, c, dd⟩ := id st'
    exact ⟨_, rfl, go_of (s := { s with heap := h' }) e c dd (by decide) ⟨k, H, I1, r1, ⟨rfl, e1⟩, st', fun b hb => (hf b hb).1⟩⟩
  done := by
    intro X hP hw hK hc i pins s σ H E I hf st hg
    subst hP hw hK
    obtain ⟨hd, hi⟩ := hg
    obtain ⟨f0, f1, f2, f3, f4, f5⟩ := hf it (by simp)
    obtain ⟨hs, hgd⟩ := hd.get I
    obtain ⟨_, es', ep', hdt, l1, l2, ent⟩ := r
    obtain ⟨rfl, rfl⟩ := dict_ep hod hdt
    exact wpAny_pyNext_keys_end_raw (I.ok.hd hc) st ⟨o, hgd, hx, hod⟩ (by omega) fun h' eb => ⟨rfl, I.turned (t' := s.toks) (fun b ob hb e => eb b ob hb e) f0 f1 f3 f4 f5⟩
  self := fun A i s Q E st h => wpAny_pyIter_keyiter st h
end
section
variable {X : Cx} {tg e : Expr} {td : TE} {apos cpos : Pos}
def iKeysX (td : TE) : TI := fun σ H R => td σ H fun x H1 => ∃ d o ks vs, x = V.ref d ∧ DxAt d o ks vs H1 ∧ R (ItX d o ks) H1
theorem pi_keysX (he : PE X e td) : PI X tg e (iKeysX td) := by
  refine ⟨fun pins s σ H R I h => ?_⟩
  refine thn (he.run pins s σ H _ I h) fun u s1 ⟨x, H1, I1, rx, d, o, ks, vs, ex, hdx, q⟩ => ?_
  subst ex
  obtain rfl : u = Value.ref d := rx
  have hd := hdx.atO
  have r := hdx.rows I1
  obtain ⟨hs, hgd⟩ := hd.get I1
  obtain ⟨hx, es, ep, hdt, _⟩ := id r
  exact wpAny_pyIter_dict_raw hs ⟨o, hgd, hx, hdt⟩ (pi_one (tk := s1.toks) I1 _ (turn_kx _ hx hdt r) ⟨_, Heap.get?_push_size _ rfl, rfl, rfl⟩ q)
end
section
variable {X : Cx}
end
end Mn
set_option maxHeartbeats 1000000
namespace SrtO
open PySem PySem.Calls PyProof.Rows PyProof.V PySem.Spec
section
variable {prog : Program} {w : World} {A : Around} {E : Value → Shared → Prop} {s : Shared} {T : String} {r d : Addr} {n : Nat} {P : Nat → Value → Prop} {OK : Heap → Prop}
theorem gather {R : List Value → Shared → Prop} (K : PySem.W.KdlSrc prog w T r d n P OK) (hh : A.handled = none) (hok : OK s.heap) (hn : n ≤ sizeLine)
    (h : ∀ (h' : Heap) (tk : Nat) (acc : Array Value), (∀ b o, s.heap.get? b = some o → h'.get? b = some o) → s.heap.objs.size ≤ h'.objs.size → ItemsOf P acc n → R acc.toList { s with heap := h', toks := tk }) :
    wpAny (model prog w) A (collect (.ref r)) R E s := by
  have lt := K.there _ hok
  let Z : Obj := { cls := .type "list", data := .seq ([] : List Value).toArray }
  unfold collect
  refine wpAny_bind (wpAny_runValue (codeAny_builtin entry_proto_collect' ?_)); rw [Around.under_plainId PySem.F.plain_proto_collect _]
  show wpAny _ A.in1 (newList [] >>= fun q => again (.builtin "list.__iadd__" ⟨[q, .ref r], []⟩)) _ _ s
  refine wpAny_bind (wpAny_newObj_type ?_); refine wpAny_pure ⟨plainId_quiet PySem.F.plain_list_iadd _, codeAny_builtin entry_list_iadd' ?_⟩; rw [Around.under_plainId PySem.F.plain_list_iadd _]
  show wpAny _ A.in1 (Builtin.List.listExtendWith (.ref s.heap.objs.size) (.ref r) (.ref s.heap.objs.size)) _ _ _
  have walk := PySem.W.kdl_extend (A := A) (s := { s with heap := s.heap.push Z })
    (R := fun (q : Result) (s' : Shared) => ∃ (h' : Heap) (tk : Nat) (acc : Array Value) (c : Nat), q = .ok (.ret (.ref s.heap.objs.size)) ∧ s' = { s with heap := h', toks := tk } ∧
      (∀ b o, s.heap.get? b = some o → h'.get? b = some o) ∧ h'.get? s.heap.objs.size = some { cls := .type "list", dict := none, data := .seq acc c, slots := #[] } ∧ ItemsOf P acc n)
    K hh (K.keep _ _ hok fun b _ o e => Heap.get?_push_of_some _ e) s.heap.objs.size (Nat.ne_of_gt lt.1) (Nat.ne_of_gt lt.2) (.ref s.heap.objs.size) 0 (Heap.get?_push_size _ rfl)
    (fun h' tk acc c hk e it => ⟨h', tk, acc, c, rfl, rfl, fun b o q => hk b o (Nat.ne_of_lt (Heap.lt_size q)) (Heap.get?_push_of_some _ q), e, it⟩) hn
  refine wpAny_mono walk (fun q s' x => ?_) fun e s' x => ?_
  · cases q with
    | done f =>
      obtain ⟨h', tk, acc, c, e, rfl, hk, hS, it⟩ := x
      cases e
      show wpAny _ A (load s.heap.objs.size >>= _) _ _ _
      exact wpAny_bind (wpAny_load hS (wpAny_pure (h h' tk acc hk (Nat.le_of_lt (Heap.lt_size hS)) it)))
    | again g =>
      refine ⟨x.1, codeAny_mono x.2 fun q s2 y => ?_⟩
      obtain ⟨h', tk, acc, c, rfl, rfl, hk, hS, it⟩ := y
      show wpAny _ A (load s.heap.objs.size >>= _) _ _ _
      exact wpAny_bind (wpAny_load hS (wpAny_pure (h h' tk acc hk (Nat.le_of_lt (Heap.lt_size hS)) it)))
  · obtain ⟨_, _, _, _, e, _⟩ := x
    cases e
theorem sorted_pairsD {k : Value → Int × Int} {Q : Value → Shared → Prop} (K : PySem.W.KdlSrc prog w T r d n P OK) (hh : A.handled = none) (hok : OK s.heap) (hn : n ≤ sizeLine)
    (hp : ∀ j v, P j v → Srt.IsPair s.heap v (k v).1 (k v).2)
    (h : ∀ (h' : Heap) (tk : Nat) (D : Addr) (out vs : List Value), vs.length = n → (∀ (j : Nat) (v : Value), vs[j]? = some v → P j v) → Srtd (fun v u => lexB (k v) (k u)) out → Stb (fun v u => lexB (k v) (k u)) out vs → (∀ b o, s.heap.get? b = some o → h'.get? b = some o) → s.heap.objs.size ≤ D → (∃ n, h'.get? D = some (seqObj "list" out.toArray n)) → Q (.ref D) { s with heap := h', toks := tk }) :
    wpAny (model prog w) A (call (.builtin "sorted") [.ref r]) Q E s := by
  refine Calls.call_function_entry kind_sorted plain_sorted entry_sorted (args_sorted1 _) ?_
  unfold Builtin.«sorted»
  refine wpAny_bind (m := checkCount "sorted" 1 1 _) (wpAny_pure ?_)
  refine wpAny_bind (gather (A := A.in1) K hh hok hn fun h' tk acc hk hsz hacc => ?_)
  have hl : acc.toList.length = n := by rw [Array.length_toList]; exact hacc.1
  refine wpAny_bind (wpAny_newList ?_ (by rw [hl]; exact hn))
  have hoL : (h'.push (seqObj "list" acc.toList.toArray 0)).get? h'.objs.size = some (seqObj "list" acc.toList.toArray 0) := Heap.get?_push_size _ rfl
  have keep : ∀ b o, s.heap.get? b = some o → b ≠ h'.objs.size ∧ (h'.push (seqObj "list" acc.toList.toArray 0)).get? b = some o := fun b o q => by
    have hlt : b < h'.objs.size := Heap.lt_size (hk _ _ q)
    exact ⟨Nat.ne_of_lt hlt, Heap.get?_push_of_some _ (hk _ _ q)⟩
  have hv : ∀ (j : Nat) (v : Value), acc.toList[j]? = some v → P j v := fun j v e => hacc.2 j v (by rw [← Array.getElem?_toList]; exact e)
  have hpv : ∀ v ∈ acc.toList, Srt.IsPair (h'.push (seqObj "list" acc.toList.toArray 0)) v (k v).1 (k v).2 := fun v hm => by
    obtain ⟨j, hj⟩ := List.getElem?_of_mem hm
    exact (hp j v (hv j v hj)).keeps fun b o e _ => (keep b o e).2
  show wpAny _ _ _ _ _ { s with heap := h'.push (seqObj "list" acc.toList.toArray 0), toks := tk }
  refine wpAny_bind (wpAny_holding (wpAny_call_entry slot_list_sort ⟨_, hoL, rfl⟩ entry_list_sort (list_sort_ord (swo_lex k) hoL (by rw [hl]; exact hn) (fun h2 => pairs_sortableO (by omega) hpv fun o e => ?_) fun out hs hb => ⟨_, rfl, ?_⟩) (args_list_sort _)))
  · have e' : some o = some (seqObj "list" acc.toList.toArray 0) := e.symm.trans hoL
    cases e'
    intro c
    exact absurd (Value.type.inj c) (by decide)
  · exact wpAny_pure ⟨_, rfl, h _ tk _ out acc.toList hl hv hs hb (fun b o e => by rw [sortedHeap_old (keep b o e).1 (Heap.lt_size (keep b o e).2)]; exact (keep b o e).2) hsz (sortedHeap_at hoL)⟩
end
end SrtO
set_option maxHeartbeats 4000000
namespace L2
open PySem PySem.Spec PyProof.Rows
theorem tuple_mulS (l : Addr) (items : Array Value) (n : Nat) (sl : Array (Option Value)) (dd : Option Addr) (x : Int) (u : Tok) (c0 : (decide (x < -(2 ^ 63)) || decide (x ≥ 2 ^ 63)) = false) (c1 : (items.isEmpty || x == 1) = true) :
    Meets (Builtin.«tuple.__mul__» ⟨[.ref l, .int x u], []⟩) (fun _ R s => s.heap.get? l = some { cls := .type "tuple", dict := dd, data := .seq items n, slots := sl } ∧ R (.ok (.ret (Value.ref l))) s) :=
  .of_wp fun prog w A R s h => by
    obtain ⟨hp, g, d, tk, os⟩ := s
    obtain ⟨hl, h⟩ := h
    have f1 := AutoSeq1.idx_int
    wp_walk using wpAny_loadPart' hl
    repeat (first
      | (refine wpAny_ite_false (decide_eq_false (by rw [c0]; exact Bool.false_ne_true)) ?_; wp_walk using wpAny_loadPart' hl)
      | (refine wpAny_ite_true (decide_eq_true c1) ?_; wp_walk using wpAny_loadPart' hl))
    exact ⟨_, rfl, h⟩
theorem tuple_mul0 (l : Addr) (items : Array Value) (n : Nat) (dd : Option Addr) (sl : Array (Option Value)) (x : Int) (u : Tok) (c0 : (decide (x < -(2 ^ 63)) || decide (x ≥ 2 ^ 63)) = false) (c1 : (items.isEmpty || x == 1) = false) (c2 : (decide (x ≤ 0) || items.isEmpty) = true) :
    Meets (Builtin.«tuple.__mul__» ⟨[.ref l, .int x u], []⟩) (fun _ R s => s.heap.get? l = some { cls := .type "tuple", dict := dd, data := .seq items n, slots := sl } ∧
      R (.ok (.ret (Value.ref s.heap.objs.size))) { s with heap := s.heap.push { cls := Value.type "tuple", data := Data.seq #[] }, toks := s.toks }) :=
  .of_wp fun prog w A R s h => by
    obtain ⟨hp, g, d, tk, os⟩ := s
    obtain ⟨hl, h⟩ := h
    have f1 := AutoSeq1.idx_int
    wp_walk using wpAny_loadPart' hl
    repeat (first
      | (refine wpAny_ite_false (decide_eq_false (by rw [c0]; exact Bool.false_ne_true)) ?_; wp_walk using wpAny_loadPart' hl)
      | (refine wpAny_ite_false (decide_eq_false (by rw [c1]; exact Bool.false_ne_true)) ?_; wp_walk using wpAny_loadPart' hl)
      | (refine wpAny_ite_true (decide_eq_true c2) ?_; wp_walk using wpAny_loadPart' hl))
    exact ⟨_, rfl, h⟩
end L2
namespace Mn
open PySem PySem.Spec PyProof.Rows L2
def rRepA (K : PySem.W.Frag) : R2 := fun x y H Q => ∃ l k xs, x = .ref l ∧ y = .int k ∧ SqT K H l xs ∧ -1000 ≤ k ∧ k ≤ 1000 ∧ xs.length ≤ 1000 ∧ (xs = [] ∨ k = 1 → Q (.ref l) H) ∧ (¬ (xs = [] ∨ k = 1) → NewT Q H (List.replicate k.toNat xs).flatten)
section
variable {X : Cx}
theorem op_repA : OpR X (binaryOp .Mult) (rRepA X.K) := by
  intro pins s σ H x y v u Q I rx ry h
  obtain ⟨l, k, xs, rfl, rfl, hT, h1, h2, hz, q1, q2⟩ := h
  cases rx
  obtain ⟨t, rfl⟩ := ry
  obtain ⟨its, r, ⟨⟨cls, dd, data, sl⟩, ho, hc, n, hd⟩, hs⟩ := I.tuple hT
  simp only at hc hd
  subst hc hd
  have hle : its.length = xs.length := r.length.symm
  have hsz0 : its.toArray.size = xs.length := by rw [List.size_toArray, hle]
  have c0 : (decide (k < -(2 ^ 63)) || decide (k ≥ 2 ^ 63)) = false := by
    rw [decide_eq_false (by omega), decide_eq_false (by omega)] <;> rfl
  have go : ∀ {Q' : Value → Shared → Prop}, wpAny (model X.prog X.w) X.A (call (.builtin "tuple.__mul__") [.ref l, .int k t]) Q' X.xe s → wpAny (model X.prog X.w) X.A (binaryOp .Mult (.ref l) (.int k t)) Q' X.xe s := fun h =>
    wpAny_binaryOp_repeat_ref (T := "tuple") (U := "int") (by decide) ⟨_, ho, rfl⟩ (fun s' => typeIs_int s' k t) noFill_tuple_mul F.fills_int_mul F.slot_int_rmul repeat_tuple F.slot_int_index.lookup
      (call_meets F.slot_int_rmul (typeIs_int s k t) F.entry_int_rmul (F.args_int_rmul_2 _ _) (int_rmul_tuple k t l its.toArray n dd sl) ⟨ho, rfl, ⟨_, ho, rfl⟩, h⟩)
  by_cases hs1 : xs = [] ∨ k = 1
  · have c1 : (its.toArray.isEmpty || k == 1) = true := by
      rcases hs1 with rfl | rfl
      · cases r; rfl
      · simp
    exact go (call_meets F.slot_tuple_mul ⟨_, ho, rfl⟩ F.entry_tuple_mul (F.args_tuple_mul_2 _ _) (tuple_mulS l its.toArray n sl dd k t c0 c1) ⟨ho, .ref l, H, I, rfl, q1 hs1⟩)
  · have hn : its ≠ [] := fun e => hs1 (.inl (by
      rw [e] at hle
      exact List.eq_nil_of_length_eq_zero hle.symm))
    have hi : its.toArray.isEmpty = false := by
      cases its with
      | nil => exact absurd rfl hn
      | cons a b => rfl
    have k1 : k ≠ 1 := fun e => hs1 (.inr e)
    have c1 : (its.toArray.isEmpty || k == 1) = false := by
      rw [hi, Bool.false_or]
      exact beq_eq_false_iff_ne.mpr k1
    have q := q2 hs1
    by_cases h0 : k ≤ 0
    · have c2 : (decide (k ≤ 0) || its.toArray.isEmpty) = true := by rw [decide_eq_true h0]; rfl
      have e0 : k.toNat = 0 := by omega
      rw [e0] at q
      refine go (call_meets F.slot_tuple_mul ⟨_, ho, rfl⟩ F.entry_tuple_mul (F.args_tuple_mul_2 _ _) (tuple_mul0 l its.toArray n dd sl k t c0 c1 c2) ⟨ho, ?_⟩)
      exact laidQ (s := s) (h0 := s.heap) (tk := s.toks) (its := []) I (by rw [sizeLine_eq]; decide) .nil q
    · have c2 : (decide (k ≤ 0) || its.toArray.isEmpty) = false := by
        rw [hi, Bool.or_false]
        exact decide_eq_false h0
      have hm : ((its.toArray.size : Nat) : Int) * k ≤ 1000000 := by
        rw [hsz0]
        have a1 : ((xs.length : Nat) : Int) * k ≤ 1000 * k := Int.mul_le_mul_of_nonneg_right (by omega) (by omega)
        omega
      have flen : (List.replicate k.toNat its).flatten.length ≤ sizeLine := by
        rw [PyProof.Rows.lm_len_rep_flat, hle, sizeLine_eq]
        have a1 : k.toNat * xs.length ≤ 1000 * 1000 := Nat.mul_le_mul (by omega) hz
        omega
      have c4 : Builtin.Tuple.tupleTooMany (((its.toArray.size : Nat) : Int) * k) = false := by
        unfold Builtin.Tuple.tupleTooMany
        rw [sizeLine_eq]
        exact decide_eq_false (by omega)
      refine go (call_meets F.slot_tuple_mul ⟨_, ho, rfl⟩ F.entry_tuple_mul (F.args_tuple_mul_2 _ _) (tuple_mulW l its.toArray n dd sl k t c0 c1 c2 (by omega) c4 (by rw [size_rep, List.size_toArray]; exact flen)) ⟨ho, ?_⟩)
      rw [size_rep]
      exact laidQ (s := s) (h0 := s.heap) (tk := s.toks) I (by rw [PyProof.Rows.lm_len_rep_flat, sizeLine_eq]; have a1 : k.toNat * xs.length ≤ 1000 * 1000 := Nat.mul_le_mul (by omega) hz; omega) (r.rep k.toNat) q
theorem list_extend_tupG (l : Addr) (items : Array Value) (n : Nat) (b : Addr) (items2 : Array Value) (n2 : Nat) (dd : Option Addr) (sl : Array (Option Value)) (hs0 : ¬(!items.isEmpty && Builtin.List.listTooLong (items.size + items2.size)) = true) (hs1 : items.size ≤ sizeLine) (hs2 : items.size + items2.size ≤ sizeLine + 1) :
    Meets (Builtin.«list.extend» ⟨[.ref l, .ref b], []⟩) (fun _ R s => s.heap.get? l = some { cls := .type "list", dict := none, data := .seq items n, slots := #[] } ∧ s.heap.get? b = some { cls := .type "tuple", dict := dd, data := .seq items2 n2, slots := sl } ∧ R (.ok (.ret Value.none)) { s with heap := s.heap.update l (Obj.mapSeq fun x => x ++ items2), toks := s.toks }) :=
  .of_wp fun prog w A R s h => by
    obtain ⟨hp, g, d, tk, os⟩ := s; obtain ⟨hl, hb, h⟩ := h; have f1 := AutoSeq1.idx_int; have f2 := AutoSeq1.sub_tuple_tuple; have f3 := AutoSeq1.sub_list_list; have f4 := AutoSeq1.sub_tuple_list; have f5 := AutoSeq1.sub_list_tuple;
    have hz' : (items ++ items2).size ≤ sizeLine + 1 := by rw [Array.size_append]; exact hs2
    wp_walk using (wpAny_updateSeq hl rfl (hz := hs1) (_hz' := hz')), AutoSeq1.wpAny_loadPart' hl, AutoSeq1.wpAny_loadPart' hb; exact ⟨_, rfl, h⟩
def rExtendT (K : PySem.W.Frag) : V → List V → Hp → VK → Prop := fun x vs H Q => ∃ l b xs zs, x = .ref l ∧ vs = [.ref b] ∧ H l = some (.lst xs) ∧ SqT K H b zs ∧ xs.length + zs.length ≤ sizeLine ∧ Q .non (upd H l (.lst (xs ++ zs)))
theorem mt_extendT : MtM X "list.extend" (rExtendT X.K) := by
  intro pins s σ H x vs v us Q I rx rv h
  obtain ⟨l, b, xs, zs, rfl, rfl, hH, hB, hz, q⟩ := h
  cases rx
  obtain ⟨u, rfl, ru⟩ := rv.one
  cases ru
  obtain ⟨z, its, n, r, hl, e⟩ := I.lstM hH
  obtain ⟨its2, r2, ⟨⟨cls, dd, data, sl⟩, e2, hc, n2, hd⟩, hl2⟩ := I.tuple hB
  simp only at hc hd
  subst hc hd
  have l2 := r2.length
  have hsz : its.toArray.size + its2.toArray.size ≤ sizeLine := by rw [List.size_toArray, List.size_toArray]; omega
  have hlong : ¬ (!its.toArray.isEmpty && Builtin.List.listTooLong (its.toArray.size + its2.toArray.size)) = true := by
    rw [notLongL hsz, Bool.and_false]
    exact Bool.false_ne_true
  refine call_meets F.slot_list_extend ⟨_, e, rfl⟩ F.entry_list_extend (F.args_list_extend_2 _ _)
    (list_extend_tupG l its.toArray n b its2.toArray n2 dd sl hlong (by rw [List.size_toArray]; omega) (by omega)) ⟨e, e2, ?_⟩
  refine ⟨.non, _, I.lset (its' := its ++ its2) hH e (by simp) (r.append r2) ?_, rfl, q⟩
  rw [List.length_append]
  omega
end
end Mn
namespace Mn
open PySem PySem.Spec PyProof.Rows L2
def sameI : Value → Option (Addr × Value) → Bool
  | .int i _, some (_, .int j _) => i == j
  | _, _ => false
def teqB (xa xb : TKv) : Bool := xa.all fun x => sameI x.2.2 (atKey xb x.1)
section
variable {prog : Program} {w : World} {A : Around} {E : Value → Shared → Prop} {s : Shared}
theorem teq_same {nm : String} {a b : Addr} {xa xb : TKv} {Q : Bool → Shared → Prop} (hu : A.units < cLine) (ha : (a == sysModules) = false) (hb : (b == sysModules) = false)
    (da : s.heap.DictOfH (tupleKind (intKind prog w)) a xa) (db : s.heap.DictOfH (tupleKind (intKind prog w)) b xb) (va : ∀ x ∈ xa, ∃ i t, x.2.2 = .int i t) (vb : ∀ x ∈ xb, ∃ i t, x.2.2 = .int i t)
    (h : Q (xa.length == xb.length && teqB xa xb) s) : wpAny (model prog w) A (Builtin.Dict.samePairs nm a b) Q E s := by
  obtain ⟨oa, es, ep, hoa, _, hda, hea, hia, hna⟩ := da
  obtain ⟨ob, es', ep', hob, _, hdb, heb, hib, hnb⟩ := db
  have hla : xa.length = es.size := (size_of_entries hea).symm
  have hlb : xb.length = es'.size := (size_of_entries heb).symm
  rw [hla, hlb] at h
  unfold Builtin.Dict.samePairs Builtin.Dict.showsAll
  rw [if_neg (show ¬ (a == sysModules) = true by rw [ha]; exact Bool.false_ne_true), if_neg (show ¬ (b == sysModules) = true by rw [hb]; exact Bool.false_ne_true)]
  refine wpAny_bind (wpAny_pure (wpAny_bind (wpAny_pure ?_)))
  refine wpAny_bind (wpAny_dictEntries hoa hda ?_)
  dsimp only
  refine wpAny_bind (wpAny_dictEntries hob hdb ?_)
  by_cases hsz : es.size = es'.size
  case neg =>
    rw [if_pos (by simpa using hsz)]
    have hbf : (es.size == es'.size) = false := by simpa using hsz
    rw [hbf, Bool.false_and] at h
    exact wpAny_bind (wpAny_rule (wpAny_pure h))
  case pos =>
    have h' : Q (teqB xa xb) s := by simpa [hsz] using h
    rw [if_neg (by rw [hsz]; simp)]
    refine wpAny_bind (wpAny_dictEpoch hoa hda ?_)
    refine wpAny_bind ?_
    rw [Std.Legacy.Range.forIn_eq_forIn_range']
    simp only [Std.Legacy.Range.size, Nat.sub_zero, Nat.add_sub_cancel, Nat.div_one]
    refine wpAny_forIn_list _
      (fun rest q s' => s' = s ∧ q = (none, ()) ∧ ∃ i, rest = List.range' i (es.size - i) ∧ i ≤ es.size ∧ teqB (xa.drop i) xb = teqB xa xb)
      _ ?_ ?_ _ _ ⟨rfl, rfl, 0, by simp, Nat.zero_le _, by simp⟩
    · rintro x rest q s' ⟨rfl, rfl, i, hr, hi, hpre⟩
      have hlt : i < es.size := by
        rcases Nat.lt_or_ge i es.size with h | h
        · exact h
        · rw [Nat.sub_eq_zero_of_le h] at hr; simp at hr
      obtain ⟨rfl, hrest⟩ : x = i ∧ rest = List.range' (i + 1) (es.size - (i + 1)) := by
        have e : es.size - i = (es.size - (i + 1)) + 1 := by omega
        rw [e, List.range'_succ] at hr
        injection hr with h1 h2
        exact ⟨h1, h2⟩
      refine wpAny_bind (wpAny_dictEntries hoa hda ?_)
      rw [Array.getElem?_eq_getElem hlt]
      have hlt' : x < xa.length := by rw [hla]; exact hlt
      have hmem : xa[x] ∈ xa := List.getElem_mem hlt'
      obtain ⟨i1, tk1, hv1⟩ := va _ hmem
      have hdrop : xa.drop x = xa[x] :: xa.drop (x + 1) := List.drop_eq_getElem_cons hlt'
      have een : es[x] = entryOfKey (tupleKind (intKind prog w)) xa[x] := by
        have := entry_at hea x
        rw [Array.getElem?_eq_getElem hlt, List.getElem?_eq_getElem hlt'] at this
        exact Option.some.inj this
      rw [hdrop] at hpre
      have hpre' : (sameI xa[x].2.2 (atKey xb xa[x].1) && teqB (xa.drop (x + 1)) xb) = teqB xa xb := by
        rw [← hpre]; rfl
      show wpAny _ _ (holding [es[x].key, es[x].val] _ >>= _) _ _ _
      rw [een]
      refine wpAny_bind (wpAny_holding (wpAny_bind (wpAny_dictFind_heap (knd := tupleKind (intKind prog w)) (k := xa[x].1) hu (hia _ hmem) hob hdb heb hib hnb (fun hno => ?_) (fun j p hj => ?_))))
      · rw [atKey_none_of_get hno] at hpre'
        have e0 : sameI xa[x].2.2 none = false := by rw [hv1]; rfl
        rw [e0, Bool.false_and] at hpre'
        rw [← hpre'] at h'
        refine wpAny_pure ?_
        show wpAny _ _ (if (!false) = true then _ else _) _ _ _
        rw [if_pos (by decide)]
        exact wpAny_pure (wpAny_pure h')
      · rw [atKey_of_get hnb hj] at hpre'
        obtain ⟨hjl, hje⟩ := List.getElem?_eq_some_iff.mp hj
        have hjlt : j < es'.size := by rw [← hlb]; exact hjl
        have een' : es'[j] = entryOfKey (tupleKind (intKind prog w)) (xa[x].1, p) := by
          have := entry_at heb j
          rw [Array.getElem?_eq_getElem hjlt, hj] at this
          exact Option.some.inj this
        obtain ⟨i2, tk2, hv2⟩ := vb (xa[x].1, p) (List.mem_of_getElem? hj)
        refine wpAny_bind (wpAny_dictEntries hob hdb ?_)
        rw [Array.getElem?_eq_getElem hjlt]
        have hv2' : es'[j].val = .int i2 tk2 := by rw [een']; exact hv2
        have hp : p = (p.1, .int i2 tk2) := Prod.ext rfl hv2
        have hs : sameI xa[x].2.2 (some p) = (i1 == i2) := by rw [hv1, hp]; rfl
        rw [hs] at hpre'
        refine wpAny_holding ?_
        show wpAny _ _ (eqBool xa[x].2.2 es'[j].val) _ _ _
        rw [hv1, hv2']
        refine SeqAt.EqAt.int_int (A := A) (s := s') i1 tk1 i2 tk2 prog w _ _ ?_
        cases hii : (i1 == i2) with
        | false =>
          rw [hii, Bool.false_and] at hpre'
          rw [← hpre'] at h'
          show wpAny _ _ (if (!false) = true then _ else _) _ _ _
          rw [if_pos (by decide)]
          exact wpAny_pure (wpAny_pure h')
        | true =>
          rw [hii, Bool.true_and] at hpre'
          show wpAny _ _ (if (!true) = true then _ else _) _ _ _
          rw [if_neg (by decide)]
          refine wpAny_bind (wpAny_dictEpoch hoa hda ?_)
          rw [if_neg (by simp)]
          exact wpAny_pure ⟨rfl, rfl, x + 1, hrest, hlt, hpre'⟩
    · rintro q s' ⟨rfl, rfl, i, hr, hi, hpre⟩
      have hin : i = es.size := by
        rcases Nat.lt_or_ge i es.size with h | h
        · have e : es.size - i = (es.size - (i + 1)) + 1 := by omega
          rw [e, List.range'_succ] at hr; exact nomatch hr
        · exact Nat.le_antisymm hi h
      refine wpAny_pure ?_
      rw [hin, ← hla, List.drop_length] at hpre
      rw [← hpre] at h'
      exact h'
theorem teq_eq {a b : Addr} {xa xb : TKv} {Q : Value → Shared → Prop} (hu : A.units + 1 < cLine) (ha : (a == sysModules) = false) (hb : (b == sysModules) = false)
    (da : s.heap.DictOfH (tupleKind (intKind prog w)) a xa) (db : s.heap.DictOfH (tupleKind (intKind prog w)) b xb) (va : ∀ x ∈ xa, ∃ i t, x.2.2 = .int i t) (vb : ∀ x ∈ xb, ∃ i t, x.2.2 = .int i t)
    (h : Q (.bool (xa.length == xb.length && teqB xa xb)) s) : wpAny (model prog w) A (compareOp .Eq (.ref a) (.ref b)) Q E s := by
  refine wpAny_richCompare_same_room (op := .Eq) da.typeIs db.typeIs PySem.F.slot_dict_eq (wpAny_call_entry PySem.F.slot_dict_eq da.typeIs PySem.F.entry_dict_eq ?_ (PySem.F.args_dict_eq_2 _ _)) (by omega)
  show wpAny _ _ (Builtin.Dict.dictSlotArgs "__eq__" ⟨[.ref a, .ref b], []⟩ >>= _) _ _ s
  refine wpAny_bind ?_
  unfold Builtin.Dict.dictSlotArgs
  refine wpAny_bind (wpAny_notOrdered_dict da.typeIs ?_)
  show wpAny _ _ (pure (Value.ref a, Value.ref b)) _ _ s
  refine wpAny_pure ?_
  refine wpAny_bind (wpAny_isInstance (T := "dict") db.typeIs PySem.F.sub_dict_dict ?_)
  simp only [Bool.not_true, Bool.false_eq_true, if_false]
  refine wpAny_bind (wpAny_pure (wpAny_bind (wpAny_pure ?_)))
  refine wpAny_bind (teq_same (show A.in1.units < cLine from tupleKind_room_in1 (knd := intKind prog w) hu) ha hb da db va vb ?_)
  refine wpAny_pure ⟨_, rfl, ?_, ?_⟩
  · exact fun x => nomatch x
  · simpa using h
theorem teq_ne {a b : Addr} {xa xb : TKv} {Q : Value → Shared → Prop} (hu : A.units + 1 < cLine) (ha : (a == sysModules) = false) (hb : (b == sysModules) = false)
    (da : s.heap.DictOfH (tupleKind (intKind prog w)) a xa) (db : s.heap.DictOfH (tupleKind (intKind prog w)) b xb) (va : ∀ x ∈ xa, ∃ i t, x.2.2 = .int i t) (vb : ∀ x ∈ xb, ∃ i t, x.2.2 = .int i t)
    (h : Q (.bool (!(xa.length == xb.length && teqB xa xb))) s) : wpAny (model prog w) A (compareOp .NotEq (.ref a) (.ref b)) Q E s := by
  refine wpAny_richCompare_same_room (op := .NotEq) da.typeIs db.typeIs PySem.F.slot_dict_ne (wpAny_call_entry PySem.F.slot_dict_ne da.typeIs PySem.F.entry_dict_ne ?_ (PySem.F.args_dict_ne_2 _ _)) (by omega)
  show wpAny _ _ (Builtin.Dict.dictSlotArgs "__ne__" ⟨[.ref a, .ref b], []⟩ >>= _) _ _ s
  refine wpAny_bind ?_
  unfold Builtin.Dict.dictSlotArgs
  refine wpAny_bind (wpAny_notOrdered_dict da.typeIs ?_)
  show wpAny _ _ (pure (Value.ref a, Value.ref b)) _ _ s
  refine wpAny_pure ?_
  refine wpAny_bind (wpAny_isInstance (T := "dict") db.typeIs PySem.F.sub_dict_dict ?_)
  simp only [Bool.not_true, Bool.false_eq_true, if_false]
  refine wpAny_bind (wpAny_pure (wpAny_bind (wpAny_pure ?_)))
  refine wpAny_bind (teq_same (show A.in1.units < cLine from tupleKind_room_in1 (knd := intKind prog w) hu) ha hb da db va vb ?_)
  refine wpAny_pure ⟨_, rfl, ?_, ?_⟩
  · exact fun x => nomatch x
  · simpa using h
end
def sameV : V → Option V → Bool
  | .int i, some (.int j) => i == j
  | _, _ => false
def teqV (ka kb : TK) : Bool := ka.all fun x => sameV x.2.2 ((valT kb x.1).map fun z => z.2)
def IntsT (ka : TK) : Prop := ∀ x ∈ ka, ∃ i, x.2.2 = V.int i
theorem ints_vx : ∀ {ka : TK} {xa : TKv}, KVx ka xa → IntsT ka → ∀ x ∈ xa, ∃ i t, x.2.2 = .int i t := fun {ka xa} r h => by
  unfold KVx at r
  induction r with
  | nil => intro x hx; exact nomatch hx
  | @cons p q ps qs hq t ih =>
    intro x hx
    rcases List.mem_cons.mp hx with rfl | hx
    · obtain ⟨i, e⟩ := h p (by simp)
      have := hq.2.2
      rw [e] at this
      obtain ⟨tk, z⟩ := this
      exact ⟨i, tk, z⟩
    · exact ih (fun y hy => h y (by simp [hy])) x hx
theorem teq_v {kb : TK} {xb : TKv} (rb : KVx kb xb) (hb : IntsT kb) : ∀ {ka : TK} {xa : TKv}, KVx ka xa → IntsT ka → teqB xa xb = teqV ka kb := fun {ka xa} r h => by
  unfold KVx at r
  induction r with
  | nil => rfl
  | @cons p q ps qs hq t ih =>
    have ih := ih fun y hy => h y (by simp [hy])
    unfold teqB teqV at ih ⊢
    rw [List.all_cons, List.all_cons, ih]
    congr 1
    obtain ⟨i, e⟩ := h p (by simp)
    have hv := hq.2.2
    rw [e] at hv
    obtain ⟨tk, z⟩ := hv
    rw [z, e, ← hq.1]
    have hl := rb.val p.1
    cases e1 : valT kb p.1 with
    | none =>
      rw [e1] at hl
      cases e2 : atKey xb p.1 with
      | none => rfl
      | some c => rw [e2] at hl; exact hl.elim
    | some c =>
      obtain ⟨cb, cv⟩ := c
      obtain ⟨u, hu2, ru⟩ := rb.some e1
      rw [hu2]
      have hm : ∃ y ∈ kb, y.2.2 = cv := by
        unfold valT at e1
        obtain ⟨y, hy, hy2⟩ := Option.map_eq_some_iff.mp e1
        exact ⟨y, List.mem_of_find?_eq_some hy, by rw [hy2]⟩
      obtain ⟨y, hy, hy2⟩ := hm
      obtain ⟨j, ej⟩ := hb y hy
      rw [hy2] at ej
      rw [ej] at ru
      obtain ⟨tj, rfl⟩ := ru
      rw [ej]
      rfl
def rEqTK (K : PySem.W.Frag) (f : Bool → Bool) : R2 := fun x y H Q => ∃ a b o o' ka kb, x = V.ref a ∧ y = V.ref b ∧ H a = some (dtO a o ka) ∧ H b = some (dtO b o' kb) ∧ KeysN K H ka ∧ KeysN K H kb ∧ IntsT ka ∧ IntsT kb ∧ Q (.bl (f (ka.length == kb.length && teqV ka kb))) H
section
variable {X : Cx}
theorem op_eq_tk (hu : X.A.units + 1 < cLine) : OpR X (compareOp .Eq) (rEqTK X.K id) := by
  intro pins s σ H x y v u Q I rx ry h
  obtain ⟨a, b, o, o', ka, kb, rfl, rfl, ha, hb, na, nb, ia, ib, q⟩ := h
  cases rx
  cases ry
  obtain ⟨h1, _, xa, ra, da⟩ := dt_H I ha na
  obtain ⟨h2, _, xb, rb, db⟩ := dt_H I hb nb
  refine teq_eq hu h1 h2 da db (ints_vx ra ia) (ints_vx rb ib) ⟨_, H, I, ?_, q⟩
  rw [teq_v rb ib ra ia, ← ra.length, ← rb.length]
  rfl
theorem op_ne_tk (hu : X.A.units + 1 < cLine) : OpR X (compareOp .NotEq) (rEqTK X.K not) := by
  intro pins s σ H x y v u Q I rx ry h
  obtain ⟨a, b, o, o', ka, kb, rfl, rfl, ha, hb, na, nb, ia, ib, q⟩ := h
  cases rx
  cases ry
  obtain ⟨h1, _, xa, ra, da⟩ := dt_H I ha na
  obtain ⟨h2, _, xb, rb, db⟩ := dt_H I hb nb
  refine teq_ne hu h1 h2 da db (ints_vx ra ia) (ints_vx rb ib) ⟨_, H, I, ?_, q⟩
  rw [teq_v rb ib ra ia, ← ra.length, ← rb.length]
  rfl
end
end Mn
namespace Mn
open PySem PySem.Spec PyProof.Rows L2
def keyT (k : List Int) : PyData := .tuple (k.map PyData.int)
abbrev dkD (ks : List Int) (ds : List PyData) : List (PyData × PyData) := (.none, .bool false) :: (ks.map PyData.int).zip ds
abbrev dtD (ks : List (List Int)) (ds : List PyData) : List (PyData × PyData) := (.none, .bool true) :: (ks.map keyT).zip ds
def ExC (cls : Value) (d : Option Addr) (a : Addr) : HO := .ext fun h => ∃ (ox : Obj) (vs : Array Value), h.get? a = some ox ∧ Zc cls d ox ∧ ox.data = .fields vs
abbrev xd0 (nm : Str) : PyData := .dict [(.bool true, .str nm)]
abbrev xd1 (nm f : Str) (e : PyData) : PyData := .dict [(.bool true, .tuple [.str nm, .str f, e])]
def ClsAt (K : PySem.W.Frag) (nm : Str) (C : Addr) : Prop := PySem.W.nsIn K mainGlobals nm = some (some (.ref C))
def insD (nm : Str) (fs : List Str) (ds : List PyData) : PyData := .dict [(.bool true, .list [.str nm, .list (fs.map PyData.str), .list ds])]
mutual
inductive Rp (K : PySem.W.Frag) (F : Hp) : V → PyData → Prop
  | non : Rp K F .non .none
  | bl (b : Bool) : Rp K F (.bl b) (.bool b)
  | int (i : Int) : Rp K F (.int i) (.int i)
  | str (x : Str) : Rp K F (.str x) (.str x)
  | lst {a : Addr} {xs : List V} {ds : List PyData} : F a = some (.lst xs) → RpAll K F xs ds → Rp K F (.ref a) (.list ds)
  | scr {a : Addr} {ns : List Int} : SqL K F a (ns.map V.int) → Rp K F (.ref a) (.dict [(.none, .list (ns.map PyData.int))])
  | tup {a : Addr} {xs : List V} {ds : List PyData} : TupN K F a xs → RpAll K F xs ds → Rp K F (.ref a) (.tuple ds)
  | dK {a : Addr} {o : Obj} {kvs : List (Int × V)} {ds : List PyData} : F a = some (dkO a o kvs) → RpAll K F (kvs.map fun x => x.2) ds → Rp K F (.ref a) (.dict (dkD (kvs.map fun x => x.1) ds))
  | dT {a : Addr} {o : Obj} {kvs : TK} {ds : List PyData} : F a = some (dtO a o kvs) → KeysN K F kvs → RpAll K F (kvs.map fun x => x.2.2) ds → Rp K F (.ref a) (.dict (dtD (kvs.map fun x => x.1) ds))
  | xc0 {a C : Addr} {nm : Str} : F a = some (ExC (.ref C) none a) → ClsAt K nm C → Rp K F (.ref a) (.dict [(.bool true, .str nm)])
  | xc1 {a C dx : Addr} {nm f : Str} {v : V} {e : PyData} : F a = some (ExC (.ref C) (some dx) a) → ClsAt K nm C → F dx = some (.xd [(f, v)]) → Rp K F v e → Rp K F (.ref a) (.dict [(.bool true, .tuple [.str nm, .str f, e])])
  | ins {a C dx : Addr} {nm : Str} {fvs : List (Str × V)} {ds : List PyData} : F a = some (.ins C dx fvs) → F dx = some (.own a) → ClsAt K nm C → RpAll K F (fvs.map fun x => x.2) ds → Rp K F (.ref a) (.dict [(.bool true, .list [.str nm, .list ((fvs.map fun x => x.1).map PyData.str), .list ds])])
inductive RpAll (K : PySem.W.Frag) (F : Hp) : List V → List PyData → Prop
  | nil : RpAll K F [] []
  | cons {v : V} {vs : List V} {d : PyData} {ds : List PyData} : Rp K F v d → RpAll K F vs ds → RpAll K F (v :: vs) (d :: ds)
end
section
variable {K : PySem.W.Frag} {F F' H H' : Hp}
theorem Same.sqT (e : Same H H') {a : Addr} {xs : List V} (h : SqT K H a xs) : SqT K H' a xs := by
  rcases h with (h | ⟨o, h⟩) | h
  · exact .inl (.inl (e _ _ h))
  · exact .inl (.inr ⟨o, e _ _ h⟩)
  · exact .inr h
theorem KeysN.mono (e : Same F F') {kvs : TK} (h : KeysN K F kvs) : KeysN K F' kvs := fun x hx => Same.tupN e (h x hx)
mutual
theorem Rp.mono (e : Same F F') : ∀ {v : V} {d : PyData}, Rp K F v d → Rp K F' v d
  | _, _, .non => .non
  | _, _, .bl b => .bl b
  | _, _, .int i => .int i
  | _, _, .str x => .str x
  | _, _, .lst h r => .lst (e _ _ h) (RpAll.mono e r)
  | _, _, .scr h => .scr (e.seq h)
  | _, _, .tup h r => .tup (Same.tupN e h) (RpAll.mono e r)
  | _, _, .dK h r => .dK (e _ _ h) (RpAll.mono e r)
  | _, _, .dT h kn r => .dT (e _ _ h) (kn.mono e) (RpAll.mono e r)
  | _, _, .xc0 h q => .xc0 (e _ _ h) q
  | _, _, .xc1 h q g r => .xc1 (e _ _ h) q (e _ _ g) (Rp.mono e r)
  | _, _, .ins h g q r => .ins (e _ _ h) (e _ _ g) q (RpAll.mono e r)
theorem RpAll.mono (e : Same F F') : ∀ {vs : List V} {ds : List PyData}, RpAll K F vs ds → RpAll K F' vs ds
  | _, _, .nil => .nil
  | _, _, .cons r t => .cons (Rp.mono e r) (RpAll.mono e t)
end
theorem RpAll.length : ∀ {vs : List V} {ds : List PyData}, RpAll K F vs ds → vs.length = ds.length
  | _, _, .nil => rfl
  | _, _, .cons _ t => congrArg (· + 1) (RpAll.length t)
theorem RpAll.append : ∀ {vs ws : List V} {ds es : List PyData}, RpAll K F vs ds → RpAll K F ws es → RpAll K F (vs ++ ws) (ds ++ es)
  | _, _, _, _, .nil, h => h
  | _, _, _, _, .cons r t, h => .cons r (RpAll.append t h)
theorem RpAll.get : ∀ {vs : List V} {ds : List PyData} {i : Nat} {v : V}, RpAll K F vs ds → vs[i]? = some v → ∃ d, ds[i]? = some d ∧ Rp K F v d
  | _, _, i, v, .nil, h => by simp at h
  | _, _, 0, v, .cons r _, h => by simp at h; subst h; exact ⟨_, rfl, r⟩
  | _, _, i + 1, v, .cons _ t, h => by
    obtain ⟨d, h1, h2⟩ := RpAll.get (i := i) t (by simpa using h)
    exact ⟨d, by simpa using h1, h2⟩
theorem RpAll.getD : ∀ {vs : List V} {ds : List PyData} {i : Nat} {d : PyData}, RpAll K F vs ds → ds[i]? = some d → ∃ v, vs[i]? = some v ∧ Rp K F v d
  | _, _, i, v, .nil, h => by simp at h
  | _, _, 0, v, .cons r _, h => by simp at h; subst h; exact ⟨_, rfl, r⟩
  | _, _, i + 1, v, .cons _ t, h => by
    obtain ⟨d, h1, h2⟩ := RpAll.getD (i := i) t (by simpa using h)
    exact ⟨d, by simpa using h1, h2⟩
theorem RpAll.take : ∀ {vs : List V} {ds : List PyData} (n : Nat), RpAll K F vs ds → RpAll K F (vs.take n) (ds.take n)
  | _, _, 0, _ => by simpa using .nil
  | _, _, n + 1, .nil => by simpa using .nil
  | _, _, n + 1, .cons r t => by simpa using .cons r (RpAll.take n t)
theorem RpAll.drop : ∀ {vs : List V} {ds : List PyData} (n : Nat), RpAll K F vs ds → RpAll K F (vs.drop n) (ds.drop n)
  | _, _, 0, h => by simpa using h
  | _, _, n + 1, .nil => by simpa using .nil
  | _, _, n + 1, .cons r t => by simpa using RpAll.drop n t
theorem RpAll.set : ∀ {vs : List V} {ds : List PyData} {v : V} {d : PyData} (i : Nat), RpAll K F vs ds → Rp K F v d → RpAll K F (vs.set i v) (ds.set i d)
  | _, _, _, _, i, .nil, _ => by simpa using .nil
  | _, _, _, _, 0, .cons r t, h => .cons h t
  | _, _, _, _, i + 1, .cons r t, h => .cons r (RpAll.set i t h)
theorem RpAll.eraseIdx : ∀ {vs : List V} {ds : List PyData} (i : Nat), RpAll K F vs ds → RpAll K F (vs.eraseIdx i) (ds.eraseIdx i)
  | _, _, i, .nil => by simpa using .nil
  | _, _, 0, .cons r t => t
  | _, _, i + 1, .cons r t => .cons r (RpAll.eraseIdx i t)
theorem RpAll.reverse {vs : List V} {ds : List PyData} (h : RpAll K F vs ds) : RpAll K F vs.reverse ds.reverse := by
  match h with
  | .nil => exact .nil
  | .cons r t =>
    rw [List.reverse_cons, List.reverse_cons]
    exact (RpAll.reverse t).append (.cons r .nil)
termination_by vs.length
theorem RpAll.rep {vs : List V} {ds : List PyData} (h : RpAll K F vs ds) : ∀ k : Nat, RpAll K F (List.replicate k vs).flatten (List.replicate k ds).flatten
  | 0 => .nil
  | k + 1 => by
    rw [List.replicate_succ, List.replicate_succ, List.flatten_cons, List.flatten_cons]
    exact h.append (RpAll.rep h k)
theorem RpAll.ints : ∀ {vs : List V} {ns : List Int}, RpAll K F vs (ns.map PyData.int) → vs = ns.map V.int
  | _, [], .nil => rfl
  | _, _ :: _, .cons (.int _) t => congrArg _ (RpAll.ints t)
theorem RpAll.bools : ∀ {vs : List V} {ns : List Bool}, RpAll K F vs (ns.map PyData.bool) → vs = ns.map V.bl
  | _, [], .nil => rfl
  | _, _ :: _, .cons (.bl _) t => congrArg _ (RpAll.bools t)
theorem RpAll.ofInts : ∀ ns : List Int, RpAll K F (ns.map V.int) (ns.map PyData.int)
  | [] => .nil
  | n :: r => .cons (.int n) (RpAll.ofInts r)
mutual
theorem Rp.dp : ∀ {v : V} {d : PyData}, Rp K F v d → d.canLay0 = true → Dp K F v d
  | _, _, .non, _ => .non
  | _, _, .bl b, _ => .bl b
  | _, _, .int i, _ => .int i
  | _, _, .str x, _ => .str x
  | _, _, .lst h r, e => .lst (SqL.of h) (RpAll.dp r (by simpa [PyData.canLay0] using e))
  | _, _, .scr h, e => by simp [PyData.canLay0] at e
  | _, _, .tup h r, e => .tup h.sqT (RpAll.dp r (by simpa [PyData.canLay0] using e))
  | _, _, .dK h r, e => by simp [PyData.canLay0] at e
  | _, _, .dT h kn r, e => by simp [PyData.canLay0] at e
  | _, _, .xc0 h q, e => by simp [PyData.canLay0] at e
  | _, _, .xc1 h q g r, e => by simp [PyData.canLay0] at e
  | _, _, .ins h g q r, e => by simp [PyData.canLay0] at e
theorem RpAll.dp : ∀ {vs : List V} {ds : List PyData}, RpAll K F vs ds → PyData.canLayAll0 ds = true → DpAll K F vs ds
  | _, _, .nil, _ => .nil
  | _, _, .cons r t, e => by
    simp only [PyData.canLayAll0, Bool.and_eq_true] at e
    exact .cons (Rp.dp r e.1) (RpAll.dp t e.2)
end
end
structure Ext (F H F' H' : Hp) : Prop where
  fr : Same F F'
  sub : Same F' H'
  same : Same H H'
  new : ∀ b o, F' b = some o → F b = some o ∨ H b = none
section
variable {K : PySem.W.Frag} {F H F' H' F2 H2 : Hp}
theorem Ext.refl (h : Same F H) : Ext F H F H := ⟨Same.refl _, h, Same.refl _, fun _ _ e => .inl e⟩
theorem Ext.trans (a : Ext F H F' H') (b : Ext F' H' F2 H2) : Ext F H F2 H2 :=
  ⟨a.fr.trans b.fr, b.sub, a.same.trans b.same, fun c o e => by
    rcases b.new c o e with q | q
    · exact a.new c o q
    · exact .inr (a.same.free q)⟩
theorem Same.upd {H : Hp} {p : Addr} {o : HO} (h : H p = none) : Same H (L2.upd H p o) := fun b x e => by
  rw [upd_ne (ne_of_none e h)]
  exact e
theorem Ext.lay (h : Same F H) {p : Addr} {o : HO} (n : H p = none) : Ext F H (upd F p o) (upd H p o) :=
  ⟨Same.upd (h.free n), fun b x e => by
    by_cases q : b = p
    · subst q; rw [upd_same] at e ⊢; exact e
    · rw [upd_ne q] at e ⊢; exact h _ _ e, Same.upd n, fun b x e => by
    by_cases q : b = p
    · subst q; exact .inr n
    · rw [upd_ne q] at e; exact .inl e⟩
theorem Ext.lay0 (h : Same F H) {p : Addr} {o : HO} (n : H p = none) : Ext F H F (upd H p o) :=
  ⟨Same.refl _, h.trans (Same.upd n), Same.upd n, fun _ _ e => .inl e⟩
theorem Ext.freeze {p : Addr} {o : HO} (x : Ext F H F' H') (n : H p = none) (f : F' p = none) (e : H' p = some o) : Ext F H (upd F' p o) H' :=
  ⟨x.fr.trans (Same.upd f), fun b u q => by
    by_cases z : b = p
    · subst z; rw [upd_same] at q; rw [e]; exact q
    · rw [upd_ne z] at q; exact x.sub _ _ q, x.same, fun b u q => by
    by_cases z : b = p
    · subst z; exact .inr n
    · rw [upd_ne z] at q; exact x.new _ _ q⟩
end
inductive Kd where
  | ls
  | tp
  /-- an instance of the class of this name, its attributes -/
  | ob (nm : Str) (fs : List Str)
inductive OT where
  /-- data that nobody changes -/
  | lf (d : PyData)
  /-- a dict whose keys are ints, of such data -/
  | dk (ks : List Int) (ds : List PyData)
  | nd (k : Kd) (ts : List OT)
inductive Stp where
  | ix (k : Nat)
  | fl (f : Str)
deriving DecidableEq
def Kd.d : Kd → List PyData → PyData
  | .ls, ds => .list ds
  | .tp, ds => .tuple ds
  | .ob _ _, _ => .dict [(.none, .none)]
mutual
def OT.d : OT → PyData
  | .lf d => d
  | .dk ks ds => .dict (dkD ks ds)
  | .nd k ts => k.d (OT.ds ts)
def OT.ds : List OT → List PyData
  | [] => []
  | t :: r => OT.d t :: OT.ds r
end
def Kd.isOb : Kd → Bool
  | .ob _ _ => true
  | _ => false
mutual
def OT.noOb : OT → Bool
  | .lf _ => true
  | .dk _ _ => true
  | .nd k ts => !k.isOb && OT.noObs ts
def OT.noObs : List OT → Bool
  | [] => true
  | t :: r => OT.noOb t && OT.noObs r
end
mutual
def OT.noTp : OT → Bool
  | .lf _ => true
  | .dk _ _ => true
  | .nd k ts => (match k with | .tp => false | _ => true) && OT.noTps ts
def OT.noTps : List OT → Bool
  | [] => true
  | t :: r => OT.noTp t && OT.noTps r
end
mutual
inductive Tr (K : PySem.W.Frag) (F H : Hp) : V → OT → List Addr → Prop
  | lf {v : V} {d : PyData} : Rp K F v d → Tr K F H v (.lf d) []
  | dk {p : Addr} {o : Obj} {kvs : List (Int × V)} {ds : List PyData} : F p = none → H p = some (dkO p o kvs) → RpAll K F (kvs.map fun x => x.2) ds → Tr K F H (.ref p) (.dk (kvs.map fun x => x.1) ds) [p]
  | ls {p : Addr} {vs : List V} {ts : List OT} {ps : List Addr} : F p = none → H p = some (.lst vs) → TrAll K F H vs ts ps → Tr K F H (.ref p) (.nd .ls ts) (p :: ps)
  | tp {p : Addr} {o : Obj} {vs : List V} {ts : List OT} {ps : List Addr} : F p = none → H p = some (.frz o (.tup vs)) → TupO o → TrAll K F H vs ts ps → Tr K F H (.ref p) (.nd .tp ts) (p :: ps)
  | ob {p C dx : Addr} {nm : Str} {fvs : List (Str × V)} {ts : List OT} {ps : List Addr} : F p = none → F dx = none → H p = some (.ins C dx fvs) → H dx = some (.own p) → ClsAt K nm C → TrAll K F H (fvs.map fun x => x.2) ts ps → Tr K F H (.ref p) (.nd (.ob nm (fvs.map fun x => x.1)) ts) (p :: dx :: ps)
inductive TrAll (K : PySem.W.Frag) (F H : Hp) : List V → List OT → List Addr → Prop
  | nil : TrAll K F H [] [] []
  | cons {v : V} {vs : List V} {t : OT} {ts : List OT} {ps qs : List Addr} : Tr K F H v t ps → TrAll K F H vs ts qs → TrAll K F H (v :: vs) (t :: ts) (ps ++ qs)
end
section
variable {K K2 : PySem.W.Frag} {F H F' H' F2 : Hp}
theorem TrAll.length : ∀ {vs : List V} {ts : List OT} {ps : List Addr}, TrAll K F H vs ts ps → vs.length = ts.length
  | _, _, _, .nil => rfl
  | _, _, _, .cons _ t => congrArg (· + 1) (TrAll.length t)
mutual
theorem Tr.move {L : List Addr} (fr : Same F F') (aw : ∀ b, F b = none → (∃ o, H b = some o) → b ∈ L → F' b = none) (ke : ∀ b, b ∈ L → H' b = H b) : ∀ {v : V} {t : OT} {ps : List Addr}, Tr K F H v t ps → (∀ b ∈ ps, b ∈ L) → Tr K F' H' v t ps
  | _, _, _, .lf r, _ => .lf (r.mono fr)
  | _, _, _, .dk f h r, s => .dk (aw _ f ⟨_, h⟩ (s _ (by simp))) (by rw [ke _ (s _ (by simp))]; exact h) (r.mono fr)
  | _, _, _, .ls f h a, s => .ls (aw _ f ⟨_, h⟩ (s _ (by simp))) (by rw [ke _ (s _ (by simp))]; exact h) (TrAll.move fr aw ke a fun b hb => s b (by simp [hb]))
  | _, _, _, .tp f h g a, s => .tp (aw _ f ⟨_, h⟩ (s _ (by simp))) (by rw [ke _ (s _ (by simp))]; exact h) g (TrAll.move fr aw ke a fun b hb => s b (by simp [hb]))
  | _, _, _, .ob f f2 h h2 c a, s => .ob (aw _ f ⟨_, h⟩ (s _ (by simp))) (aw _ f2 ⟨_, h2⟩ (s _ (by simp))) (by rw [ke _ (s _ (by simp))]; exact h) (by rw [ke _ (s _ (by simp))]; exact h2) c (TrAll.move fr aw ke a fun b hb => s b (by simp [hb]))
theorem TrAll.move {L : List Addr} (fr : Same F F') (aw : ∀ b, F b = none → (∃ o, H b = some o) → b ∈ L → F' b = none) (ke : ∀ b, b ∈ L → H' b = H b) : ∀ {vs : List V} {ts : List OT} {ps : List Addr}, TrAll K F H vs ts ps → (∀ b ∈ ps, b ∈ L) → TrAll K F' H' vs ts ps
  | _, _, _, .nil, _ => .nil
  | _, _, _, .cons r s, q => .cons (Tr.move fr aw ke r fun b hb => q b (by simp [hb])) (TrAll.move fr aw ke s fun b hb => q b (by simp [hb]))
end
mutual
theorem Tr.there : ∀ {v : V} {t : OT} {ps : List Addr}, Tr K F H v t ps → ∀ b ∈ ps, F b = none ∧ ∃ o, H b = some o
  | _, _, _, .lf _, b, hb => absurd hb (by simp)
  | _, _, _, .dk f h _, b, hb => by
    rw [List.mem_singleton] at hb
    subst hb
    exact ⟨f, _, h⟩
  | _, _, _, .ls f h a, b, hb => by
    rcases List.mem_cons.mp hb with rfl | hb
    · exact ⟨f, _, h⟩
    · exact TrAll.there a b hb
  | _, _, _, .tp f h _ a, b, hb => by
    rcases List.mem_cons.mp hb with rfl | hb
    · exact ⟨f, _, h⟩
    · exact TrAll.there a b hb
  | _, _, _, .ob f f2 h h2 _ a, b, hb => by
    rcases List.mem_cons.mp hb with rfl | hb
    · exact ⟨f, _, h⟩
    · rcases List.mem_cons.mp hb with rfl | hb
      · exact ⟨f2, _, h2⟩
      · exact TrAll.there a b hb
theorem TrAll.there : ∀ {vs : List V} {ts : List OT} {ps : List Addr}, TrAll K F H vs ts ps → ∀ b ∈ ps, F b = none ∧ ∃ o, H b = some o
  | _, _, _, .nil, b, hb => absurd hb (by simp)
  | _, _, _, .cons r s, b, hb => by
    rcases List.mem_append.mp hb with hb | hb
    · exact Tr.there r b hb
    · exact TrAll.there s b hb
end
mutual
theorem Tr.lend (fr : Same F F') : ∀ {v : V} {t : OT} {ps : List Addr}, Tr K F H v t ps → t.noOb = true → (∀ b ∈ ps, F' b = H b) → Rp K F' v t.d
  | _, _, _, .lf r, _, _ => r.mono fr
  | _, _, _, .dk f h r, _, s => .dK (by rw [s _ (by simp)]; exact h) (r.mono fr)
  | _, _, _, .ls f h a, n, s => by
    rw [OT.d]
    simp only [OT.noOb, Bool.and_eq_true] at n
    exact .lst (by rw [s _ (by simp)]; exact h) (TrAll.lend fr a n.2 fun b hb => s b (by simp [hb]))
  | _, _, _, .tp f h g a, n, s => by
    rw [OT.d]
    simp only [OT.noOb, Bool.and_eq_true] at n
    exact .tup (.of g (by rw [s _ (by simp)]; exact h)) (TrAll.lend fr a n.2 fun b hb => s b (by simp [hb]))
  | _, _, _, .ob _ _ _ _ _ _, n, _ => by simp [OT.noOb, Kd.isOb] at n
theorem TrAll.lend (fr : Same F F') : ∀ {vs : List V} {ts : List OT} {ps : List Addr}, TrAll K F H vs ts ps → OT.noObs ts = true → (∀ b ∈ ps, F' b = H b) → RpAll K F' vs (OT.ds ts)
  | _, _, _, .nil, _, _ => .nil
  | _, _, _, .cons r s, n, q => by
    simp only [OT.noObs, Bool.and_eq_true] at n
    exact .cons (Tr.lend fr r n.1 fun b hb => q b (by simp [hb])) (TrAll.lend fr s n.2 fun b hb => q b (by simp [hb]))
end
mutual
theorem Tr.det : ∀ {v : V} {t : OT} {ps qs : List Addr}, Tr K F H v t ps → Tr K2 F2 H v t qs → ps = qs
  | _, _, _, _, .lf _, .lf _ => rfl
  | _, _, _, _, .dk _ _ _, b => by
    generalize e : OT.dk _ _ = t at b
    cases b with
    | dk _ _ _ => rfl
    | _ => cases e
  | _, _, _, _, .ls _ h a, .ls _ h' a' => by
    rw [h] at h'
    cases h'
    rw [TrAll.det a a']
  | _, _, _, _, .tp _ h _ a, .tp _ h' _ a' => by
    rw [h] at h'
    cases h'
    rw [TrAll.det a a']
  | _, _, _, _, .ob _ _ h _ _ a, b => by
    generalize e : OT.nd _ _ = t at b
    cases b with
    | ob _ _ h' _ _ a' =>
      rw [h] at h'
      cases h'
      cases e
      rw [TrAll.det a a']
    | _ => cases e
theorem TrAll.det : ∀ {vs : List V} {ts : List OT} {ps qs : List Addr}, TrAll K F H vs ts ps → TrAll K2 F2 H vs ts qs → ps = qs
  | _, _, _, _, .nil, .nil => rfl
  | _, _, _, _, .cons r s, .cons r' s' => by rw [Tr.det r r', TrAll.det s s']
end
theorem Tr.ext (x : Ext F H F' H') {v : V} {t : OT} {ps : List Addr} (a : Tr K F H v t ps) : Tr K F' H' v t ps :=
  a.move (L := ps) x.fr (fun b f ⟨o, h⟩ _ => by
    cases e : F' b with
    | none => rfl
    | some u =>
      rcases x.new _ _ e with z | z
      · rw [f] at z; cases z
      · rw [h] at z; cases z) (fun b hb => by
    obtain ⟨_, o, h⟩ := a.there b hb
    rw [h]; exact x.same _ _ h) fun b hb => hb
theorem Tr.other {ps : List Addr} (ke : ∀ b ∈ ps, H' b = H b) {v : V} {t : OT} {ps' : List Addr} (a : Tr K F H v t ps') (s : ∀ b ∈ ps', b ∈ ps) : Tr K F H' v t ps' := a.move (L := ps) (Same.refl _) (fun b f _ _ => f) (fun b hb => ke b hb) s
theorem Tr.cold (fr : Same F F') {v : V} {t : OT} {ps : List Addr} (a : Tr K F H v t ps) (aw : ∀ b ∈ ps, F' b = none) : Tr K F' H v t ps := a.move (L := ps) fr (fun b _ _ hb => aw b hb) (fun b _ => rfl) fun b hb => hb
end
inductive RV where
  /-- data that nobody changes -/
  | fz (d : PyData)
  /-- a list, a dict, that this def may still change -/
  | ol (ds : List PyData)
  | od (kvs : List (PyData × PyData))
  /-- a list of lists, all of which this def may still change -/
  | on (dss : List (List PyData))
  /-- what a def ends with that raises -/
  | xr (d : PyData)
  /-- a tree, all of it owned; pw: ways to places that are to stay as they are -/
  | tr (pw : List (List Stp)) (t : OT)
  /-- the place on the way p in the tree of slot i -/
  | al (i : Nat) (p : List Stp)
abbrev Ev := List (Option RV)
def RV.d : RV → PyData
  | .fz d => d
  | .ol ds => .list ds
  | .od kvs => .dict kvs
  | .on dss => .list (dss.map PyData.list)
  | .xr _ => .dict [(.none, .none)]
  | .tr _ _ => .dict [(.none, .none)]
  | .al _ _ => .dict [(.none, .none)]
def RV.fzD : RV → PyData
  | .tr _ t => t.d
  | r => r.d
def RV.pl : RV → Bool
  | .tr _ _ => false
  | .al _ _ => false
  | _ => true
def RV.frzOk : RV → Bool
  | .tr _ t => t.noOb
  | .al _ _ => false
  | _ => true
def RV.isX : RV → Bool
  | .xr _ => true
  | _ => false
inductive InAll (K : PySem.W.Frag) (F H : Hp) : List Addr → List (List PyData) → Prop
  | nil : InAll K F H [] []
  | cons {q : Addr} {qs : List Addr} {vs : List V} {ds : List PyData} {dss : List (List PyData)} : F q = none → H q = some (.lst vs) → RpAll K F vs ds → InAll K F H qs dss → InAll K F H (q :: qs) (ds :: dss)
inductive Own (K : PySem.W.Frag) (F H : Hp) (p : Addr) : HO → RV → Prop
  | lst {vs : List V} {ds : List PyData} : RpAll K F vs ds → Own K F H p (.lst vs) (.ol ds)
  | dK {o : Obj} {kvs : List (Int × V)} {ds : List PyData} : RpAll K F (kvs.map fun x => x.2) ds → Own K F H p (dkO p o kvs) (.od (dkD (kvs.map fun x => x.1) ds))
  | dT {o : Obj} {kvs : TK} {ds : List PyData} : KeysN K F kvs → RpAll K F (kvs.map fun x => x.2.2) ds → Own K F H p (dtO p o kvs) (.od (dtD (kvs.map fun x => x.1) ds))
  | on {qs : List Addr} {dss : List (List PyData)} : InAll K F H qs dss → qs.Nodup → (∀ q ∈ qs, q ≠ p) → Own K F H p (.lst (qs.map V.ref)) (.on dss)
inductive View (K : PySem.W.Frag) (F H : Hp) : V → RV → Prop
  | fz {v : V} {d : PyData} : Rp K F v d → View K F H v (.fz d)
  | own {p : Addr} {o : HO} {r : RV} : F p = none → H p = some o → Own K F H p o r → View K F H (.ref p) r
def Foot (H : Hp) (r : RV) (v : V) (p : Addr) : Prop := match r with
  | .fz _ => False
  | .on _ => v = .ref p ∨ ∃ q vs, v = .ref q ∧ H q = some (.lst vs) ∧ V.ref p ∈ vs
  | .tr _ t => ∃ (K : PySem.W.Frag) (F : Hp) (ps : List Addr), Tr K F H v t ps ∧ p ∈ ps
  | .al _ _ => False
  | _ => v = .ref p
theorem foot_tr {K : PySem.W.Frag} {F H : Hp} {v : V} {n : List (List Stp)} {t : OT} {ps : List Addr} (a : Tr K F H v t ps) {b : Addr} : Foot H (.tr n t) v b ↔ b ∈ ps :=
  ⟨fun ⟨_, _, _, a', hb⟩ => by rw [a.det a']; exact hb, fun hb => ⟨_, _, _, a, hb⟩⟩
def New (r : RV) (v : V) (H H' : Hp) : Prop := ∀ p, Foot H' r v p → H p = none
open Classical in
noncomputable def coldF (F H : Hp) (P : Addr → Prop) : Hp := fun b => if P b then H b else F b
def RV.isOwn : RV → Bool
  | .fz _ => false
  | _ => true
theorem View.pl {K : PySem.W.Frag} {F H : Hp} {v : V} {r : RV} (a : View K F H v r) : r.pl = true := by
  cases a with
  | fz _ => rfl
  | own _ _ q => cases q <;> rfl
section
variable {K : PySem.W.Frag} {F H F' H' F2 H2 : Hp} {v : V} {r : RV} {o : HO}
theorem Ext.away (x : Ext F H F' H') {p : Addr} {o : HO} (f : F p = none) (h : H p = some o) : F' p = none := by
  cases e : F' p with
  | none => rfl
  | some u =>
    rcases x.new _ _ e with z | z
    · rw [f] at z; cases z
    · rw [h] at z; cases z
theorem InAll.ext (x : Ext F H F' H') : ∀ {qs : List Addr} {dss : List (List PyData)}, InAll K F H qs dss → InAll K F' H' qs dss
  | _, _, .nil => .nil
  | _, _, .cons f h ra t => .cons (x.away f h) (x.same _ _ h) (ra.mono x.fr) (InAll.ext x t)
theorem InAll.rp (s : Same F H) : ∀ {qs : List Addr} {dss : List (List PyData)}, InAll K F H qs dss → RpAll K H (qs.map V.ref) (dss.map PyData.list)
  | _, _, .nil => .nil
  | _, _, .cons f h ra t => .cons (.lst h (ra.mono s)) (InAll.rp s t)
theorem InAll.mem : ∀ {qs : List Addr} {dss : List (List PyData)}, InAll K F H qs dss → ∀ q ∈ qs, F q = none ∧ ∃ vs, H q = some (.lst vs)
  | _, _, .nil, q, hq => absurd hq (by simp)
  | _, _, .cons f h ra t, q, hq => by
    rcases List.mem_cons.mp hq with rfl | hq
    · exact ⟨f, _, h⟩
    · exact InAll.mem t q hq
theorem InAll.other {p : Addr} {o : HO} : ∀ {qs : List Addr} {dss : List (List PyData)}, InAll K F H qs dss → (∀ q ∈ qs, q ≠ p) → InAll K F (L2.upd H p o) qs dss
  | _, _, .nil, _ => .nil
  | _, _, .cons f h ra t, n => .cons f (by rw [upd_ne (n _ (by simp))]; exact h) ra (InAll.other t fun q hq => n q (by simp [hq]))
theorem Own.ext {p : Addr} (x : Ext F H F' H') (q : Own K F H p o r) : Own K F' H' p o r := by
  cases q with
  | lst a => exact .lst (a.mono x.fr)
  | dK a => exact .dK (a.mono x.fr)
  | dT kn a => exact .dT (kn.mono x.fr) (a.mono x.fr)
  | on a nd np => exact .on (a.ext x) nd np
theorem Own.isOwn {p : Addr} (x : Own K F H p o r) : r.isOwn = true := by cases x <;> rfl
def RV.flat : RV → Bool
  | .on _ => false
  | .tr _ _ => false
  | .al _ _ => false
  | _ => true
theorem Own.rp {p : Addr} (x : Own K F H p o r) (hf : r.flat = true) (e : Same F F') (h : F' p = some o) : Rp K F' (.ref p) r.d := by
  cases x with
  | lst a => exact .lst h (a.mono e)
  | dK a => exact .dK h (a.mono e)
  | dT kn a => exact .dT h (kn.mono e) (a.mono e)
  | on _ _ _ => cases hf
theorem Own.rpH {p : Addr} (x : Own K F H p o r) (s : Same F H) (h : H p = some o) : Rp K H (.ref p) r.d := by
  cases x with
  | lst a => exact .lst h (a.mono s)
  | dK a => exact .dK h (a.mono s)
  | dT kn a => exact .dT h (kn.mono s) (a.mono s)
  | on a nd _ => exact .lst h (a.rp s)
theorem View.ext (x : Ext F H F' H') (a : View K F H v r) : View K F' H' v r := by
  cases a with
  | fz q => exact .fz (q.mono x.fr)
  | own f h q => exact .own (x.away f h) (x.same _ _ h) (q.ext x)
theorem View.rp (s : Same F H) (a : View K F H v r) : Rp K H v r.d := by
  cases a with
  | fz q => exact q.mono s
  | own f h q => exact q.rpH s h
def NoTu (F F1 : Hp) : Prop := ∀ b o, F1 b = some o → F b = some o ∨ ∀ ob xs, o ≠ .frz ob (.tup xs)
theorem NoTu.refl (F : Hp) : NoTu F F := fun _ _ e => .inl e
theorem View.lendZ {Z : Prop} {F1 : Hp} (s1 : Same F F1) (s2 : Same F1 H) (n : Z → NoTu F F1) (a : View K F H v r) : ∃ F2, (Same F1 F2 ∧ ∀ b o, F2 b = some o → F1 b = some o ∨ Foot H r v b) ∧ Same F2 H ∧ (Z → NoTu F F2) ∧ Rp K F2 v r.d := by
  classical
  let P : Addr → Prop := Foot H r v
  have at_ : ∀ b, P b → coldF F1 H P b = H b := fun b hb => if_pos hb
  have fr : Same F1 (coldF F1 H P) := fun b o e => by
    unfold coldF
    split
    · exact s2 _ _ e
    · exact e
  have sub : Same (coldF F1 H P) H := fun b o e => by
    unfold coldF at e
    split at e
    · exact e
    · exact s2 _ _ e
  have fr0 := s1.trans fr
  have nt : (∀ b o, P b → H b = some o → ∀ ob xs, o ≠ .frz ob (.tup xs)) → Z → NoTu F (coldF F1 H P) := fun q hz b o e => by
    unfold coldF at e
    split at e
    · rename_i hb
      exact .inr (q b o hb e)
    · exact n hz b o e
  refine ⟨coldF F1 H P, ⟨fr, fun b o e => by
    unfold coldF at e
    split at e
    · exact .inr ‹_›
    · exact .inl e⟩, sub, ?_, ?_⟩
  · cases a with
    | fz q => exact nt fun b o hb => hb.elim
    | own f e q =>
      rename_i p o
      cases q with
      | lst a => exact nt fun b o hb h => by cases (show V.ref p = V.ref b from hb); rw [e] at h; cases h; intro _ _ z; cases z
      | dK a => exact nt fun b o hb h => by cases (show V.ref p = V.ref b from hb); rw [e] at h; cases h; intro _ _ z; cases z
      | dT _ a => exact nt fun b o hb h => by cases (show V.ref p = V.ref b from hb); rw [e] at h; cases h; intro _ _ z; cases z
      | on a nd np =>
        exact nt fun b o hb h => by
          rcases (show V.ref p = V.ref b ∨ _ from hb) with hb | ⟨q, vs, hq, h1, h2⟩
          · cases hb; rw [e] at h; cases h; intro _ _ z; cases z
          · cases hq
            rw [e] at h1
            cases h1
            obtain ⟨q2, hq2, y4⟩ := List.mem_map.mp h2
            cases y4
            obtain ⟨_, ws, h3⟩ := a.mem _ hq2
            rw [h3] at h
            cases h
            intro _ _ z
            cases z
  · cases a with
    | fz q => exact q.mono fr0
    | own f e q =>
      rename_i p o
      cases q with
      | lst a => exact .lst (by rw [at_ p rfl]; exact e) (a.mono fr0)
      | dK a => exact .dK (by rw [at_ p rfl]; exact e) (a.mono fr0)
      | dT kn a => exact .dT (by rw [at_ p rfl]; exact e) (kn.mono fr0) (a.mono fr0)
      | on a nd np =>
        have : ∀ {qs : List Addr} {dss : List (List PyData)}, InAll K F H qs dss → (∀ q ∈ qs, P q) → RpAll K (coldF F1 H P) (qs.map V.ref) (dss.map PyData.list) := fun {qs} => by
          induction qs with
          | nil => intro dss z _; cases z; exact .nil
          | cons q qs ih =>
            intro dss z n
            cases z with
            | cons f2 h2 ra t2 => exact .cons (.lst (by rw [at_ q (n q (by simp))]; exact h2) (ra.mono fr0)) (ih t2 fun q' h' => n q' (by simp [h']))
        exact .lst (by rw [at_ p (.inl rfl)]; exact e) (this a fun q hq => .inr ⟨p, _, rfl, e, List.mem_map.mpr ⟨q, hq, rfl⟩⟩)
theorem View.lendX {F1 : Hp} (s1 : Same F F1) (s2 : Same F1 H) (n : NoTu F F1) (a : View K F H v r) : ∃ F2, (Same F1 F2 ∧ ∀ b o, F2 b = some o → F1 b = some o ∨ Foot H r v b) ∧ Same F2 H ∧ NoTu F F2 ∧ Rp K F2 v r.d := by
  obtain ⟨F2, h1, h2, h3, h4⟩ := a.lendZ (Z := True) s1 s2 fun _ => n
  exact ⟨F2, h1, h2, h3 trivial, h4⟩
theorem View.lend {F1 : Hp} (s1 : Same F F1) (s2 : Same F1 H) (n : NoTu F F1) (a : View K F H v r) : ∃ F2, Same F1 F2 ∧ Same F2 H ∧ NoTu F F2 ∧ Rp K F2 v r.d := by
  obtain ⟨F2, ⟨h1, _⟩, h2, h3, h4⟩ := a.lendX s1 s2 n
  exact ⟨F2, h1, h2, h3, h4⟩
mutual
def flatD : PyData → Bool
  | .tuple ds => flatAll ds
  | .list _ => false
  | .dict _ => false
  | _ => true
def flatAll : List PyData → Bool
  | [] => true
  | d :: ds => flatD d && flatAll ds
end
mutual
theorem Rp.flat (t : ∀ a xs, TupN K F a xs → TupN K F' a xs) : ∀ {v : V} {d : PyData}, Rp K F v d → flatD d = true → Rp K F' v d
  | _, _, .non, _ => .non
  | _, _, .bl b, _ => .bl b
  | _, _, .int i, _ => .int i
  | _, _, .str x, _ => .str x
  | _, _, .lst h r, e => by simp [flatD] at e
  | _, _, .scr h, e => by simp [flatD] at e
  | _, _, .tup h r, e => .tup (t _ _ h) (RpAll.flat t r (by simpa [flatD] using e))
  | _, _, .dK h r, e => by simp [flatD] at e
  | _, _, .dT h kn r, e => by simp [flatD] at e
  | _, _, .xc0 h q, e => by simp [flatD] at e
  | _, _, .xc1 h q g r, e => by simp [flatD] at e
  | _, _, .ins h g q r, e => by simp [flatD] at e
theorem RpAll.flat (t : ∀ a xs, TupN K F a xs → TupN K F' a xs) : ∀ {vs : List V} {ds : List PyData}, RpAll K F vs ds → flatAll ds = true → RpAll K F' vs ds
  | _, _, .nil, _ => .nil
  | _, _, .cons r s, e => by
    simp only [flatAll, Bool.and_eq_true] at e
    exact .cons (Rp.flat t r e.1) (RpAll.flat t s e.2)
end
theorem flat_back {F1 : Hp} {d : PyData} (x : Ext F H F' H') (s1 : Same F' F1) (n : NoTu F' F1) (y : Ext F1 H' F2 H2) (r : Rp K F2 v d) (e : flatD d = true) : ∃ F3, Ext F H F3 H2 ∧ Rp K F3 v d := by
  classical
  let F3 : Hp := fun b => if F' b ≠ none ∨ H' b = none then F2 b else none
  have g : ∀ b, (F' b ≠ none ∨ H' b = none) → F3 b = F2 b := fun b h => if_pos h
  have k : ∀ b o, F3 b = some o → (F' b ≠ none ∨ H' b = none) ∧ F2 b = some o := fun b o h => by
    by_cases q : F' b ≠ none ∨ H' b = none
    · exact ⟨q, by rw [← g b q]; exact h⟩
    · have : F3 b = none := if_neg q
      rw [this] at h; cases h
  refine ⟨F3, ⟨fun b o h => ?_, fun b o h => y.sub _ _ (k b o h).2, x.same.trans y.same, fun b o h => ?_⟩, Rp.flat (fun a xs t => ?_) r e⟩
  · have h1 := x.fr _ _ h
    rw [g b (.inl (by rw [h1]; exact fun z => nomatch z))]
    exact y.fr _ _ (s1 _ _ h1)
  · obtain ⟨q, h2⟩ := k b o h
    rcases q with q | q
    · cases e1 : F' b with
      | none => exact absurd e1 q
      | some u =>
        have := y.fr _ _ (s1 _ _ e1)
        rw [h2] at this
        cases this
        exact x.new _ _ e1
    · exact .inr (x.same.free q)
  · rcases t with ⟨o, h, q⟩ | t
    · refine .inl ⟨o, ?_, q⟩
      rw [g a ?_]
      · exact h
      · rcases y.new _ _ h with z | z
        · rcases n _ _ z with z | z
          · exact .inl (by rw [z]; exact fun z => nomatch z)
          · exact absurd rfl (z o xs)
        · exact .inr z
    · exact .inr t
theorem View.freeze (x : Ext F H F' H') (a : View K F' H' v r) (n : New r v H H') : ∃ F2, Ext F H F2 H' ∧ Rp K F2 v r.d := by
  classical
  let P : Addr → Prop := Foot H' r v
  have at_ : ∀ b, P b → coldF F' H' P b = H' b := fun b hb => if_pos hb
  have fr : Same F' (coldF F' H' P) := fun b o e => by
    unfold coldF
    split
    · exact x.sub _ _ e
    · exact e
  refine ⟨coldF F' H' P, ⟨x.fr.trans fr, fun b o e => ?_, x.same, fun b o e => ?_⟩, ?_⟩
  · unfold coldF at e
    split at e
    · exact e
    · exact x.sub _ _ e
  · unfold coldF at e
    split at e
    · rename_i hb
      exact .inr (n b hb)
    · exact x.new b o e
  · cases a with
    | fz q => exact q.mono fr
    | own f e q =>
      rename_i p o
      cases q with
      | lst a => exact .lst (by rw [at_ p rfl]; exact e) (a.mono fr)
      | dK a => exact .dK (by rw [at_ p rfl]; exact e) (a.mono fr)
      | dT kn a => exact .dT (by rw [at_ p rfl]; exact e) (kn.mono fr) (a.mono fr)
      | on a nd np =>
        have : ∀ {qs : List Addr} {dss : List (List PyData)}, InAll K F' H' qs dss → (∀ q ∈ qs, P q) → RpAll K (coldF F' H' P) (qs.map V.ref) (dss.map PyData.list) := fun {qs} => by
          induction qs with
          | nil => intro dss z _; cases z; exact .nil
          | cons q qs ih =>
            intro dss z n
            cases z with
            | cons f2 h2 ra t2 => exact .cons (.lst (by rw [at_ q (n q (by simp))]; exact h2) (ra.mono fr)) (ih t2 fun q' h' => n q' (by simp [h']))
        exact .lst (by rw [at_ p (.inl rfl)]; exact e) (this a fun q hq => .inr ⟨p, _, rfl, e, List.mem_map.mpr ⟨q, hq, rfl⟩⟩)
end
end Mn
namespace Mn
open PySem PySem.Spec PyProof.Rows L2
def pickX {α : Type} (xs : List α) (lo st : Int) : List α := (sliceRange (sliceBounds (some lo) none (some st) xs.length).1 (sliceBounds (some lo) none (some st) xs.length).2.1 (sliceBounds (some lo) none (some st) xs.length).2.2).filterMap (fun k => xs[k]?)
end Mn
namespace Mn
open PySem PySem.Spec PyProof.Rows L2
def stepK : Kd → Stp → Option Nat
  | .ls, .ix k => some k
  | .tp, .ix k => some k
  | .ob _ fs, .fl f => fs.findIdx? fun g => g == f
  | _, _ => none
def OT.sub (t : OT) : List Stp → Option OT
  | [] => some t
  | s :: r => match t with
    | .nd k ts => (stepK k s).bind fun j => (ts[j]?).bind fun u => u.sub r
    | _ => none
def OT.put (t : OT) : List Stp → OT → OT
  | [], u => u
  | s :: r, u => match t with
    | .nd k ts => match stepK k s with
      | some j => match ts[j]? with
        | some x => .nd k (ts.set j (x.put r u))
        | none => t
      | none => t
    | _ => t
def OT.isNd : OT → Bool
  | .lf _ => false
  | _ => true
def stepH (H : Hp) : V → Stp → Option V
  | .ref p, .ix k => match H p with
    | some (.lst vs) => vs[k]?
    | some (.frz _ (.tup vs)) => vs[k]?
    | _ => none
  | .ref p, .fl f => match H p with
    | some (.ins _ _ fs) => fs.lookup f
    | _ => none
  | _, _ => none
def walkH (H : Hp) (v : V) : List Stp → Option V
  | [] => some v
  | s :: r => (stepH H v s).bind fun u => walkH H u r
theorem walkH_append {H : Hp} : ∀ {p q : List Stp} {v : V}, walkH H v (p ++ q) = (walkH H v p).bind fun u => walkH H u q
  | [], q, v => rfl
  | s :: r, q, v => by
    show (stepH H v s).bind _ = ((stepH H v s).bind _).bind _
    rw [Option.bind_assoc]
    congr 1
    funext u
    exact walkH_append
theorem OT.sub_append : ∀ {p q : List Stp} {t : OT}, t.sub (p ++ q) = (t.sub p).bind fun u => u.sub q
  | [], q, t => rfl
  | s :: r, q, t => by
    cases t with
    | nd k ts =>
      show (stepK k s).bind (fun j => (ts[j]?).bind fun u => u.sub (r ++ q)) = ((stepK k s).bind fun j => (ts[j]?).bind fun u => u.sub r).bind fun u => u.sub q
      rw [Option.bind_assoc]
      congr 1
      funext j
      rw [Option.bind_assoc]
      congr 1
      funext u
      exact OT.sub_append
    | _ => rfl
theorem lookup_at {f : Str} : ∀ {fvs : List (Str × V)} {j : Nat}, (fvs.map fun x => x.1).findIdx? (fun g => g == f) = some j → ∃ v, fvs.lookup f = some v ∧ (fvs.map fun x => x.2)[j]? = some v
  | [], j, h => by simp at h
  | (g, v) :: r, j, h => by
    rw [List.map_cons, List.findIdx?_cons] at h
    by_cases e : (g == f) = true
    · have e2 : (f == g) = true := by rw [eq_of_beq e]; exact beq_self_eq_true _
      rw [if_pos e] at h
      cases h
      exact ⟨v, by rw [List.lookup_cons, e2], rfl⟩
    · have e2 : (f == g) = false := by
        cases q : f == g with
        | false => rfl
        | true => exact absurd (by rw [eq_of_beq q]; exact beq_self_eq_true _) e
      rw [if_neg e] at h
      obtain ⟨j', h1, rfl⟩ := Option.map_eq_some_iff.mp h
      obtain ⟨w, h2, h3⟩ := lookup_at h1
      exact ⟨w, by rw [List.lookup_cons, e2]; exact h2, by rw [List.map_cons, List.getElem?_cons_succ]; exact h3⟩
section
variable {K : PySem.W.Frag} {F H H' : Hp}
theorem TrAll.nth : ∀ {vs : List V} {ts : List OT} {ps : List Addr} {j : Nat} {t : OT}, TrAll K F H vs ts ps → ts[j]? = some t → ∃ v ps1 ps' ps2, vs[j]? = some v ∧ Tr K F H v t ps' ∧ ps = ps1 ++ ps' ++ ps2 ∧
    (∀ (H' : Hp) (u : OT) (qs : List Addr), (∀ b, b ∈ ps1 ++ ps2 → H' b = H b) → Tr K F H' v u qs → TrAll K F H' vs (ts.set j u) (ps1 ++ qs ++ ps2)) ∧
    (∀ (H' : Hp) (w : V) (u : OT) (qs : List Addr), (∀ b, b ∈ ps1 ++ ps2 → H' b = H b) → Tr K F H' w u qs → TrAll K F H' (vs.set j w) (ts.set j u) (ps1 ++ qs ++ ps2))
  | _, _, _, j, t, .nil, h => by simp at h
  | _, _, _, 0, t, .cons (v := v) (vs := vs) (ts := ts) (ps := ps) (qs := qs) r s, h => by
    simp at h
    subst h
    refine ⟨v, [], ps, qs, rfl, r, by simp, fun H' u qs' ke a => ?_, fun H' w u qs' ke a => ?_⟩
    · exact .cons a (s.move (L := qs) (Same.refl _) (fun b f _ _ => f) (fun b hb => ke b (by simpa using hb)) fun b hb => hb)
    · exact .cons a (s.move (L := qs) (Same.refl _) (fun b f _ _ => f) (fun b hb => ke b (by simpa using hb)) fun b hb => hb)
  | _, _, _, j + 1, t, .cons (v := v) (vs := vs) (ts := ts) (ps := ps) (qs := qs) r s, h => by
    obtain ⟨w, ps1, ps', ps2, h1, h2, h3, h4, h5⟩ := TrAll.nth (j := j) s (by simpa using h)
    refine ⟨w, ps ++ ps1, ps', ps2, by simpa using h1, h2, by rw [h3]; simp, fun H' u qs' ke a => ?_, fun H' x u qs' ke a => ?_⟩
    · rw [List.set_cons_succ]
      have := h4 H' u qs' (fun b hb => ke b (by simp at hb ⊢; rcases hb with z | z <;> simp [z])) a
      rw [show ps ++ ps1 ++ qs' ++ ps2 = ps ++ (ps1 ++ qs' ++ ps2) by simp]
      exact .cons (r.move (L := ps) (Same.refl _) (fun b f _ _ => f) (fun b hb => ke b (by simp [hb])) fun b hb => hb) this
    · rw [List.set_cons_succ, List.set_cons_succ]
      have := h5 H' x u qs' (fun b hb => ke b (by simp at hb ⊢; rcases hb with z | z <;> simp [z])) a
      rw [show ps ++ ps1 ++ qs' ++ ps2 = ps ++ (ps1 ++ qs' ++ ps2) by simp]
      exact .cons (r.move (L := ps) (Same.refl _) (fun b f _ _ => f) (fun b hb => ke b (by simp [hb])) fun b hb => hb) this
theorem Tr.step {v : V} {k : Kd} {ts : List OT} {ps : List Addr} {s : Stp} {j : Nat} {t : OT} (a : Tr K F H v (.nd k ts) ps) (hs : stepK k s = some j) (ht : ts[j]? = some t) :
    ∃ w ps1 ps' ps2, stepH H v s = some w ∧ Tr K F H w t ps' ∧ ps = ps1 ++ ps' ++ ps2 ∧ (∀ p, v = .ref p → p ∈ ps1) ∧
      (∀ (H' : Hp) (u : OT) (qs : List Addr), (∀ b, b ∈ ps1 ++ ps2 → H' b = H b) → Tr K F H' w u qs → Tr K F H' v (.nd k (ts.set j u)) (ps1 ++ qs ++ ps2) ∧ stepH H' v s = some w) := by
  generalize e : OT.nd k ts = t0 at a
  cases a with
  | lf _ => cases e
  | dk _ _ _ => cases e
  | @ls p vs ts' ps f h a =>
    cases e
    cases s with
    | fl f => cases hs
    | ix i =>
      cases hs
      obtain ⟨w, ps1, ps', ps2, h1, h2, h3, h4, _⟩ := a.nth ht
      refine ⟨w, p :: ps1, ps', ps2, ?_, h2, by rw [h3]; simp, fun p' e => by cases e; simp, fun H' u qs ke b => ?_⟩
      · show (match H p with | some (.lst vs) => vs[j]? | some (.frz _ (.tup vs)) => vs[j]? | _ => none) = _
        rw [h]; exact h1
      · have e1 : H' p = some (.lst vs) := by rw [ke p (by simp)]; exact h
        refine ⟨.ls f e1 (h4 H' u qs (fun b hb => ke b (by simp at hb ⊢; exact .inr hb)) b), ?_⟩
        show (match H' p with | some (.lst vs) => vs[j]? | some (.frz _ (.tup vs)) => vs[j]? | _ => none) = _
        rw [e1]; exact h1
  | @tp p o vs ts' ps f h g a =>
    cases e
    cases s with
    | fl f => cases hs
    | ix i =>
      cases hs
      obtain ⟨w, ps1, ps', ps2, h1, h2, h3, h4, _⟩ := a.nth ht
      refine ⟨w, p :: ps1, ps', ps2, ?_, h2, by rw [h3]; simp, fun p' e => by cases e; simp, fun H' u qs ke b => ?_⟩
      · show (match H p with | some (.lst vs) => vs[j]? | some (.frz _ (.tup vs)) => vs[j]? | _ => none) = _
        rw [h]; exact h1
      · have e1 : H' p = some (.frz o (.tup vs)) := by rw [ke p (by simp)]; exact h
        refine ⟨.tp f e1 g (h4 H' u qs (fun b hb => ke b (by simp at hb ⊢; exact .inr hb)) b), ?_⟩
        show (match H' p with | some (.lst vs) => vs[j]? | some (.frz _ (.tup vs)) => vs[j]? | _ => none) = _
        rw [e1]; exact h1
  | @ob p C dx nm fvs ts' ps f f2 h h2 c a =>
    cases e
    cases s with
    | ix i => cases hs
    | fl f0 =>
      obtain ⟨w, l1, l2⟩ := lookup_at hs
      obtain ⟨w', ps1, ps', ps2, h1, h3, h4, h5, _⟩ := a.nth ht
      rw [l2] at h1
      cases h1
      refine ⟨w, p :: dx :: ps1, ps', ps2, ?_, h3, by rw [h4]; simp, fun p' e => by cases e; simp, fun H' u qs ke b => ?_⟩
      · show (match H p with | some (.ins _ _ fs) => fs.lookup f0 | _ => none) = _
        rw [h]; exact l1
      · have e1 : H' p = some (.ins C dx fvs) := by rw [ke p (by simp)]; exact h
        have e2 : H' dx = some (.own p) := by rw [ke dx (by simp)]; exact h2
        refine ⟨.ob f f2 e1 e2 c (h5 H' u qs (fun b hb => ke b (by simp at hb ⊢; exact .inr (.inr hb))) b), ?_⟩
        show (match H' p with | some (.ins _ _ fs) => fs.lookup f0 | _ => none) = _
        rw [e1]; exact l1
theorem Tr.at_ : ∀ {w : List Stp} {v : V} {t u : OT} {ps : List Addr}, Tr K F H v t ps → t.sub w = some u → ∃ x ps1 ps' ps2, walkH H v w = some x ∧ Tr K F H x u ps' ∧ ps = ps1 ++ ps' ++ ps2 ∧
    ∀ (H' : Hp) (u' : OT) (qs : List Addr), (∀ b, b ∈ ps1 ++ ps2 → H' b = H b) → Tr K F H' x u' qs → Tr K F H' v (t.put w u') (ps1 ++ qs ++ ps2) ∧ walkH H' v w = some x
  | [], v, t, u, ps, a, h => by
    cases h
    exact ⟨v, [], ps, [], rfl, a, by simp, fun H' u' qs _ b => ⟨by
      have e : t.put [] u' = u' := rfl
      rw [e, List.nil_append, List.append_nil]
      exact b, rfl⟩⟩
  | s :: r, v, t, u, ps, a, h => by
    cases t with
    | lf d => cases h
    | dk ks ds => cases h
    | nd k ts =>
      have h : (stepK k s).bind (fun j => (ts[j]?).bind fun u => u.sub r) = some u := h
      obtain ⟨j, h1, h⟩ := Option.bind_eq_some_iff.mp h
      obtain ⟨t', h2, h⟩ := Option.bind_eq_some_iff.mp h
      obtain ⟨y, p1, p', p2, e1, e2, e3, e4, e5⟩ := a.step h1 h2
      obtain ⟨x, q1, q', q2, g1, g2, g3, g4⟩ := Tr.at_ e2 h
      refine ⟨x, p1 ++ q1, q', q2 ++ p2, ?_, g2, by rw [e3, g3]; simp, fun H' u' qs ke b => ?_⟩
      · show (stepH H v s).bind _ = _
        rw [e1]; exact g1
      · obtain ⟨f1, f2⟩ := g4 H' u' qs (fun b hb => ke b (by simp at hb ⊢; rcases hb with z | z <;> simp [z])) b
        obtain ⟨f3, f4⟩ := e5 H' _ _ (fun b hb => ke b (by simp at hb ⊢; rcases hb with z | z <;> simp [z])) f1
        refine ⟨?_, ?_⟩
        · have : (OT.nd k ts).put (s :: r) u' = .nd k (ts.set j (t'.put r u')) := by
            show (match stepK k s with | some j => (match ts[j]? with | some x => OT.nd k (ts.set j (x.put r u')) | none => OT.nd k ts) | none => OT.nd k ts) = _
            rw [h1]
            dsimp only
            rw [h2]
          rw [this, show p1 ++ q1 ++ qs ++ (q2 ++ p2) = p1 ++ (q1 ++ qs ++ q2) ++ p2 by simp]
          exact f3
        · show (stepH H' v s).bind _ = _
          rw [f4]; exact f2
end
end Mn
namespace Mn
open PySem PySem.Spec PyProof.Rows L2
inductive Bo where
  | add | sub | mul | fdiv | mod | pow
inductive Co where
  | eq | ne | lt | le | gt | ge | isN | noN | inn | nin
inductive Ty where
  | int | bool | str | list | tuple | dict
inductive Bi where
  | len | sum | min2 | max2 | minL | maxL | any | all | int | str | tup | list | sorted | isI (t : Ty)
inductive Mt where
  | join | split | index | count | get | partition
inductive Tg where
  | nm (i : Nat) | tp (is : List Nat)
inductive Pth where
  | nm (i : Nat)
  | iv (p : Pth) (i : Nat)
  | ic (p : Pth) (n : Int)
  | ia (p : Pth) (i : Nat) (n : Int)
  | fl (p : Pth) (f : Str)
mutual
inductive Ex where
  | var (i : Nat)
  | int (i : Int)
  | str (x : Str)
  | bl (b : Bool)
  | non
  | glb (g : Nat)
  | bin (o : Bo) (a b : Ex)
  | neg (a : Ex)
  | not (a : Ex)
  | one (a : Ex)
  | and (a b : Ex)
  | or (a b : Ex)
  | cmp (o : Co) (a b : Ex)
  | chn (o o' : Co) (a b c : Ex)
  | chn3 (o o' o2 : Co) (a b c d : Ex)
  | dsx (kvs : List (Str × Str)) (k : Ex)
  | dsv (k1 k2 : Str) (a b k : Ex)
  | isx (a : Ex) (D : Str)
  | fld (a : Ex) (f : Str)
  | mkx (C : Str) (e : Ex)
  | gdx (x : Str) (k : Ex)
  | gin (x : Str) (k : Ex) (neg : Bool)
  | lenD (i : Nat)
  | lenI (i : Nat) (k : Ex)
  | rvt (a : Ex)
  | jrv (a b : Ex)
  | rvl (a : Ex)
  | sls (a : Ex) (lo st : Int)
  | ite (c a b : Ex)
  | tup (es : Exs)
  | lst (es : Exs)
  | call (f : Nat) (es : Exs)
  | bi (b : Bi) (es : Exs)
  | mt (m : Mt) (a : Ex) (es : Exs)
  | idx (a i : Ex)
  | slc (a lo hi : Ex)
  | emp
  | comp (e : Ex) (tg : Tg) (it : Itr) (c : Ex) (own : List Nat)
  /-- an empty dict whose keys will be ints; tuples of ints -/
  | dnK
  | dnT
  /-- dict(zip(a, b)) -/
  | dzp (a b : Ex)
  /-- sum(a.values()) -/
  | sumv (a : Ex)
  /-- what stands at a place in a tree; how many -/
  | pth (p : Pth)
  | lenP (p : Pth)
  /-- a whole tree, lent to a call -/
  | lnd (i : Nat)
  /-- instances that nobody changes: isinstance(x, C); x.f; x.m(..); C(..) -/
  | isj (a : Ex) (D : Str)
  | fjd (a : Ex) (f : Str)
  | mtj (a : Ex) (m : Str) (es : Exs)
  | mkj (f : Nat) (es : Exs)
  /-- a dict with one pair, whose key is a tuple of ints -/
  | dT1 (k v : Ex)
inductive Exs where
  | nil
  | cons (e : Ex) (es : Exs)
inductive Itr where
  | ex (e : Ex)
  | r1 (a : Ex)
  | r2 (a b : Ex)
  | r3 (a b c : Ex)
  | zip (a b : Ex)
  | zip3 (a b c : Ex)
  | en (a : Ex)
  | rv (a : Ex)
  | its (e : Ex)
  | vals (e : Ex)
  | exD (i : Nat) (k : Ex)
  | zipD (i : Nat) (k : Ex) (j : Nat) (l : Ex)
end
inductive Rbs where
  | nil
  | st (k e : Ex) (r : Rbs)
  | ifs (t : Ex) (a r : Rbs)
inductive Ars where
  | tree (i : Nat) (es : Exs)
  | cons (e : Ex) (r : Ars)
inductive Prs where
  | nil
  | e (a : Ex) (r : Prs)
  | v (i : Nat) (r : Prs)
inductive Tb where
  | asg (i f : Nat) (es : Exs)
  | drp (f : Nat) (es : Exs)
  | ifs (t : Ex) (a b : Tb)
  | skip
inductive Tt where
  | ex (e : Ex)
  | cq (o : Co) (f : Nat) (a : Ars) (e : Ex)
  | cb (f : Nat) (a : Ars)
  /-- all([f(..) for .. in an own list]) -/
  | alT (i : Nat) (tg : Tg) (f : Nat) (a : Ars) (own : List Nat)
  | not (a : Tt)
  | one (a : Tt)
  | and (a b : Tt)
  | or (a b : Tt)
inductive Hst where
  | wd (j : Nat) (a b g : Str) (n : Nat)
  | fl (j n : Nat) (fd : Str)
  | st (j : Nat) (z : Str)
structure Hcl where
  D : Str
  n : Option Nat
  b : List Hst
mutual
inductive Sm where
  | asg (i : Nat) (e : Ex)
  | unp (is : List Nat) (e : Ex)
  /-- a, b = c, d -/
  | par (i j k l : Nat)
  /-- a, b = e1, e2 -/
  | parE (i j : Nat) (a b : Ex)
  | app (i : Nat) (e : Ex)
  | ext (i : Nat) (e : Ex)
  | ins (i : Nat) (k e : Ex)
  | pop (j i : Nat) (e : Ex)
  | sti (i : Nat) (k e : Ex)
  | stk (i : Nat) (k e : Ex)
  | clr (i : Nat)
  /-- x.pop() -/
  | popO (i : Nat)
  /-- x.reverse() -/
  | revO (i : Nat)
  /-- x.remove(e) -/
  | rem (i : Nat) (e : Ex)
  | tryB (b : Tb) (D : Str) (j n : Nat)
  | ifs (c : Ex) (a b : Sms)
  /-- an if, a return with such a test -/
  | ifT (c : Tt) (a b : Sms)
  | rtTt (re : Bool) (c : Tt)
  | for_ (tg : Tg) (it : Itr) (b : Sms)
  | whl (c : Ex) (b : Sms)
  | tryN (b : Sms)
  | tryL (b e : Sms)
  | rse (C m : Str)
  | rs1 (C : Str) (e : Ex)
  | asgC (i f : Nat) (es : Exs)
  | retC (f : Nat) (es : Exs)
  | retCf (f : Nat) (es : Exs)
  /-- return f(..) o g(..) -/
  | retC2 (o : Bo) (f : Nat) (es : Exs) (g : Nat) (fs : Exs)
  | drpC (f : Nat) (es : Exs)
  /-- the same in defs that change a tree: what is raised or given back leaves the tree told -/
  | trse (C m : Str)
  | trs1 (C : Str) (e : Ex)
  | tasC (i f : Nat) (es : Exs)
  | trtC (f : Nat) (es : Exs)
  | tdrC (f : Nat) (es : Exs)
  /-- return x.g(es.., f(fs)): f may raise, x.g changes the tree x -/
  | rtcX (g i : Nat) (es : Exs) (f : Nat) (fs : Exs)
  /-- try: i = f(a), which changes a tree; except D as n: j = n -/
  | tryT (i f : Nat) (a : Ars) (D : Str) (j n : Nat)
  | tryTd (f : Nat) (a : Ars) (D : Str) (j n : Nat)
  /-- the same, but j = n.fd -/
  | tryTf (f : Nat) (a : Ars) (D : Str) (j n : Nat) (fd : Str)
  | retF (e : Ex)
  /-- return x.g(h(a)): both change the tree x -/
  | rtcT (g i h : Nat) (a : Ars)
  /-- return str(f(fs)) in a def that changes a tree -/
  | rtsC (f : Nat) (fs : Exs)
  | tryC (i f : Nat) (es : Exs) (D : Str) (j n : Nat)
  | tryE (f : Nat) (es : Exs) (D : Str) (j n : Nat)
  /-- several clauses that ask what they caught -/
  | tryM (f : Nat) (es : Exs) (hs : List Hcl)
  | asgD (i : Nat) (e : Ex) (tg : Tg) (it : Itr) (own : List Nat)
  | asgL (i : Nat) (e : Ex)
  /-- a, b, .. = [own lists] -/
  | unpD (is : List Nat) (e : Ex) (tg : Tg) (it : Itr) (own : List Nat)
  /-- try: x = f(..) except (C, D): return k else: .. -/
  | tryEl (i f : Nat) (es : Exs) (D1 D2 : Str) (k : Bool) (el : Sms)
  | appD (i : Nat) (e : Ex)
  | appI (i : Nat) (k e : Ex)
  | popI (i : Nat) (k : Ex)
  | popD (i : Nat)
  | stJ (i : Nat) (k q e : Ex)
  | retX (e k : Ex)
  | stiD (i : Nat) (k e : Ex)
  | forR (j i : Nat) (b : Rbs)
  | ret (e : Ex)
  | retN
  | drp (e : Ex)
  /-- trees: x = []; x = path; path.append(e); of a list of lists; of x itself, that then is the place -/
  | tnw (i : Nat)
  | tal (j : Nat) (p : Pth)
  | tap (p : Pth) (e : Ex)
  | tapD (p : Pth) (e : Ex) (tg : Tg) (it : Itr) (own : List Nat)
  | tapV (p : Pth) (j : Nat)
  /-- path[k] = e; path.f = e; path.clear() -/
  | tst (p : Pth) (k e : Ex)
  | tfl (p : Pth) (f : Str) (e : Ex)
  | tcl (p : Pth)
  | tfr (j : Nat) (p : Pth) (b : Sms)
  /-- a def that changes a tree is called: its answer dropped, kept -/
  | tcd (f : Nat) (a : Ars)
  | tca (j f : Nat) (a : Ars)
  /-- return of what such a def answers; x = C(..) -/
  | rtc (f : Nat) (a : Ars)
  | asC (j f : Nat) (es : Exs)
  /-- x, .. = f(..); x = f(..): what comes back is a tree -/
  | unC (is : List Nat) (f : Nat) (es : Exs)
  | asT (i f : Nat) (es : Exs)
  /-- return in a def that changes a tree; return of trees -/
  | retT (e : Ex)
  | rtNT
  | rtV (i : Nat)
  | rtP (ps : Prs)
  | rtE (e : Ex)
  | rtD (e : Ex) (tg : Tg) (it : Itr) (own : List Nat)
  /-- x = what is new, as a tree -/
  | tas (i : Nat) (e : Ex)
  | tasD (i : Nat) (e : Ex) (tg : Tg) (it : Itr) (own : List Nat)
  | nop
  | nev
  | cont
  | brk
inductive Sms where
  | nil
  | cons (s : Sm) (r : Sms)
  | frz (i : Nat) (r : Sms)
  | del (i : Nat) (r : Sms)
end
def LIM : Nat := 1000000
def RV.seq : RV → Option (List PyData)
  | .fz (.list ds) => some ds
  | .fz (.tuple ds) => some ds
  | .fz (.dict [(.none, .list ds)]) => some ds
  | .ol ds => some ds
  | _ => none
def RV.seqT : RV → Option (List PyData)
  | .fz (.list ds) => some ds
  | .fz (.tuple ds) => some ds
  | .ol ds => some ds
  | _ => none
def RV.lst : RV → Option (List PyData)
  | .fz (.list ds) => some ds
  | .ol ds => some ds
  | _ => none
theorem RV.seqT_eq {r : RV} {ds : List PyData} (h : r.seqT = some ds) : r = .fz (.tuple ds) ∨ r.lst = some ds := by
  unfold RV.seqT at h
  split at h <;> cases h
  · exact .inr rfl
  · exact .inl rfl
  · exact .inr rfl
def scalD : PyData → Bool
  | .none => true
  | .bool _ => true
  | .int _ => true
  | .str _ => true
  | _ => false
def addD : RV → RV → Option RV
  | .fz (.int i), .fz (.int j) => some (.fz (.int (i + j)))
  | .fz (.str x), .fz (.str y) => if x.length + y.length ≤ LIM then some (.fz (.str (x ++ y))) else none
  | .fz (.tuple xs), .fz (.tuple ys) => if xs.length + ys.length ≤ LIM then some (.fz (.tuple (xs ++ ys))) else none
  | .fz (.list xs), .fz (.list ys) => if xs.length + ys.length ≤ LIM then some (.ol (xs ++ ys)) else none
  | .fz (.list xs), .ol ys => if xs.length + ys.length ≤ LIM then some (.ol (xs ++ ys)) else none
  | .ol xs, .fz (.list ys) => if xs.length + ys.length ≤ LIM then some (.ol (xs ++ ys)) else none
  | .ol xs, .ol ys => if xs.length + ys.length ≤ LIM then some (.ol (xs ++ ys)) else none
  | _, _ => none
def smallI (i : Int) : Bool := decide (-18446744073709551616 < i) && decide (i < 18446744073709551616)
def mulD : RV → RV → Option RV
  | .fz (.int i), .fz (.int j) => if smallI i || smallI j then some (.fz (.int (i * j))) else none
  | .fz (.tuple xs), .fz (.int k) => if -1000 ≤ k ∧ k ≤ 1000 ∧ xs.length ≤ 1000 then some (.fz (.tuple (List.replicate k.toNat xs).flatten)) else none
  | .fz (.list xs), .fz (.int k) => if 0 ≤ k ∧ k ≤ 1000 ∧ xs.length * k.toNat ≤ LIM then some (.ol (List.replicate k.toNat xs).flatten) else none
  | .ol xs, .fz (.int k) => if 0 ≤ k ∧ k ≤ 1000 ∧ xs.length * k.toNat ≤ LIM then some (.ol (List.replicate k.toNat xs).flatten) else none
  | _, _ => none
def subD : RV → RV → Option RV
  | .fz (.int i), .fz (.int j) => some (.fz (.int (i - j)))
  | _, _ => none
def fdivD : RV → RV → Option RV
  | .fz (.int i), .fz (.int j) => if 0 < j ∧ j < 1073741824 then some (.fz (.int (i / j))) else none
  | _, _ => none
def modD : RV → RV → Option RV
  | .fz (.int i), .fz (.int j) => if 0 < j then some (.fz (.int (i % j))) else none
  | _, _ => none
def powD : RV → RV → Option RV
  | .fz (.int i), .fz (.int j) => if 0 ≤ j ∧ j ≤ 1000000 ∧ i.natAbs < 18446744073709551616 then some (.fz (.int (i ^ j.toNat))) else none
  | _, _ => none
def binD : Bo → RV → RV → Option RV
  | .add, a, b => addD a b
  | .mul, a, b => mulD a b
  | .sub, a, b => subD a b
  | .fdiv, a, b => fdivD a b
  | .mod, a, b => modD a b
  | .pow, a, b => powD a b
def intsOf : List PyData → Option (List Int)
  | [] => some []
  | .int i :: r => (intsOf r).map (i :: ·)
  | _ :: _ => none
def boolsOf : List PyData → Option (List Bool)
  | [] => some []
  | .bool i :: r => (boolsOf r).map (i :: ·)
  | _ :: _ => none
def strsOf : List PyData → Option (List Str)
  | [] => some []
  | .str i :: r => (strsOf r).map (i :: ·)
  | _ :: _ => none
def eqI : PyData → Int → Bool
  | .int j, i => decide (j = i)
  | _, _ => false
def eqT : PyData → List Int → Bool
  | .tuple ds, k => decide (intsOf ds = some k)
  | _, _ => false
def lookD (q : PyData → Bool) (r : List (PyData × PyData)) : Option PyData := (r.find? fun p => q p.1).map fun p => p.2
def putD (q : PyData → Bool) (r : List (PyData × PyData)) (k v : PyData) : List (PyData × PyData) := if (lookD q r).isSome then r.map (fun p => if q p.1 then (p.1, v) else p) else r ++ [(k, v)]
def dGet : List (PyData × PyData) → PyData → Option (Option PyData)
  | (.none, .bool false) :: r, .int i => some (lookD (fun z => eqI z i) r)
  | (.none, .bool true) :: r, .tuple ds => (intsOf ds).map fun k => lookD (fun z => eqT z k) r
  | _, _ => none
def dPut : List (PyData × PyData) → PyData → PyData → Option (List (PyData × PyData))
  | (.none, .bool false) :: r, .int i, v => some ((.none, .bool false) :: putD (fun z => eqI z i) r (.int i) v)
  | (.none, .bool true) :: r, .tuple ds, v => (intsOf ds).map fun k => (.none, .bool true) :: putD (fun z => eqT z k) r (.tuple ds) v
  | _, _, _ => none
def dRows : PyData → Option (List (PyData × PyData))
  | .dict ((.none, .bool _) :: r) => some r
  | _ => none
def intsK : PyData → Option (List Int)
  | .tuple ds => intsOf ds
  | _ => none
def sameD : PyData → Option PyData → Bool
  | .int i, some (.int j) => i == j
  | _, _ => false
def isIntD : PyData → Bool
  | .int _ => true
  | _ => false
def teqD (r q : List (PyData × PyData)) : Bool := r.all fun p => match intsK p.1 with
  | some k => sameD p.2 (lookD (fun z => eqT z k) q)
  | none => false
def eqDict : PyData → PyData → Option Bool
  | .dict ((.none, .bool true) :: r), .dict ((.none, .bool true) :: q) => if (r.all fun p => isIntD p.2) && (q.all fun p => isIntD p.2) then some (r.length == q.length && teqD r q) else none
  | _, _ => none
def RV.dic : RV → Option (List (PyData × PyData))
  | .fz (.dict kvs) => some kvs
  | .od kvs => some kvs
  | _ => none
def RV.rows (r : RV) : Option (List (PyData × PyData)) := r.dic.bind fun kvs => dRows (.dict kvs)
def ordD (f : Int → Int → Bool) : PyData → PyData → Option Bool
  | .int i, .int j => some (f i j)
  | _, _ => none
def ltD : PyData → PyData → Option Bool
  | .int i, .int j => some (decide (i < j))
  | .tuple xs, .tuple ys => (intsOf xs).bind fun ns => (intsOf ys).bind fun ms => some (HT.lexLt ns ms)
  | _, _ => none
def isNone : PyData → Bool
  | .none => true
  | _ => false
def inD : PyData → PyData → Option Bool
  | d, .dict kvs => (dGet kvs d).map Option.isSome
  | .str x, .str z => if x.cps.size = 1 then some (decide (x.cps.getD 0 0 ∈ z.cps.toList)) else none
  | d, .list ds => if SeqAt.shaped d && SeqAt.shaped (.list ds) then some (ds.any fun z => PyData.eqv z d) else none
  | d, .tuple ds => if scalD d && ds.all scalD then some (ds.any fun z => PyData.eqv z d) else none
  | _, _ => none
def cmpD : Co → PyData → PyData → Option Bool
  | .eq, d, e => match eqDict d e with
    | some b => some b
    | none => if SeqAt.shaped d && SeqAt.shaped e then some (PyData.eqv d e) else none
  | .ne, d, e => match eqDict d e with
    | some b => some (!b)
    | none => if SeqAt.shaped d && SeqAt.shaped e then some (!PyData.eqv d e) else none
  | .lt, d, e => ltD d e
  | .le, d, e => ordD (fun i j => decide (i ≤ j)) d e
  | .gt, d, e => ordD (fun i j => decide (j < i)) d e
  | .ge, d, e => ordD (fun i j => decide (j ≤ i)) d e
  | .isN, d, .none => some (isNone d)
  | .noN, d, .none => some (!isNone d)
  | .isN, .bool a, .bool b => some (a == b)
  | .noN, .bool a, .bool b => some (!(a == b))
  | .inn, d, e => inD d e
  | .nin, d, e => (inD d e).map not
  | _, _, _ => none
def isD : Ty → PyData → Bool
  | .int, .int _ => true
  | .int, .bool _ => true
  | .bool, .bool _ => true
  | .str, .str _ => true
  | .list, .list _ => true
  | .tuple, .tuple _ => true
  | .dict, .dict _ => true
  | _, _ => false
def notScr : PyData → Bool
  | .dict [(.none, .list _)] => false
  | .dict [(.bool true, _)] => false
  | _ => true
def minI : List Int → Option Int
  | [] => none
  | [x] => some x
  | x :: r => (minI r).map fun m => if m < x then m else x
def maxI : List Int → Option Int
  | [] => none
  | [x] => some x
  | x :: r => (maxI r).map fun m => if x < m then m else x
def insL {α : Type} (le : α → α → Bool) (p : α) : List α → List α
  | [] => [p]
  | q :: r => if le p q then p :: q :: r else q :: insL le p r
def isort {α : Type} (le : α → α → Bool) : List α → List α
  | [] => []
  | p :: r => insL le p (isort le r)
def leI (i j : Int) : Bool := decide (i ≤ j)
def leP (p q : Int × Int) : Bool := decide (p.1 < q.1) || (decide (p.1 = q.1) && decide (p.2 ≤ q.2))
def encP (p : Int × Int) : PyData := .tuple [.int p.1, .int p.2]
def pairsOf : List PyData → Option (List (Int × Int))
  | [] => some []
  | .tuple [.int i, .int j] :: r => (pairsOf r).map ((i, j) :: ·)
  | _ :: _ => none
def leK (a b : Int × PyData) : Bool := decide (a.1 ≤ b.1)
def encK (p : Int × PyData) : PyData := .tuple [.int p.1, p.2]
def keysOf : List PyData → Option (List (Int × PyData))
  | [] => some []
  | .tuple [.int i, d] :: r => (keysOf r).map ((i, d) :: ·)
  | _ :: _ => none
def leT (p q : Int × Int × Int) : Bool := decide (p.1 < q.1) || (decide (p.1 = q.1) && leP p.2 q.2)
def encT3 (p : Int × Int × Int) : PyData := .tuple [.int p.1, .int p.2.1, .int p.2.2]
def triplesOf : List PyData → Option (List (Int × Int × Int))
  | [] => some []
  | .tuple [.int i, .int j, .int k] :: r => (triplesOf r).map ((i, j, k) :: ·)
  | _ :: _ => none
def sortedD (ds : List PyData) : Option RV := match pairsOf ds with
  | some ps => some (.ol ((isort leP ps).map encP))
  | none => match intsOf ds with
    | some ns => some (.ol ((isort leI ns).map PyData.int))
    | none => match triplesOf ds with
      | some ts => some (.ol ((isort leT ts).map encT3))
      | none => (keysOf ds).bind fun ks => if (ks.map Prod.fst).Nodup then some (.ol ((isort leK ks).map encK)) else none
def RV.rowsT (r : RV) : Option (List (PyData × PyData)) := r.dic.bind fun kvs => match kvs with
  | (.none, .bool true) :: rest => some rest
  | _ => none
def sortedR (r : RV) : Option RV := match r.lst with
  | some ds => sortedD ds
  | none => r.rowsT.bind fun kvs => (pairsOf (kvs.map fun p => p.1)).map fun ps => .ol ((isort leP ps).map encP)
theorem sortedR_cases {r rv : RV} (h : sortedR r = some rv) : (∃ ds, r.lst = some ds ∧ sortedD ds = some rv) ∨ ∃ rest ps, r.dic = some ((.none, .bool true) :: rest) ∧ pairsOf (rest.map fun p => p.1) = some ps ∧ rv = .ol ((isort leP ps).map encP) := by
  unfold sortedR at h
  split at h
  · rename_i ds hd
    exact .inl ⟨ds, hd, h⟩
  · right
    cases hr : r.rowsT with
    | none => rw [hr] at h; cases h
    | some kvs =>
      rw [hr, Option.bind_some] at h
      unfold RV.rowsT at hr
      cases hd : r.dic with
      | none => rw [hd] at hr; cases hr
      | some z =>
        rw [hd, Option.bind_some] at hr
        split at hr
        · cases hr
          cases hp : pairsOf (kvs.map fun p => p.1) with
          | none => rw [hp] at h; cases h
          | some ps =>
            rw [hp] at h
            exact ⟨kvs, ps, rfl, hp, (Option.some.inj h).symm⟩
        · cases hr
def biD : Bi → List RV → Option RV
  | .len, [.fz (.str z)] => if z.length ≤ LIM then some (.fz (.int z.length)) else none
  | .len, [r] => match r.rows with
    | some kvs => some (.fz (.int kvs.length))
    | none => r.seq.map fun ds => .fz (.int ds.length)
  | .sum, [r] => (r.seq.bind intsOf).map fun ns => .fz (.int ns.sum)
  | .min2, [.fz (.int i), .fz (.int j)] => some (.fz (.int (if j < i then j else i)))
  | .max2, [.fz (.int i), .fz (.int j)] => some (.fz (.int (if j > i then j else i)))
  | .minL, [r] => ((r.lst.bind intsOf).bind minI).map fun m => .fz (.int m)
  | .maxL, [r] => ((r.lst.bind intsOf).bind maxI).map fun m => .fz (.int m)
  | .any, [r] => match r.lst.bind boolsOf with
    | some ns => some (.fz (.bool (ns.any id)))
    | none => (r.seq.bind intsOf).map fun ns => .fz (.bool (ns.any fun i => i != 0))
  | .all, [r] => (r.lst.bind boolsOf).map fun ns => .fz (.bool (ns.all id))
  | .int, [.fz (.int i)] => some (.fz (.int i))
  | .int, [.fz (.bool k)] => some (.fz (.int (if k then 1 else 0)))
  | .int, [.fz (.str x)] => if x.length ≤ 640 then (PySem.intText? x).map fun n => .fz (.int n) else none
  | .str, [.fz (.int i)] => if i.natAbs.log2 < 1920 then some (.fz (.str (toString i : String))) else none
  | .tup, [r] => r.seq.map fun ds => .fz (.tuple ds)
  | .list, [r] => match r.rows with
    | some kvs => some (.ol (kvs.map fun p => p.1))
    | none => r.seq.map fun ds => .ol ds
  | .sorted, [r] => sortedR r
  | .isI t, [r] => if notScr r.d then some (.fz (.bool (isD t r.d))) else none
  | _, _ => none
def cutD {α : Type} (xs : List α) (lo hi : Option Int) : List α := (xs.drop (HT.sIx xs.length 0 lo)).take (HT.sIx xs.length xs.length hi - HT.sIx xs.length 0 lo)
def idx0 : RV → RV → Option RV
  | .fz (.str z), .fz (.int i) => if z.length ≤ LIM then (atI z.cps.toList i).map fun c => .fz (.str ⟨#[c]⟩) else none
  | a, .fz (.int i) => a.seq.bind fun ds => (atI ds i).map .fz
  | _, _ => none
def idxD (a b : RV) : Option RV := match a.dic.bind fun kvs => dGet kvs b.d with
  | some o => if b.isOwn then none else o.map .fz
  | none => idx0 a b
def slcD : RV → Option Int → Option Int → Option RV
  | .fz (.list ds), lo, hi => some (.ol (cutD ds lo hi))
  | .ol ds, lo, hi => some (.ol (cutD ds lo hi))
  | .fz (.tuple ds), lo, hi => some (.fz (.tuple (cutD ds lo hi)))
  | .fz (.str z), lo, hi => if z.length ≤ LIM then some (.fz (.str (cutS z lo hi))) else none
  | _, _, _ => none
def joinD (x y : RV) : Option RV := match x with
  | .fz (.str a) => (y.seq.bind strsOf).bind fun ys => if (ys.map (·.length)).sum + ys.length * a.length ≤ 16777216 then some (.fz (.str (Txt.join a ys))) else none
  | _ => none
def rvC (y : Str) : List Str := (y.cps.toList.reverse).map fun c => (⟨#[c]⟩ : Str)
def jrvD (x y : RV) : Option RV := match x with
  | .fz (.str a) => match y with
    | .fz (.str b) => if b.length ≤ LIM ∧ b.length + b.length * a.length ≤ 16777216 then some (.fz (.str (Txt.join a (rvC b)))) else none
    | _ => none
  | _ => none
def sixD (a : Str) (y : RV) : Option RV := match y with
  | .fz (.str b) => match Builtin.Str.occurrences a b 0 a.length 1 with
    | i :: _ => some (.fz (.int (i : Nat)))
    | [] => none
  | _ => none
def indexD (x y : RV) : Option RV := match x with
  | .fz (.str a) => sixD a y
  | .fz (.tuple ds) => if SeqAt.shaped (.tuple ds) && SeqAt.shaped y.d then (ds.findIdx? fun z => PyData.eqv z y.d).map fun j => .fz (.int (j : Nat)) else none
  | x => x.lst.bind fun ds => if SeqAt.shaped (.list ds) && SeqAt.shaped y.d then (ds.findIdx? fun z => PyData.eqv z y.d).map fun j => .fz (.int (j : Nat)) else none
def countD (x y : RV) : Option RV := x.lst.bind fun ds => if SeqAt.shaped (.list ds) && SeqAt.shaped y.d then some (.fz (.int ((ds.countP fun z => PyData.eqv z y.d : Nat)))) else none
def splitD (x y : RV) : Option RV := match x, y with
  | .fz (.str a), .fz (.str b) => if (b.length == 0) = false ∧ a.length + 2 ≤ LIM then some (.ol ((Txt.split a b).map PyData.str)) else none
  | _, _ => none
def partD (x y : RV) : Option RV := match x, y with
  | .fz (.str a), .fz (.str b) => if (b.length == 0) = false ∧ a.length ≤ LIM then some (.fz (.tuple [.str (Txt.partition a b).1, .str (Txt.partition a b).2.1, .str (Txt.partition a b).2.2])) else none
  | _, _ => none
def mt1D (m : Mt) (x y : RV) : Option RV := match m with
  | .join => joinD x y
  | .index => indexD x y
  | .count => countD x y
  | .split => splitD x y
  | .partition => partD x y
  | _ => none
def mtD (m : Mt) (x : RV) (rs : List RV) : Option RV := match rs with
  | [y] => mt1D m x y
  | [y, z] => match m with
    | .get => if y.isOwn || z.isOwn then none else (x.dic.bind fun kvs => dGet kvs y.d).map fun o => .fz (o.getD z.d)
    | _ => none
  | _ => none
def strLook (kvs : List (Str × Str)) (s : Str) : Option Str := match valV (mergeK [] (kvs.map fun p => ((.inr p.1 : Key), V.str p.2))) (.inr s) with
  | some (.str v) => some v
  | _ => none
def dsxD (kvs : List (Str × Str)) : RV → Option RV
  | .fz (.str s) => (strLook kvs s).map fun v => .fz (.str v)
  | _ => none
def itemsOf : RV → Option (List PyData)
  | .fz (.str z) => some (z.cps.toList.map fun c => .str ⟨#[c]⟩)
  | r => r.seq
def itemsX (r : RV) : Option (List PyData) := match r.rows with
  | some kvs => some (kvs.map fun p => p.1)
  | none => itemsOf r
def rngD (lo : Int) (n : Nat) : List PyData := (List.range n).map fun i => .int (lo + (i : Nat))
def rngC (lo c : Int) (n : Nat) : List PyData := (List.range n).map fun i => .int (lo + (i : Nat) * c)
def zipD (xs ys : List PyData) : List PyData := List.zipWith (fun x y => .tuple [x, y]) xs ys
def zipD3 (xs ys zs : List PyData) : List PyData := List.zipWith (fun x (p : PyData × PyData) => .tuple [x, p.1, p.2]) xs (List.zip ys zs)
def enD : Nat → List PyData → List PyData
  | _, [] => []
  | i, x :: r => .tuple [.int (i : Nat), x] :: enD (i + 1) r
def zipR (x y : RV) : Option (List PyData) := x.seq.bind fun xs => y.seq.bind fun ys => some (zipD xs ys)
def zipR3 (x y z : RV) : Option (List PyData) := x.seq.bind fun xs => y.seq.bind fun ys => z.seq.bind fun zs => some (zipD3 xs ys zs)
def setAll : Ev → List Nat → List PyData → Ev
  | env, i :: is, d :: ds => setAll (env.set i (some (.fz d))) is ds
  | env, _, _ => env
def bindT : Tg → Ev → PyData → Option Ev
  | .nm i, env, d => some (env.set i (some (.fz d)))
  | .tp is, env, .tuple ds => if ds.length = is.length then some (setAll env is ds) else none
  | .tp is, env, .list ds => if ds.length = is.length then some (setAll env is ds) else none
  | _, _, _ => none
def wipeE : Ev → List Nat → Ev
  | env, [] => env
  | env, v :: vs => (wipeE env vs).set v none
def isVar : Ex → Bool
  | .var _ => true
  | .pth _ => true
  | _ => false
def lndOf : Ex → Option Nat
  | .lnd i => some i
  | _ => none
def isPth : Ex → Bool
  | .pth _ => true
  | _ => false
def ownD (e : Ex) (r : RV) : Option PyData := if isVar e && r.isOwn then none else some r.d
def compL (f : PyData → Option (Option PyData)) : List PyData → Option (List PyData)
  | [] => some []
  | x :: xs => (f x).bind fun o => (compL f xs).bind fun r => some (match o with | some y => y :: r | none => r)
def xnm : RV → Option Str
  | .fz (.dict [(.bool true, .str nm)]) => some nm
  | .fz (.dict [(.bool true, .tuple [.str nm, .str _, _])]) => some nm
  | _ => none
def xfl (f : Str) : RV → Option (Str × PyData)
  | .fz (.dict [(.bool true, .tuple [.str nm, .str g, e])]) => if g = f then some (nm, e) else none
  | _ => none
def subX (nm D : Str) : Bool := decide (nm = D) || decide (D = "SplitError")
inductive Hn where
  | v
  | one (D : Str)
  | add (a b : Hn)
def Hn.cl : Hn → List Str
  | .v => []
  | .one D => [D]
  | .add a b => a.cl ++ b.cl
def evH (nm : Str) (k : Int) : Hn → Int
  | .v => k
  | .one D => if subX nm D then 1 else 0
  | .add a b => evH nm k a + evH nm k b
structure AlD where
  a0 : Hn
  ms : List Hn
  r : Hn
def AlD.cl (d : AlD) : List Str := d.a0.cl ++ (d.ms.flatMap Hn.cl ++ d.r.cl)
def AlD.ask (d : AlD) (nm : Str) : Bool := decide (evH nm (d.ms.foldl (fun k h => evH nm k h) (evH nm 0 d.a0)) d.r = 1)
def rootAt (env : Ev) (i : Nat) : Option OT := ((env[i]?).join).bind fun r => match r with
  | .tr _ t => some t
  | _ => none
def treeAt (env : Ev) (i : Nat) (w : List Stp) : Option OT := (rootAt env i).bind fun t => t.sub w
def kids : OT → Option (List OT)
  | .nd .ls ts => some ts
  | _ => none
def kidsT : OT → Option (List OT)
  | .nd .ls ts => some ts
  | .nd .tp ts => some ts
  | _ => none
def fieldOf (f : Str) : OT → Option Str
  | .nd (.ob nm fs) _ => if fs.contains f then some nm else none
  | _ => none
def leaves : List OT → Option (List PyData)
  | [] => some []
  | .lf d :: r => (leaves r).map (d :: ·)
  | _ :: _ => none
def viewO : OT → Option RV
  | .lf d => some (.fz d)
  | .dk ks ds => some (.od (dkD ks ds))
  | .nd .ls ts => (leaves ts).map .ol
  | _ => none
def plO (r : RV) : Option RV := if r.pl then some r else none
theorem plO_eq {r q : RV} (h : plO r = some q) : q = r ∧ r.pl = true := by
  unfold plO at h
  split at h
  · cases h; exact ⟨rfl, by assumption⟩
  · cases h
def rowsK : List (PyData × PyData) → Option (List Int × List PyData)
  | [] => some ([], [])
  | (.int i, d) :: r => (rowsK r).map fun p => (i :: p.1, d :: p.2)
  | _ :: _ => none
def dkOf : List (PyData × PyData) → Option OT
  | (.none, .bool false) :: r => (rowsK r).map fun p => .dk p.1 p.2
  | _ => none
def ofRV : RV → Option OT
  | .fz d => some (.lf d)
  | .ol ds => some (.nd .ls (ds.map .lf))
  | .od kvs => dkOf kvs
  | .on dss => some (.nd .ls (dss.map fun ds => .nd .ls (ds.map .lf)))
  | .tr [] t => some t
  | _ => none
def tofD (e : Ex) (r : RV) : Option OT := if isVar e && r.isOwn then none else ofRV r
def rvOf : OT → RV
  | .lf d => .fz d
  | t => .tr [] t
def pre (w : List Stp) (w' : List Stp) : Bool := w.isPrefixOf w'
def noAl (env : Ev) (i : Nat) : Bool := env.all fun r => match r with
  | some (.al k _) => k != i
  | _ => true
def free (env : Ev) (i : Nat) (w : List Stp) : Bool := (env.all fun r => match r with
  | some (.al k w') => k != i || !pre w w'
  | _ => true) && match (env[i]?).join with
  | some (.tr pw _) => pw.all fun w' => !pre w w'
  | _ => true
def setTree (env : Ev) (i : Nat) (w : List Stp) (u : OT) : Option Ev := ((env[i]?).join).bind fun r => match r with
  | .tr pw t => some (env.set i (some (.tr pw (t.put w u))))
  | _ => none
def putKd (ks : List Int) (ds : List PyData) (n : Int) (x : PyData) : List Int × List PyData := if n ∈ ks then (ks, List.zipWith (fun k d => if k = n then x else d) ks ds) else (ks ++ [n], ds ++ [x])
def putFs : List Str → List OT → Str → OT → List Str × List OT
  | g :: fs, t :: ts, f, u => if g = f then (g :: fs, u :: ts) else (g :: (putFs fs ts f u).1, t :: (putFs fs ts f u).2)
  | _, _, f, u => ([f], [u])
def leafAt (ts : List OT) (j : Nat) : Bool := match ts[j]? with
  | some (.lf _) => true
  | _ => false
def fldAt : List Str → List OT → Str → Option OT
  | g :: fs, t :: ts, f => if g = f then some t else fldAt fs ts f
  | _, _, _ => none
structure Cl where
  call : Nat → List PyData → Option RV
  glb : Nat → Option PyData
  /-- defs that may raise -/
  callx : Nat → List PyData → Option RV := fun _ _ => none
  /-- classes of exceptions that may come, that may be asked for, the names of fields -/
  rzs : List Str := []
  cls : List Str := []
  fls : List Str := []
  m0s : List Str := []
  m1s : List (Str × Str) := []
  /-- dicts of texts in the module -/
  gds : List (Str × List (Str × PyData)) := []
  /-- defs that change a tree; defs that give one back; classes and their fields -/
  callt : Nat → List (List Stp) → OT → List PyData → Option (RV × OT) := fun _ _ _ _ => none
  callr : Nat → List PyData → Option OT := fun _ _ => none
  /-- the classes whose methods they are -/
  tcs : Nat → Option (Str × Str) := fun _ => none
  ofs : List (Str × Str) := []
  /-- defs that a clause may call -/
  als : List (Str × AlD) := []
  /-- methods of instances that nobody changes; what isinstance says of them -/
  ims : List ((Str × Str) × (List PyData → Option RV)) := []
  jas : List ((Str × Str) × Bool) := []
def inm : RV → Option Str
  | .fz (.dict [(.bool true, .list [.str nm, .list _, .list _])]) => some nm
  | _ => none
def lkF : List PyData → List PyData → Str → Option PyData
  | .str g :: fs, d :: ds, f => if f = g then some d else lkF fs ds f
  | _, _, _ => none
def ifl (f : Str) : RV → Option PyData
  | .fz (.dict [(.bool true, .list [.str _, .list fs, .list ds])]) => lkF fs ds f
  | _ => none
def noF (f : Str) : List PyData → Bool
  | .str g :: fs => decide (f ≠ g) && noF f fs
  | [] => true
  | _ => false
def ino (f : Str) : RV → Bool
  | .fz (.dict [(.bool true, .list [.str _, .list fs, .list _])]) => noF f fs
  | _ => false
def lfsD : List OT → Option (List PyData)
  | [] => some []
  | .lf d :: r => (lfsD r).map (d :: ·)
  | _ => none
def mkjD : RV × OT → Option RV
  | (.fz .none, .nd (.ob nm fs) ts) => (lfsD ts).map fun ds => .fz (insD nm fs ds)
  | _ => none
def dT1D : PyData → PyData → Option RV
  | .tuple ds, d => (intsOf ds).map fun _ => .od [(.none, .bool true), (.tuple ds, d)]
  | _, _ => none
def exH (c : Cl) (env : Ev) : Hst → Option Ev
  | .wd j a b g n => ((env[n]?).join).bind fun r => (xnm r).bind fun nm => (c.als.lookup g).bind fun d => if decide (j ≠ n) && c.rzs.contains nm && d.cl.all c.cls.contains then some (env.set j (some (.fz (.str (if d.ask nm then b else a))))) else none
  | .fl j n fd => ((env[n]?).join).bind fun r => (xfl fd r).bind fun p => if decide (j ≠ n) && c.rzs.contains p.1 && c.fls.contains fd then some (env.set j (some (.fz p.2))) else none
  | .st j z => some (env.set j (some (.fz (.str z))))
def exHs (c : Cl) (env : Ev) : List Hst → Option Ev
  | [] => some env
  | h :: r => (exH c env h).bind fun e => exHs c e r
def fzAt (env : Ev) (k : Nat) : Option PyData := ((env[k]?).join).bind fun r => match r with
  | .fz d => some d
  | _ => none
def setOl : Ev → List Nat → List (List PyData) → Ev
  | env, i :: is, ds :: dss => setOl (env.set i (some (.ol ds))) is dss
  | env, _, _ => env
def exM (c : Cl) (d : PyData) (nm : Str) (env : Ev) : List Hcl → Option Ev
  | [] => none
  | h :: r => if subX nm h.D then (match h.n with
      | some n => (exHs c (env.set n (some (.fz d))) h.b).map fun e => e.set n none
      | none => exHs c env h.b) else exM c d nm env r
def isxD (c : Cl) (nm D : Str) : Option Bool := if c.rzs.contains nm then (if D = "ValueError" then some true else if c.cls.contains D then some (subX nm D) else none) else none
def mkD (c : Cl) (C : Str) (d : PyData) : Option PyData := match c.m1s.lookup C with
  | some f => some (xd1 C f d)
  | none => if c.m0s.contains C then some (xd0 C) else none
def gdD (kvs : List (Str × PyData)) : RV → Option RV
  | .fz (.str s) => (kvs.lookup s).map fun v => .fz v
  | _ => none
def giD (neg : Bool) (kvs : List (Str × PyData)) : RV → Option RV
  | .fz (.str s) => some (.fz (.bool ((kvs.lookup s).isSome != neg)))
  | _ => none
def callD (r : Option RV) (b tp : Bool) : Option RV := r.bind fun v => if b then (match v with | .fz d => if flatD d && (!tp || scalD d) then some v else none | _ => none) else some v
def tpE (env : Ev) : Exs → Bool
  | .nil => false
  | .cons e es => (match lndOf e with
    | some i => match rootAt env i with
      | some t => !t.noTp
      | none => false
    | none => false) || tpE env es
def asRow : RV → Option (List PyData)
  | .ol ds => some ds
  | _ => none
def asOn : RV → Option (List (List PyData))
  | .on dss => some dss
  | _ => none
def onAt (env : Ev) (i : Nat) : Option (List (List PyData)) := ((env[i]?).join).bind asOn
def compD (f : PyData → Option (List PyData)) : List PyData → Option (List (List PyData))
  | [] => some []
  | x :: xs => (f x).bind fun y => (compD f xs).bind fun ys => some (y :: ys)
def rowsD (f : List PyData → Option (List PyData)) : List (List PyData) → Option (List (List PyData))
  | [] => some []
  | x :: xs => (f x).bind fun y => (rowsD f xs).bind fun ys => some (y :: ys)
def asStr : RV → Option Str
  | .fz (.str i) => some i
  | _ => none
def asInt : RV → Option Int
  | .fz (.int i) => some i
  | _ => none
def asBool : RV → Option Bool
  | .fz (.bool i) => some i
  | _ => none
def intAt (env : Ev) (i : Nat) : Option Int := ((env[i]?).join).bind asInt
def stepP (env : Ev) (q : Nat × List Stp) (n : Int) : Option (Nat × List Stp) := ((treeAt env q.1 q.2).bind kidsT).bind fun ts => (ixN ts.length n).map fun j => (q.1, q.2 ++ [.ix j])
section
variable (c : Cl)
def evP (env : Ev) : Pth → Option (Nat × List Stp)
  | .nm i => ((env[i]?).join).bind fun r => match r with
    | .tr _ _ => some (i, [])
    | .al j w => (rootAt env j).map fun _ => (j, w)
    | _ => none
  | .iv p i => (evP env p).bind fun q => (intAt env i).bind fun n => stepP env q n
  | .ic p n => (evP env p).bind fun q => stepP env q n
  | .ia p i m => (evP env p).bind fun q => (intAt env i).bind fun n => stepP env q (n + m)
  | .fl p f => (evP env p).bind fun q => ((treeAt env q.1 q.2).bind (fieldOf f)).bind fun nm => if c.ofs.contains (nm, f) then some (q.1, q.2 ++ [.fl f]) else none
mutual
def ev (env : Ev) : Ex → Option RV
  | .var i => ((env[i]?).join).bind plO
  | .int i => some (.fz (.int i))
  | .str x => some (.fz (.str x))
  | .bl b => some (.fz (.bool b))
  | .non => some (.fz .none)
  | .glb g => (c.glb g).map .fz
  | .bin o a b => (ev env a).bind fun x => (ev env b).bind fun y => binD o x y
  | .neg a => ((ev env a).bind asInt).map fun i => .fz (.int (-i))
  | .not a => ((ev env a).bind asBool).map fun b => .fz (.bool (!b))
  | .one a => (ev env a).bind fun r => (ownD a r).map .fz
  | .and a b => ((ev env a).bind asBool).bind fun k => if k then (ev env b).bind fun r => (ownD b r).map .fz else some (.fz (.bool false))
  | .or a b => ((ev env a).bind asBool).bind fun k => if k then some (.fz (.bool true)) else (ev env b).bind fun r => (ownD b r).map .fz
  | .cmp o a b => (ev env a).bind fun x => (ev env b).bind fun y => (cmpD o x.d y.d).map fun k => .fz (.bool k)
  | .chn o o' a b e => (ev env a).bind fun x => (ev env b).bind fun y => (cmpD o x.d y.d).bind fun k => if k then (ev env e).bind fun z => (cmpD o' y.d z.d).map fun k => .fz (.bool k) else some (.fz (.bool false))
  | .chn3 o o' o2 a b e d => (ev env a).bind fun x => (ev env b).bind fun y => (cmpD o x.d y.d).bind fun k => if k then (ev env e).bind fun z => (cmpD o' y.d z.d).bind fun k => if k then (ev env d).bind fun u => (cmpD o2 z.d u.d).map fun k => .fz (.bool k) else some (.fz (.bool false)) else some (.fz (.bool false))
  | .dsx kvs k => (ev env k).bind fun r => dsxD kvs r
  | .dsv k1 k2 a b k => ((ev env a).bind asStr).bind fun x => ((ev env b).bind asStr).bind fun y => (ev env k).bind fun r => dsxD [(k1, x), (k2, y)] r
  | .isx a D => (ev env a).bind fun r => (xnm r).bind fun nm => (isxD c nm D).map fun b => .fz (.bool b)
  | .fld a f => (ev env a).bind fun r => (xfl f r).bind fun p => if c.rzs.contains p.1 && c.fls.contains f then some (.fz p.2) else none
  | .mkx C e => (ev env e).bind fun r => (ownD e r).bind fun d => (mkD c C d).map .fz
  | .gdx x k => (ev env k).bind fun r => (c.gds.lookup x).bind fun kvs => gdD kvs r
  | .gin x k neg => (ev env k).bind fun r => (c.gds.lookup x).bind fun kvs => giD neg kvs r
  | .lenD i => (onAt env i).map fun dss => .fz (.int (dss.length : Nat))
  | .lenI i k => (onAt env i).bind fun dss => ((ev env k).bind asInt).bind fun n => (atI dss n).map fun ds => .fz (.int (ds.length : Nat))
  | .rvt a => (ev env a).bind fun x => x.seq.map fun ds => .fz (.tuple ds.reverse)
  | .jrv a b => (ev env a).bind fun x => (ev env b).bind fun y => jrvD x y
  | .rvl a => (ev env a).bind fun x => x.seq.map fun ds => .ol ds.reverse
  | .sls a lo st => (ev env a).bind fun x => x.lst.bind fun ds => if 0 < st then some (.ol (pickX ds lo st)) else none
  | .ite t a b => ((ev env t).bind asBool).bind fun k => if k then (ev env a).bind fun r => (ownD a r).map .fz else (ev env b).bind fun r => (ownD b r).map .fz
  | .tup es => (evs env es).bind fun ds => if ds.length ≤ LIM then some (.fz (.tuple ds)) else none
  | .lst es => (evs env es).bind fun ds => if ds.length ≤ LIM then some (.ol ds) else none
  | .call f es => (evb env es).bind fun p => callD (c.call f p.1) p.2 (tpE env es)
  | .bi b es => (evr env es).bind fun rs => biD b rs
  | .mt m a es => (ev env a).bind fun x => (evr env es).bind fun rs => mtD m x rs
  | .idx a i => (ev env a).bind fun x => (ev env i).bind fun y => idxD x y
  | .slc a lo hi => (ev env a).bind fun x => (evo env lo).bind fun l => (evo env hi).bind fun h => slcD x l h
  | .emp => none
  | .dnK => some (.od [(.none, .bool false)])
  | .dnT => some (.od [(.none, .bool true)])
  | .dzp a b => (ev env a).bind fun x => (ev env b).bind fun y => (x.lst.bind intsOf).bind fun ns => y.lst.bind fun ds => if ns.length = ds.length ∧ ns.length ≤ LIM ∧ ns.Nodup then some (.od ((.none, .bool false) :: (ns.map PyData.int).zip ds)) else none
  | .sumv a => (ev env a).bind fun x => x.rows.bind fun kvs => (intsOf (kvs.map fun p => p.2)).map fun ns => .fz (.int ns.sum)
  | .comp e tg it t own => (evi env it).bind fun items => (compL (fun x => (bindT tg (wipeE env own) x).bind fun env' => (evt env' t).bind fun k => if k then (ev env' e).bind fun r => (ownD e r).map some else some none) items).bind fun ds =>
      if items.length ≤ LIM then some (.ol ds) else none
  | .pth p => (evP c env p).bind fun q => (treeAt env q.1 q.2).bind viewO
  | .lenP p => (evP c env p).bind fun q => ((treeAt env q.1 q.2).bind kids).map fun ts => .fz (.int (ts.length : Nat))
  | .lnd _ => none
  | .isj a D => (ev env a).bind fun r => (inm r).bind fun nm => (c.jas.lookup (nm, D)).map fun b => .fz (.bool b)
  | .fjd a f => (ev env a).bind fun r => (inm r).bind fun nm => if c.ofs.contains (nm, f) then (ifl f r).map .fz else none
  | .mtj a m es => (ev env a).bind fun r => (inm r).bind fun nm => (evs env es).bind fun ds => if ino m r then (c.ims.lookup (nm, m)).bind fun s => s (r.d :: ds) else none
  | .mkj f es => (evs env es).bind fun ds => (c.tcs f).bind fun nm => (c.callt f [] (.nd (.ob nm.1 []) []) ds).bind mkjD
  | .dT1 k v => (ev env k).bind fun x => (ownD k x).bind fun kd => (ev env v).bind fun y => (ownD v y).bind fun d => dT1D kd d
def evt (env : Ev) : Ex → Option Bool
  | .emp => some true
  | .one a => (ev env a).bind asBool
  | _ => none
def evo (env : Ev) : Ex → Option (Option Int)
  | .emp => some none
  | .one a => ((ev env a).bind asInt).map some
  | _ => none
def evs (env : Ev) : Exs → Option (List PyData)
  | .nil => some []
  | .cons e es => (ev env e).bind fun r => (ownD e r).bind fun d => (evs env es).bind fun ds => some (d :: ds)
def evb (env : Ev) : Exs → Option (List PyData × Bool)
  | .nil => some ([], false)
  | .cons e es => match lndOf e with
    | some i => (rootAt env i).bind fun t => if t.noOb then (evb env es).bind fun p => some (t.d :: p.1, true) else none
    | none => (ev env e).bind fun r => (evb env es).bind fun p => some (r.d :: p.1, (isVar e && r.isOwn) || p.2)
def evr (env : Ev) : Exs → Option (List RV)
  | .nil => some []
  | .cons e es => (ev env e).bind fun r => (evr env es).bind fun rs => some (r :: rs)
def evi (env : Ev) : Itr → Option (List PyData)
  | .ex e => (ev env e).bind itemsX
  | .r1 a => ((ev env a).bind asInt).bind fun n => if -1000000 ≤ n ∧ n ≤ 1000000 then some (rngD 0 n.toNat) else none
  | .r2 a b => ((ev env a).bind asInt).bind fun m => ((ev env b).bind asInt).bind fun n => if -1000000 ≤ m ∧ m ≤ 1000000 ∧ -1000000 ≤ n ∧ n ≤ 1000000 then some (rngD m (n - m).toNat) else none
  | .r3 a b e => ((ev env a).bind asInt).bind fun m => ((ev env b).bind asInt).bind fun n => ((ev env e).bind asInt).bind fun k =>
      if -1000000 ≤ m ∧ m ≤ 1000000 ∧ -1000000 ≤ n ∧ n ≤ 1000000 ∧ k = -1 then some (rngC m (-1) (m - n).toNat) else none
  | .zip a b => (ev env a).bind fun x => (ev env b).bind fun y => zipR x y
  | .zip3 a b d => (ev env a).bind fun x => (ev env b).bind fun y => (ev env d).bind fun z => zipR3 x y z
  | .en a => (ev env a).bind fun x => (itemsOf x).map fun xs => enD 0 xs
  | .rv a => ((ev env a).bind RV.seq).map List.reverse
  | .its e => (ev env e).bind fun x => x.rows.map fun kvs => kvs.map fun p => .tuple [p.1, p.2]
  | .vals e => (ev env e).bind fun x => x.rows.map fun kvs => kvs.map fun p => p.2
  | .exD i k => (onAt env i).bind fun dss => ((ev env k).bind asInt).bind fun n => atI dss n
  | .zipD i k j l => (onAt env i).bind fun dss => ((ev env k).bind asInt).bind fun n => (atI dss n).bind fun xs => (onAt env j).bind fun ess => ((ev env l).bind asInt).bind fun m => (atI ess m).map fun ys => Mn.zipD xs ys
end
def borI (env : Ev) : Itr → Bool
  | .ex e => isVar e && ((ev c env e).map RV.isOwn).getD true
  | .zip a b => (isVar a && ((ev c env a).map RV.isOwn).getD true) || (isVar b && ((ev c env b).map RV.isOwn).getD true)
  | .zip3 a b d => (isVar a && ((ev c env a).map RV.isOwn).getD true) || ((isVar b && ((ev c env b).map RV.isOwn).getD true) || (isVar d && ((ev c env d).map RV.isOwn).getD true))
  | .en a => isVar a && ((ev c env a).map RV.isOwn).getD true
  | .rv a => isVar a && ((ev c env a).map RV.isOwn).getD true
  | .its e => isVar e && ((ev c env e).map RV.isOwn).getD true
  | .vals e => isVar e && ((ev c env e).map RV.isOwn).getD true
  | .exD _ _ => true
  | .zipD _ _ _ _ => true
  | _ => false
inductive Out where
  | nx (env : Ev)
  | rt (r : RV)
  | bk (env : Ev)
  | ct (env : Ev)
  /-- a return in a def that changes a tree -/
  | re (r : RV) (env : Ev)
def Out.isX : Out → Bool
  | .rt r => r.isX
  | .re r _ => r.isX
  | _ => false
def evx (env : Ev) (f : Nat) (es : Exs) : Option RV := (evb c env es).bind fun p => if p.2 then none else c.callx f p.1
def forL (f : Ev → PyData → Option Out) : List PyData → Ev → Option Out
  | [], env => some (.nx env)
  | x :: xs, env => (f env x).bind fun o => match o with
    | .nx env' => forL f xs env'
    | .ct env' => forL f xs env'
    | .bk env' => some (.nx env')
    | .rt r => some (.rt r)
    | .re r e => some (.re r e)
def whlL (t : Ev → Option Bool) (f : Ev → Option Out) : Nat → Ev → Option Out
  | 0, _ => none
  | n + 1, env => (t env).bind fun k => if k then (f env).bind fun o => (match o with
    | .nx env' => whlL t f n env'
    | .ct env' => whlL t f n env'
    | .bk env' => some (.nx env')
    | .rt r => some (.rt r)
    | .re r e => some (.re r e)) else some (.nx env)
def pinsAt (env : Ev) (i : Nat) : Option (List (List Stp)) := ((env[i]?).join).bind fun r => match r with
  | .tr pw _ => some pw
  | _ => none
def pinE (env : Ev) (i : Nat) (pw pw' : List (List Stp)) : Option Ev := ((env[i]?).join).bind fun r => match r with
  | .tr q t => if q = pw then some (env.set i (some (.tr pw' t))) else none
  | _ => none
def turnE (env : Ev) (j i : Nat) (w : List Stp) (t : Nat) (ts : List OT) : Option Ev := (ts[t]?).bind fun u => match u with
  | .lf d => some (env.set j (some (.fz d)))
  | _ => some (env.set j (some (.al i (w ++ [.ix t]))))
def tfrL (f : Ev → Option Out) (j i : Nat) (w : List Stp) (pw : List (List Stp)) : Nat → Nat → Ev → Option Out
  | 0, _, _ => none
  | n + 1, t, env => (pinsAt env i).bind fun pw' => if pw' = pw ++ [w] then ((treeAt env i w).bind kids).bind fun ts => if t < ts.length then (turnE env j i w t ts).bind fun env1 => (f env1).bind fun o => match o with
    | .nx env' => tfrL f j i w pw n (t + 1) env'
    | .ct env' => tfrL f j i w pw n (t + 1) env'
    | .bk env' => (pinE env' i (pw ++ [w]) pw).map .nx
    | .rt r => some (.rt r)
    | .re r e => (pinE e i (pw ++ [w]) pw).map (.re r)
    else (pinE (env.set j none) i (pw ++ [w]) pw).map .nx else none
def evl (env : Ev) : Exs → Option (List PyData × Bool)
  | .nil => some ([], false)
  | .cons e es => (ev c env e).bind fun r => if isPth e && r.isOwn then none else (evl env es).bind fun p => some (r.d :: p.1, (isVar e && r.isOwn) || p.2)
def evA (env : Ev) : Ars → Option (Nat × List PyData × Bool)
  | .tree i es => (evl c env es).map fun p => (i, p.1, p.2)
  | .cons e r => (ev c env e).bind fun x => if isPth e && x.isOwn then none else (evA env r).map fun p => (p.1, x.d :: p.2.1, (isVar e && x.isOwn) || p.2.2)
def evPs (env : Ev) : Prs → Option (List OT × Ev)
  | .nil => some ([], env)
  | .e a r => (ev c env a).bind fun x => (tofD a x).bind fun t => (evPs env r).map fun p => (t :: p.1, p.2)
  | .v i r => ((env[i]?).join).bind fun x => (ofRV x).bind fun t => (evPs (env.set i none) r).map fun p => (t :: p.1, p.2)
mutual
def OT.flatL : OT → Bool
  | .lf d => flatD d
  | .dk _ ds => flatAll ds
  | .nd _ ts => OT.flatLs ts
def OT.flatLs : List OT → Bool
  | [] => true
  | t :: r => OT.flatL t && OT.flatLs r
end
def callT (r : Option (RV × OT)) (b : Bool) : Option (RV × OT) := r.bind fun v => if b then (match v with | (.fz d, t) => if flatD d && t.flatL then some v else none | _ => none) else some v
def fits (f : Nat) (t : OT) : Bool := match c.tcs f with
  | none => true
  | some nm => match t with
    | .nd (.ob nm' fs) _ => decide (nm.1 = nm') && !fs.contains nm.2
    | _ => false
def evC (env : Ev) (f : Nat) (a : Ars) : Option (RV × Ev) := (evA c env a).bind fun q => ((env[q.1]?).join).bind fun r => match r with
  | .tr pw t => if noAl env q.1 && t.isNd && fits c f t then (callT (c.callt f pw t q.2.1) q.2.2).map fun z => (z.1, env.set q.1 (some (.tr pw z.2))) else none
  | _ => none
def evCX (env : Ev) (g i : Nat) (es : Exs) (f : Nat) (fs : Exs) : Option (RV × Ev) := ((env[i]?).join).bind fun r => match r with
  | .tr pw t => if noAl env i && t.isNd && fits c g t then (evl c env es).bind fun p => (evx c env f fs).bind fun x => (match x with
    | .xr d => some (.xr d, env)
    | .fz d => (callT (c.callt g pw t (p.1 ++ [d])) p.2).map fun z => (z.1, env.set i (some (.tr pw z.2)))
    | _ => none) else none
  | _ => none
def evCT (env : Ev) (g i h : Nat) (a : Ars) : Option (RV × Ev) := ((env[i]?).join).bind fun r => match r with
  | .tr _ t => if fits c g t then (evC c env h a).bind fun z => (match z.1 with
    | .xr _ => some z
    | .fz d => ((z.2[i]?).join).bind fun r1 => match r1 with
      | .tr pw1 t1 => if noAl z.2 i && t1.isNd && fits c g t1 then (callT (c.callt g pw1 t1 [d]) false).map fun y => (y.1, z.2.set i (some (.tr pw1 y.2))) else none
      | _ => none
    | _ => none) else none
  | _ => none
def olAt (env : Ev) (i : Nat) : Option (List PyData) := ((env[i]?).join).bind fun r => match r with
  | .ol ds => some ds
  | _ => none
def alE (tg : Tg) (f : Nat) (a : Ars) (own : List Nat) : List PyData → Ev → Option (List Bool × Ev)
  | [], env => some ([], env)
  | x :: r, env => (bindT tg env x).bind fun e1 => (evC c e1 f a).bind fun z => match z.1 with
    | .fz (.bool k) => (alE tg f a own r (wipeE z.2 own)).map fun q => (k :: q.1, q.2)
    | _ => none
def evTt : Tt → Ev → Option (Bool × Ev)
  | .ex e, env => ((ev c env e).bind asBool).map fun k => (k, env)
  | .cq o f a e, env => (evC c env f a).bind fun z => match z.1 with
    | .fz d => (ev c z.2 e).bind fun y => (cmpD o d y.d).map fun k => (k, z.2)
    | _ => none
  | .cb f a, env => (evC c env f a).bind fun z => match z.1 with
    | .fz (.bool k) => some (k, z.2)
    | _ => none
  | .alT i tg f a own, env => (olAt (wipeE env own) i).bind fun ds => (alE c tg f a own ds (wipeE env own)).bind fun q => if ds.length ≤ LIM then some (q.1.all id, q.2) else none
  | .not a, env => (evTt a env).map fun z => (!z.1, z.2)
  | .one a, env => evTt a env
  | .and a b, env => (evTt a env).bind fun z => if z.1 then evTt b z.2 else some (false, z.2)
  | .or a b, env => (evTt a env).bind fun z => if z.1 then some (true, z.2) else evTt b z.2
def setTs : Ev → List Nat → List OT → Option Ev
  | env, [], [] => some env
  | env, i :: is, t :: ts => if noAl env i then setTs (env.set i (some (rvOf t))) is ts else none
  | _, _, _ => none
def odAt (env : Ev) (i : Nat) : Option (List (PyData × PyData)) := ((env[i]?).join).bind fun r => match r with
  | .od kvs => some kvs
  | _ => none
def exR (j : Nat) : Rbs → Ev → Option Ev
  | .nil, env => some env
  | .st k e r, env => (ev c env e).bind fun x => (ownD e x).bind fun d => (olAt env j).bind fun ds => ((ev c env k).bind asInt).bind fun n => (ixN ds.length n).bind fun m => exR j r (env.set j (some (.ol (ds.set m d))))
  | .ifs t a r, env => ((ev c env t).bind asBool).bind fun b => if b then (exR j a env).bind (exR j r) else exR j r env
def exTb : Tb → Ev → Option Out
  | .asg i f es, env => (evx c env f es).bind fun r => match r with
    | .xr d => some (.rt (.xr d))
    | r => if r.frzOk && r.pl then some (.nx (env.set i (some (.fz r.fzD)))) else none
  | .drp f es, env => (evx c env f es).bind fun r => some (match r with
    | .xr d => .rt (.xr d)
    | _ => .nx env)
  | .ifs t a b, env => ((ev c env t).bind asBool).bind fun k => if k then exTb a env else exTb b env
  | .skip, env => some (.nx env)
def FUEL : Nat := 100000
def thenL (o : Out) (k : Ev → Option Out) : Option Out := match o with
  | .nx e => k e
  | o => some o
mutual
def exS : Sm → Ev → Option Out
  | .asg i e, env => (ev c env e).bind fun r => if isVar e && r.isOwn then none else some (.nx (env.set i (some r)))
  | .parE i j a b, env => if decide (i = j) then none else (evs c env (.cons a (.cons b .nil))).bind fun ds => match ds with
    | [d, e] => some (.nx ((env.set i (some (.fz d))).set j (some (.fz e))))
    | _ => none
  | .par i j k l, env => if decide (i = j) then none else (fzAt env k).bind fun d => (fzAt env l).bind fun e => some (.nx ((env.set i (some (.fz d))).set j (some (.fz e))))
  | .unp is e, env => (ev c env e).bind fun r => (ownD e r).bind fun d => (bindT (.tp is) env d).map .nx
  | .app i e, env => (olAt env i).bind fun ds => (ev c env e).bind fun r => (ownD e r).bind fun d => if ds.length < LIM then some (.nx (env.set i (some (.ol (ds ++ [d]))))) else none
  | .ext i e, env => (olAt env i).bind fun ds => (ev c env e).bind fun r => r.seqT.bind fun es => if ds.length + es.length ≤ LIM then some (.nx (env.set i (some (.ol (ds ++ es))))) else none
  | .ins i k e, env => (olAt env i).bind fun ds => ((ev c env k).bind asInt).bind fun n => (ev c env e).bind fun r => (ownD e r).bind fun d => if 0 ≤ n ∧ n ≤ LIM ∧ ds.length < LIM then some (.nx (env.set i (some (.ol (ds.take n.toNat ++ [d] ++ ds.drop n.toNat))))) else none
  | .pop j i e, env => if i = j then none else (olAt env i).bind fun ds => ((ev c env e).bind asInt).bind fun k => if 0 ≤ k then (ds[k.toNat]?).bind fun d => if ds.length ≤ LIM then some (.nx ((env.set i (some (.ol (ds.eraseIdx k.toNat)))).set j (some (.fz d)))) else none else none
  | .sti i k e, env => (ev c env e).bind fun r => (ownD e r).bind fun d => (olAt env i).bind fun ds => ((ev c env k).bind asInt).bind fun n => (ixN ds.length n).bind fun j => some (.nx (env.set i (some (.ol (ds.set j d)))))
  | .stk i k e, env => (ev c env e).bind fun r => (ownD e r).bind fun d => (odAt env i).bind fun kvs => (ev c env k).bind fun y => if y.isOwn then none else (dPut kvs y.d d).bind fun kvs' => if kvs.length ≤ LIM then some (.nx (env.set i (some (.od kvs')))) else none
  | .clr i, env => (olAt env i).bind fun ds => some (.nx (env.set i (some (.ol []))))
  | .popO i, env => (olAt env i).bind fun ds => if 0 < ds.length ∧ ds.length ≤ LIM then some (.nx (env.set i (some (.ol (ds.eraseIdx (ds.length - 1)))))) else none
  | .revO i, env => (olAt env i).bind fun ds => if ds.length ≤ LIM then some (.nx (env.set i (some (.ol ds.reverse)))) else none
  | .rem i e, env => (olAt env i).bind fun ds => (ev c env e).bind fun r => (ownD e r).bind fun d => if SeqAt.shaped (.list ds) && SeqAt.shaped d && decide (ds.length ≤ LIM) then (SeqAt.dataPlace ds d).bind fun j => some (.nx (env.set i (some (.ol (ds.eraseIdx j))))) else none
  | .tryB b D j n, env => if decide (j = n) || !c.cls.contains D then none else (exTb c b env).bind fun o => match o with
    | .rt (.xr d) => (xnm (.fz d)).bind fun nm => if c.rzs.contains nm && subX nm D then some (.nx ((env.set n none).set j (some (.fz d)))) else none
    | .nx env' => some (.nx env')
    | _ => none
  | .ifs t a b, env => ((ev c env t).bind asBool).bind fun k => if k then exSs a env else exSs b env
  | .ifT t a b, env => (evTt c t env).bind fun z => if z.1 then exSs a z.2 else exSs b z.2
  | .rtTt re t, env => (evTt c t env).map fun z => if re then .re (.fz (.bool z.1)) z.2 else .rt (.fz (.bool z.1))
  | .for_ tg it b, env => if borI c env it then none else (evi c env it).bind fun items => forL (fun env x => (bindT tg env x).bind fun env' => exSs b env') items env
  | .whl t b, env => whlL (fun env => (ev c env t).bind asBool) (fun env => exSs b env) FUEL env
  | .tryN b, env => (exSs b env).bind fun o => if o.isX then none else some o
  | .tryL b e, env => (exSs b env).bind fun o => if o.isX then none else thenL o fun env' => exSs e env'
  | .rse C _, env => if c.m0s.contains C then some (.rt (.xr (xd0 C))) else none
  | .rs1 C e, env => (ev c env e).bind fun r => (ownD e r).bind fun d => (c.m1s.lookup C).map fun f => .rt (.xr (xd1 C f d))
  | .asgC i f es, env => (evx c env f es).bind fun r => some (match r with
    | .xr d => .rt (.xr d)
    | r => .nx (env.set i (some r)))
  | .retC f es, env => (evx c env f es).map .rt
  | .retCf f es, env => (evx c env f es).map fun r => .rt (match r with
    | .xr d => .xr d
    | r => .fz r.d)
  | .retC2 o f es g fs, env => (evx c env f es).bind fun a => match a with
    | .xr d => some (.rt (.xr d))
    | a => (evx c env g fs).bind fun b => match b with
      | .xr d => some (.rt (.xr d))
      | b => (binD o a b).map .rt
  | .trse C _, env => if c.m0s.contains C then some (.re (.xr (xd0 C)) env) else none
  | .trs1 C e, env => (ev c env e).bind fun r => (ownD e r).bind fun d => (c.m1s.lookup C).map fun f => .re (.xr (xd1 C f d)) env
  | .tasC i f es, env => (evx c env f es).bind fun r => some (match r with
    | .xr d => .re (.xr d) env
    | r => .nx (env.set i (some r)))
  | .trtC f es, env => (evx c env f es).map fun r => .re r env
  | .tdrC f es, env => (evx c env f es).bind fun r => some (match r with
    | .xr d => .re (.xr d) env
    | _ => .nx env)
  | .rtcX g i es f fs, env => (evCX c env g i es f fs).map fun z => .re z.1 z.2
  | .tryT i f a D j n, env => if decide (i = n) || decide (j = n) || !c.cls.contains D then none else (evC c env f a).bind fun z => match z.1 with
    | .xr d => (xnm (.fz d)).bind fun nm => if c.rzs.contains nm && subX nm D then some (.nx ((z.2.set n none).set j (some (.fz d)))) else none
    | r => if r.pl && noAl z.2 i then some (.nx (z.2.set i (some r))) else none
  | .rtcT g i h a, env => (evCT c env g i h a).map fun z => .re z.1 z.2
  | .rtsC f fs, env => (evx c env f fs).bind fun r => match r with
    | .xr d => some (.re (.xr d) env)
    | r => (biD .str [r]).map fun v => .re v env
  | .drpC f es, env => (evx c env f es).bind fun r => some (match r with
    | .xr d => .rt (.xr d)
    | _ => .nx env)
  | .tryC i f es D j n, env => if decide (i = n) || decide (j = n) || !c.cls.contains D then none else (evx c env f es).bind fun r => match r with
    | .xr d => (xnm (.fz d)).bind fun nm => if c.rzs.contains nm && subX nm D then some (.nx ((env.set n none).set j (some (.fz d)))) else none
    | r => some (.nx (env.set i (some r)))
  | .tryE f es D j n, env => if decide (j = n) || !c.cls.contains D then none else (evx c env f es).bind fun r => match r with
    | .xr d => (xnm (.fz d)).bind fun nm => if c.rzs.contains nm && subX nm D then some (.nx ((env.set n none).set j (some (.fz d)))) else none
    | _ => some (.nx env)
  | .tryM f es hs, env => if hs.all (fun h => c.cls.contains h.D) then (evx c env f es).bind fun r => match r with
    | .xr d => (xnm (.fz d)).bind fun nm => if c.rzs.contains nm then (exM c d nm env hs).map .nx else none
    | _ => some (.nx env) else none
  | .asgD i e tg it own, env => (evi c env it).bind fun items => (compD (fun x => (bindT tg (wipeE env own) x).bind fun env' => (ev c env' e).bind fun r => if isVar e then none else asRow r) items).bind fun dss => if items.length ≤ LIM then some (.nx (env.set i (some (.on dss)))) else none
  | .unpD is e tg it own, env => (evi c env it).bind fun items => (compD (fun x => (bindT tg (wipeE env own) x).bind fun env' => (ev c env' e).bind fun r => if isVar e then none else asRow r) items).bind fun dss => if items.length ≤ LIM ∧ dss.length = is.length then some (.nx (setOl env is dss)) else none
  | .tryEl i f es D1 D2 k el, env => if c.cls.contains D1 && c.cls.contains D2 then (evx c env f es).bind fun r => match r with
    | .xr d => (xnm (.fz d)).bind fun nm => if c.rzs.contains nm && (subX nm D1 || subX nm D2) then some (.rt (.fz (.bool k))) else none
    | r => exSs el (env.set i (some r)) else none
  | .asgL i e, env => (ev c env e).bind fun r => (if isVar e then none else asRow r).bind fun es => some (.nx (env.set i (some (.on [es]))))
  | .appD i e, env => (onAt env i).bind fun dss => (ev c env e).bind fun r => (if isVar e then none else asRow r).bind fun es => if dss.length < LIM then some (.nx (env.set i (some (.on (dss ++ [es]))))) else none
  | .appI i k e, env => (onAt env i).bind fun dss => ((ev c env k).bind asInt).bind fun n => (ixN dss.length n).bind fun j => (dss[j]?).bind fun ds => (ev c env e).bind fun r => (ownD e r).bind fun d => if ds.length < LIM ∧ dss.length ≤ LIM then some (.nx (env.set i (some (.on (dss.set j (ds ++ [d])))))) else none
  | .popI i k, env => (onAt env i).bind fun dss => ((ev c env k).bind asInt).bind fun n => (ixN dss.length n).bind fun j => (dss[j]?).bind fun ds => if 0 < ds.length ∧ ds.length ≤ LIM ∧ dss.length ≤ LIM then some (.nx (env.set i (some (.on (dss.set j ds.dropLast))))) else none
  | .popD i, env => (onAt env i).bind fun dss => if 0 < dss.length ∧ dss.length ≤ LIM then some (.nx (env.set i (some (.on dss.dropLast)))) else none
  | .stJ i k q e, env => ((ev c env e).bind fun r => (ownD e r).bind fun d => (onAt env i).bind fun dss => ((ev c env k).bind asInt).bind fun n => (ixN dss.length n).bind fun j => (dss[j]?).bind fun ds => ((ev c env q).bind asInt).bind fun l => (ixN ds.length l).bind fun t => some (.nx (env.set i (some (.on (dss.set j (ds.set t d)))))))
  | .retX e k, env => (ev c env e).bind fun r => (if isVar e then none else asOn r).bind fun dss => ((ev c env k).bind asInt).bind fun n => (atI dss n).map fun ds => .rt (.ol ds)
  | .stiD i k e, env => (ev c env e).bind fun r => (if isVar e then none else asRow r).bind fun es => (onAt env i).bind fun dss => ((ev c env k).bind asInt).bind fun n => (ixN dss.length n).bind fun j => some (.nx (env.set i (some (.on (dss.set j es)))))
  | .forR j i b, env => if i = j then none else (onAt env i).bind fun dss => (rowsD (fun es => (exR c j b ((env.set i none).set j (some (.ol es)))).bind fun env' => olAt env' j) dss).bind fun dss' => some (.nx ((env.set i (some (.on dss'))).set j none))
  | .ret e, env => (ev c env e).map .rt
  | .retN, env => some (.rt (.fz .none))
  | .drp e, env => (ev c env e).map fun _ => .nx env
  | .tnw i, env => if noAl env i then some (.nx (env.set i (some (.tr [] (.nd .ls []))))) else none
  | .tal j p, env => (evP c env p).bind fun q => (treeAt env q.1 q.2).bind fun t => if t.isNd && decide (q.1 ≠ j) then some (.nx (env.set j (some (.al q.1 q.2)))) else none
  | .tap p e, env => (evP c env p).bind fun q => (ev c env e).bind fun r => (tofD e r).bind fun u => ((treeAt env q.1 q.2).bind kids).bind fun ts => if ts.length < LIM then (setTree env q.1 q.2 (.nd .ls (ts ++ [u]))).map .nx else none
  | .tapD p e tg it own, env => (evP c env p).bind fun q => (evi c env it).bind fun items => (compD (fun x => (bindT tg (wipeE env own) x).bind fun env' => (ev c env' e).bind fun r => if isVar e then none else asRow r) items).bind fun dss => ((treeAt env q.1 q.2).bind kids).bind fun ts => if items.length ≤ LIM ∧ ts.length < LIM then (setTree env q.1 q.2 (.nd .ls (ts ++ [.nd .ls (dss.map fun ds => .nd .ls (ds.map .lf))]))).map .nx else none
  | .tapV p j, env => (evP c env p).bind fun q => ((env[j]?).join).bind fun x => (ofRV x).bind fun u => ((treeAt env q.1 q.2).bind kids).bind fun ts => if u.isNd && decide (q.1 ≠ j) && noAl env j && decide (ts.length < LIM) then (setTree env q.1 q.2 (.nd .ls (ts ++ [u]))).map fun env' => .nx (env'.set j (some (.al q.1 (q.2 ++ [.ix ts.length])))) else none
  | .tst p k e, env => (ev c env e).bind fun r => (evP c env p).bind fun q => (treeAt env q.1 q.2).bind fun t => ((ev c env k).bind asInt).bind fun n => match t with
    | .nd .ls ts => (ixN ts.length n).bind fun j => (tofD e r).bind fun u => if leafAt ts j || free env q.1 (q.2 ++ [.ix j]) then (setTree env q.1 q.2 (.nd .ls (ts.set j u))).map .nx else none
    | .dk ks ds => (ownD e r).bind fun d => if ks.length ≤ LIM then (setTree env q.1 q.2 (.dk (putKd ks ds n d).1 (putKd ks ds n d).2)).map .nx else none
    | _ => none
  | .tfl p f e, env => (ev c env e).bind fun r => (evP c env p).bind fun q => (tofD e r).bind fun u => (treeAt env q.1 q.2).bind fun t => match t with
    | .nd (.ob nm fs) ts => if c.ofs.contains (nm, f) && decide (fs.length < 1000) && (match fldAt fs ts f with | some x => !x.isNd || free env q.1 (q.2 ++ [.fl f]) | none => true) then (setTree env q.1 q.2 (.nd (.ob nm (putFs fs ts f u).1) (putFs fs ts f u).2)).map .nx else none
    | _ => none
  | .tcl p, env => (evP c env p).bind fun q => ((treeAt env q.1 q.2).bind kids).bind fun ts => if (leaves ts).isSome || (List.range ts.length).all (fun j => free env q.1 (q.2 ++ [.ix j])) then (setTree env q.1 q.2 (.nd .ls [])).map .nx else none
  | .tfr j p b, env => (evP c env p).bind fun q => if q.1 = j then none else (pinsAt env q.1).bind fun pw => (pinE env q.1 pw (pw ++ [q.2])).bind fun env1 => tfrL (fun e => exSs b e) j q.1 q.2 pw FUEL 0 env1
  | .tcd f a, env => (evC c env f a).map fun z => match z.1 with
    | .xr d => .re (.xr d) z.2
    | _ => .nx z.2
  | .tca j f a, env => (evC c env f a).bind fun z => match z.1 with
    | .xr d => some (.re (.xr d) z.2)
    | r => if r.pl && noAl z.2 j then some (.nx (z.2.set j (some r))) else none
  | .rtc f a, env => (evC c env f a).map fun z => .re z.1 z.2
  | .asC j f es, env => (evs c env es).bind fun ds => (c.tcs f).bind fun nm => (c.callt f [] (.nd (.ob nm.1 []) []) ds).bind fun z => match z.1 with
    | .fz .none => if noAl env j then some (.nx (env.set j (some (.tr [] z.2)))) else none
    | _ => none
  | .unC is f es, env => (evb c env es).bind fun p => if p.2 then none else (c.callr f p.1).bind fun t => match t with
    | .nd .tp ts => if decide is.Nodup then (setTs env is ts).map .nx else none
    | _ => none
  | .asT i f es, env => (evb c env es).bind fun p => if p.2 then none else (c.callr f p.1).bind fun t => if noAl env i then some (.nx (env.set i (some (.tr [] t)))) else none
  | .retF e, env => (ev c env e).bind fun r => (ownD e r).map fun d => .re (.fz d) env
  | .tryTd f a D j n, env => if decide (j = n) || !c.cls.contains D then none else (evC c env f a).bind fun z => match z.1 with
    | .xr d => (xnm (.fz d)).bind fun nm => if c.rzs.contains nm && subX nm D then some (.nx ((z.2.set n none).set j (some (.fz d)))) else none
    | _ => some (.nx z.2)
  | .tryTf f a D j n fd, env => if decide (j = n) || !c.cls.contains D then none else (evC c env f a).bind fun z => match z.1 with
    | .xr d => (xnm (.fz d)).bind fun nm => if c.rzs.contains nm && subX nm D then (xfl fd (.fz d)).bind fun p => (if c.rzs.contains p.1 && c.fls.contains fd then some (.nx ((z.2.set n none).set j (some (.fz p.2)))) else none) else none
    | _ => some (.nx z.2)
  | .retT e, env => (ev c env e).bind fun r => if isVar e && r.isOwn then none else some (.re r env)
  | .rtNT, env => some (.re (.fz .none) env)
  | .rtV i, env => ((env[i]?).join).bind fun r => match r with
    | .tr [] t => some (.rt (.tr [] t))
    | _ => none
  | .rtP ps, env => (evPs c env ps).bind fun q => if q.1.length ≤ LIM then some (.rt (.tr [] (.nd .tp q.1))) else none
  | .rtE e, env => (ev c env e).bind fun r => (tofD e r).map fun t => .rt (.tr [] t)
  | .rtD e tg it own, env => (evi c env it).bind fun items => (compD (fun x => (bindT tg (wipeE env own) x).bind fun env' => (ev c env' e).bind fun r => if isVar e then none else asRow r) items).bind fun dss => if items.length ≤ LIM then some (.rt (.tr [] (.nd .ls (dss.map fun ds => .nd .ls (ds.map .lf))))) else none
  | .tas i e, env => (ev c env e).bind fun r => (tofD e r).bind fun t => if noAl env i then some (.nx (env.set i (some (.tr [] t)))) else none
  | .tasD i e tg it own, env => (evi c env it).bind fun items => (compD (fun x => (bindT tg (wipeE env own) x).bind fun env' => (ev c env' e).bind fun r => if isVar e then none else asRow r) items).bind fun dss => if decide (items.length ≤ LIM) && noAl env i then some (.nx (env.set i (some (.tr [] (.nd .ls (dss.map fun ds => .nd .ls (ds.map .lf))))))) else none
  | .nop, env => some (.nx env)
  | .nev, _ => none
  | .cont, env => some (.ct env)
  | .brk, env => some (.bk env)
def exSs : Sms → Ev → Option Out
  | .nil, env => some (.nx env)
  | .cons s r, env => (exS s env).bind fun o => match o with
    | .nx env' => exSs r env'
    | o => some o
  | .frz i r, env => ((env[i]?).join).bind fun v => if v.frzOk then exSs r (env.set i (some (.fz v.fzD))) else none
  | .del i r, env => exSs r (env.set i none)
end
end
structure Df where
  n : Nat
  np : Nat
  body : Sms
def runD (c : Cl) (f : Df) (ds : List PyData) : Option RV :=
  if ds.length = f.np then (exSs c f.body (ds.map (fun d => some (.fz d)) ++ List.replicate (f.n - f.np) none)).bind fun o => match o with
    | .rt r => if r.isX || !r.pl then none else some r
    | .re r _ => if r.isX || !r.pl then none else some r
    | .nx _ => some (.fz .none)
    | _ => none
  else none
def treeOf (pw : List (List Stp)) : Option RV → Option OT
  | some (.tr pw' t) => if pw' = pw then some t else none
  | _ => none
def runT (c : Cl) (f : Df) (q : Nat) (pw : List (List Stp)) (t : OT) (ds : List PyData) : Option (RV × OT) :=
  if ds.length + 1 = f.np ∧ q < f.np then (exSs c f.body ((ds.take q).map (fun d => some (.fz d)) ++ some (.tr (pw ++ [[]]) t) :: (ds.drop q).map (fun d => some (.fz d)) ++ List.replicate (f.n - f.np) none)).bind fun o => match o with
    | .re r env => if r.pl then (treeOf (pw ++ [[]]) (env[q]?).join).map fun u => (r, u) else none
    | .nx env => (treeOf (pw ++ [[]]) (env[q]?).join).map fun u => (.fz .none, u)
    | _ => none
  else none
end Mn
namespace Mn
open PySem PySem.Spec PyProof.Rows L2
theorem bnd {α β : Type} {x : Option α} {f : α → Option β} {b : β} (h : x.bind f = some b) : ∃ a, x = some a ∧ f a = some b := by
  cases x with
  | none => cases h
  | some a => exact ⟨a, rfl, h⟩
theorem mpd {α β : Type} {x : Option α} {f : α → β} {b : β} (h : x.map f = some b) : ∃ a, x = some a ∧ f a = b := by
  cases x with
  | none => cases h
  | some a => exact ⟨a, rfl, Option.some.inj h⟩
theorem itd {α : Type} {c : Prop} [Decidable c] {a b : α} (h : (if c then some a else none) = some b) : c ∧ a = b := by
  by_cases hc : c
  · rw [if_pos hc] at h; exact ⟨hc, Option.some.inj h⟩
  · rw [if_neg hc] at h; cases h
theorem itd' {α : Type} {c : Prop} [Decidable c] {a : Option α} {b : α} (h : (if c then a else none) = some b) : c ∧ a = some b := by
  by_cases hc : c
  · rw [if_pos hc] at h; exact ⟨hc, h⟩
  · rw [if_neg hc] at h; cases h
theorem LIM_ok {n : Nat} (h : n ≤ LIM) : n ≤ sizeLine := by rw [sizeLine_eq]; unfold LIM at h; omega
theorem LIM_lt {n : Nat} (h : n < LIM) : n < sizeLine := by rw [sizeLine_eq]; unfold LIM at h; omega
section
variable {X : Cx} {e : Expr}
theorem PE.imp {t t' : TE} (h : PE X e t) (f : ∀ σ H Q, t' σ H Q → t σ H Q) : PE X e t' := ⟨fun pins s σ H Q I q => h.run pins s σ H Q I (f σ H Q q)⟩
theorem PT.imp {t t' : TT} (h : PT X e t) (f : ∀ σ H Q, t' σ H Q → t σ H Q) : PT X e t' := ⟨fun pins s σ H Q I q => h.run pins s σ H Q I (f σ H Q q)⟩
theorem PW.imp {t t' : TT} (h : PW X e t) (f : ∀ σ H Q, t' σ H Q → t σ H Q) : PW X e t' := ⟨fun wh pins s σ H Q I q => h.run wh pins s σ H Q I (f σ H Q q)⟩
theorem PE.or {t t' : TE} (h : PE X e t) (h' : PE X e t') : PE X e (fun σ H Q => t σ H Q ∨ t' σ H Q) := ⟨fun pins s σ H Q I q => q.elim (h.run pins s σ H Q I) (h'.run pins s σ H Q I)⟩
theorem PA.imp {es : List Expr} {t t' : TA} (h : PA X es t) (f : ∀ σ H Q, t' σ H Q → t σ H Q) : PA X es t' := ⟨fun pos pins s σ H Q I q => h.run pos pins s σ H Q I (f σ H Q q)⟩
theorem PI.imp {tg : Expr} {t t' : TI} (h : PI X tg e t) (f : ∀ σ H R, t' σ H R → t σ H R) : PI X tg e t' := ⟨fun pins s σ H R I q => h.run pins s σ H R I (f σ H R q)⟩
theorem PI.or {tg : Expr} {t t' : TI} (h : PI X tg e t) (h' : PI X tg e t') : PI X tg e (fun σ H R => t σ H R ∨ t' σ H R) := ⟨fun pins s σ H R I q => q.elim (h.run pins s σ H R I) (h'.run pins s σ H R I)⟩
theorem PS.imp {st : Stmt} {t t' : TS} (h : PS X st t) (f : ∀ D σ H, t' D σ H → t D σ H) : PS X st t' := ⟨fun pins s σ H D I q => h.run pins s σ H D I (f D σ H q)⟩
theorem PSs.imp {st : List Stmt} {t t' : TS} (h : PSs X st t) (f : ∀ D σ H, t' D σ H → t D σ H) : PSs X st t' := ⟨fun pins s σ H D I q => h.run pins s σ H D I (f D σ H q)⟩
theorem PS.or {st : Stmt} {t t' : TS} (h : PS X st t) (h' : PS X st t') : PS X st (fun D σ H => t D σ H ∨ t' D σ H) := ⟨fun pins s σ H D I q => q.elim (h.run pins s σ H D I) (h'.run pins s σ H D I)⟩
theorem OpR.imp {f : Value → Value → Sem Value} {r r' : R2} (h : OpR X f r) (g : ∀ x y H Q, r' x y H Q → r x y H Q) : OpR X f r' := fun pins s σ H x y v u Q I rx ry q => h pins s σ H x y v u Q I rx ry (g _ _ _ _ q)
theorem CallR.imp {f : Value} {r r' : List V → Hp → VK → Prop} (h : CallR X f r) (g : ∀ xs H Q, r' xs H Q → r xs H Q) : CallR X f r' := fun pins s σ H xs us Q I rs q => h pins s σ H xs us Q I rs (g _ _ _ q)
theorem MtR.imp {id : String} {r r' : V → List V → Hp → VK → Prop} (h : MtR X id r) (g : ∀ x xs H Q, r' x xs H Q → r x xs H Q) : MtR X id r' := fun pins s σ H x xs v us Q I rx rs q => h pins s σ H x xs v us Q I rx rs (g _ _ _ _ q)
theorem IxR.imp {r r' : R2} (h : IxR X r) (g : ∀ x y H Q, r' x y H Q → r x y H Q) : IxR X r' := fun a b pins s σ H x y v u Q I rx ry q => h a b pins s σ H x y v u Q I rx ry (g _ _ _ _ q)
end
def r2S (K : PySem.W.Frag) (f : RV → RV → Option RV) : R2 := fun x y H Q => ∃ F a b r, Same F H ∧ View K F H x a ∧ View K F H y b ∧ f a b = some r ∧ ∀ v F' H', Ext F H F' H' → View K F' H' v r → New r v H H' → Q v H'
inductive Views (K : PySem.W.Frag) (F H : Hp) : List V → List RV → Prop
  | nil : Views K F H [] []
  | cons {v : V} {vs : List V} {r : RV} {rs : List RV} : View K F H v r → Views K F H vs rs → Views K F H (v :: vs) (r :: rs)
def rnS (K : PySem.W.Frag) (f : List RV → Option RV) : List V → Hp → VK → Prop := fun xs H Q => ∃ F rs r, Same F H ∧ Views K F H xs rs ∧ f rs = some r ∧ ∀ v F' H', Ext F H F' H' → View K F' H' v r → New r v H H' → Q v H'
section
variable {K : PySem.W.Frag} {F H : Hp} {x : V}
theorem View.int {i : Int} (h : View K F H x (.fz (.int i))) : x = .int i := by
  cases h with
  | fz q => cases q; rfl
  | own _ _ q => cases q
theorem View.str {i : Str} (h : View K F H x (.fz (.str i))) : x = .str i := by
  cases h with
  | fz q => cases q; rfl
  | own _ _ q => cases q
theorem View.bool {i : Bool} (h : View K F H x (.fz (.bool i))) : x = .bl i := by
  cases h with
  | fz q => cases q; rfl
  | own _ _ q => cases q
theorem View.none (h : View K F H x (.fz .none)) : x = .non := by
  cases h with
  | fz q => cases q; rfl
  | own _ _ q => cases q
theorem View.rpF {d : PyData} (h : View K F H x (.fz d)) : Rp K F x d := by
  cases h with
  | fz q => exact q
  | own _ _ q => cases q
theorem Rp.intv {i : Int} (h : Rp K F x (.int i)) : x = .int i := by cases h; rfl
theorem Rp.strv {i : Str} (h : Rp K F x (.str i)) : x = .str i := by cases h; rfl
theorem Rp.nonv (h : Rp K F x .none) : x = .non := by cases h; rfl
theorem View.lstv (s : Same F H) {r : RV} {ds : List PyData} (h : View K F H x r) (e : r.lst = some ds) : ∃ p vs, x = .ref p ∧ H p = some (.lst vs) ∧ RpAll K F vs ds := by
  cases h with
  | fz q =>
    cases q <;> simp only [RV.lst] at e <;> cases e
    rename_i hF ra
    exact ⟨_, _, rfl, s _ _ hF, ra⟩
  | own f h q =>
    cases q <;> simp only [RV.lst] at e <;> cases e
    exact ⟨_, _, rfl, h, by assumption⟩
theorem View.seqv (s : Same F H) {r : RV} {ds : List PyData} (h : View K F H x r) (e : r.seq = some ds) : ∃ p vs, x = .ref p ∧ (SqL K H p vs ∨ SqT K H p vs) ∧ RpAll K F vs ds := by
  cases h with
  | fz q =>
    cases q with
    | lst hF ra => simp only [RV.seq] at e; cases e; exact ⟨_, _, rfl, .inl (SqL.of (s _ _ hF)), ra⟩
    | tup hF ra => simp only [RV.seq] at e; cases e; exact ⟨_, _, rfl, .inr (Same.sqT s hF.sqT), ra⟩
    | scr hF => simp only [RV.seq] at e; cases e; exact ⟨_, _, rfl, .inl (s.seq hF), .ofInts _⟩
    | _ => simp [RV.seq] at e
  | own f h q =>
    cases q <;> simp only [RV.seq] at e <;> cases e
    exact ⟨_, _, rfl, .inl (SqL.of h), by assumption⟩
end
theorem intsOf_eq : ∀ {ds : List PyData} {ns : List Int}, intsOf ds = some ns → ds = ns.map PyData.int
  | [], ns, h => by cases h; rfl
  | d :: r, ns, h => by
    cases d <;> simp only [intsOf] at h <;> try cases h
    obtain ⟨m, hm, rfl⟩ := mpd h
    rw [intsOf_eq hm]; rfl
def RpO (K : PySem.W.Frag) (F : Hp) : Option V → Option PyData → Prop
  | some v, some d => Rp K F v d
  | none, none => True
  | _, _ => False
theorem intsOf_map : ∀ ns : List Int, intsOf (ns.map PyData.int) = some ns
  | [] => rfl
  | n :: r => by rw [List.map_cons, intsOf, intsOf_map r]; rfl
section
variable {K : PySem.W.Frag} {F H : Hp} {x : V}
theorem Rp.intv0 {i : Int} (h : Rp K F x (.int i)) : x = .int i := by cases h; rfl
theorem View.dk (s : Same F H) {r : RV} {rest : List (PyData × PyData)} (h : View K F H x r) (e : r.dic = some ((.none, .bool false) :: rest)) : ∃ a o kvs ds, x = .ref a ∧ H a = some (dkO a o kvs) ∧ RpAll K F (kvs.map fun x => x.2) ds ∧ rest = ((kvs.map fun x => x.1).map PyData.int).zip ds := by
  cases h with
  | fz q =>
    cases q with
    | dK hF ra =>
      cases e
      exact ⟨_, _, _, _, rfl, s _ _ hF, ra, rfl⟩
    | _ => cases e
  | own f h q =>
    cases q <;> simp only [RV.dic] at e <;> cases e
    exact ⟨_, _, _, _, rfl, h, by assumption, rfl⟩
theorem View.dt (s : Same F H) {r : RV} {rest : List (PyData × PyData)} (h : View K F H x r) (e : r.dic = some ((.none, .bool true) :: rest)) : ∃ a o kvs ds, x = .ref a ∧ H a = some (dtO a o kvs) ∧ KeysN K F kvs ∧ RpAll K F (kvs.map fun x => x.2.2) ds ∧ rest = ((kvs.map fun x => x.1).map keyT).zip ds := by
  cases h with
  | fz q =>
    cases q <;> simp only [RV.dic] at e <;> cases e
    rename_i hF kn ra
    exact ⟨_, _, _, _, rfl, s _ _ hF, kn, ra, rfl⟩
  | own f h q =>
    cases q <;> simp only [RV.dic] at e <;> cases e
    exact ⟨_, _, _, _, rfl, h, by assumption, by assumption, rfl⟩
theorem look_k {i : Int} : ∀ {kvs : List (Int × V)} {ds : List PyData}, RpAll K F (kvs.map fun x => x.2) ds → RpO K F (valV kvs i) (lookD (fun z => eqI z i) (((kvs.map fun x => x.1).map PyData.int).zip ds))
  | [], _, _ => True.intro
  | p :: r, [], h => by cases h
  | p :: r, d :: ds, .cons h t => by
    have ih := look_k (i := i) t
    unfold valV lookD at ih ⊢
    rw [List.map_cons, List.map_cons, List.zip_cons_cons, List.find?_cons, List.find?_cons]
    show RpO K F (Option.map _ (match decide (p.1 = i) with | true => some p | false => _)) (Option.map _ (match eqI (.int p.1) i with | true => some (PyData.int p.1, d) | false => _))
    have e : eqI (.int p.1) i = decide (p.1 = i) := rfl
    rw [e]
    cases decide (p.1 = i) with
    | true => exact h
    | false => exact ih
theorem eqT_key (k k' : List Int) : eqT (keyT k) k' = decide (k = k') := by
  show decide (intsOf (k.map PyData.int) = some k') = _
  rw [intsOf_map]
  by_cases e : k = k'
  · subst e; simp
  · simp [e]
theorem look_t {i : List Int} : ∀ {kvs : TK} {ds : List PyData}, RpAll K F (kvs.map fun x => x.2.2) ds → RpO K F ((valT kvs i).map fun z => z.2) (lookD (fun z => eqT z i) (((kvs.map fun x => x.1).map keyT).zip ds))
  | [], _, _ => True.intro
  | p :: r, [], h => by cases h
  | p :: r, d :: ds, .cons h t => by
    have ih := look_t (i := i) t
    unfold valT lookD at ih ⊢
    rw [List.map_cons, List.map_cons, List.zip_cons_cons, List.find?_cons, List.find?_cons]
    show RpO K F (Option.map _ (Option.map _ (match decide (p.1 = i) with | true => some p | false => _))) (Option.map _ (match eqT (keyT p.1) i with | true => some (keyT p.1, d) | false => _))
    rw [eqT_key]
    cases decide (p.1 = i) with
    | true => exact h
    | false => exact ih
theorem RpO.isSome {o : Option V} {d : Option PyData} (h : RpO K F o d) : o.isSome = d.isSome := by
  cases o <;> cases d <;> first | rfl | exact h.elim
theorem View.got (s : Same F H) {r : RV} {kvs' : List (PyData × PyData)} {y : V} {k : PyData} {od : Option PyData} (h : View K F H x r) (e : r.dic = some kvs') (ry : Rp K F y k) (g : dGet kvs' k = some od) :
    (∃ a o kvs i, x = .ref a ∧ y = .int i ∧ H a = some (dkO a o kvs) ∧ RpO K F (valV kvs i) od) ∨
    ∃ a o kvs b ks, x = .ref a ∧ y = .ref b ∧ H a = some (dtO a o kvs) ∧ KeysN K F kvs ∧ TupN K F b (ks.map V.int) ∧ RpO K F ((valT kvs ks).map fun z => z.2) od := by
  unfold dGet at g
  split at g
  · rename_i rest i
    cases g
    obtain ⟨a, o, kvs, ds, rfl, ha, ra, rfl⟩ := h.dk s e
    obtain rfl := ry.intv0
    exact .inl ⟨a, o, kvs, i, rfl, rfl, ha, look_k ra⟩
  · rename_i rest dk
    obtain ⟨ks, hk, rfl⟩ := mpd g
    obtain ⟨a, o, kvs, ds, rfl, ha, kn, ra, rfl⟩ := h.dt s e
    obtain rfl := intsOf_eq hk
    cases ry with
    | tup ta rt =>
      obtain rfl := rt.ints
      exact .inr ⟨a, o, kvs, _, ks, rfl, rfl, ha, kn, ta, look_t ra⟩
  · cases g
end
section
variable {X : Cx}
theorem newFz {d : PyData} {v : V} {H H' : Hp} : New (.fz d) v H H' := fun _ h => h.elim
theorem newOl {ds : List PyData} {p : Addr} {H H' : Hp} (h : H p = none) : New (.ol ds) (.ref p) H H' := fun q e => by cases e; exact h
theorem viewNew {K : PySem.W.Frag} {F H : Hp} {p : Addr} {vs : List V} {ds : List PyData} (s : Same F H) (n : H p = none) (r : RpAll K F vs ds) : Ext F H F (upd H p (.lst vs)) ∧ View K F (upd H p (.lst vs)) (.ref p) (.ol ds) :=
  ⟨Ext.lay0 s n, .own (s.free n) upd_same (.lst r)⟩
theorem viewTup {K : PySem.W.Frag} {F H : Hp} {p : Addr} {o : Obj} {vs : List V} {ds : List PyData} (s : Same F H) (q : TupO o) (n : H p = none) (r : RpAll K F vs ds) : Ext F H (upd F p (.frz o (.tup vs))) (upd H p (.frz o (.tup vs))) ∧ View K (upd F p (.frz o (.tup vs))) (upd H p (.frz o (.tup vs))) (.ref p) (.fz (.tuple ds)) :=
  ⟨Ext.lay s n, .fz (.tup (TupN.of q upd_same) (r.mono (Same.upd (s.free n))))⟩
theorem r_add : OpR X (binaryOp .Add) (r2S X.K (binD .add)) := by
  intro pins s σ H x y v u Q I rx ry h
  obtain ⟨F, a, b, r, sf, wa, wb, h, k⟩ := h
  have h : addD a b = some r := h
  unfold addD at h
  split at h
  all_goals first
    | (cases h; done)
    | skip
  · cases h
    obtain rfl := wa.int
    obtain rfl := wb.int
    exact op_add pins s σ H _ _ v u Q I rx ry ⟨_, _, rfl, rfl, k _ F H (.refl sf) (.fz (.int _)) newFz⟩
  · obtain ⟨hl, rfl⟩ := itd h
    obtain rfl := wa.str
    obtain rfl := wb.str
    exact op_add_str pins s σ H _ _ v u Q I rx ry ⟨_, _, rfl, rfl, LIM_ok hl, k _ F H (.refl sf) (.fz (.str _)) newFz⟩
  · obtain ⟨hl, rfl⟩ := itd h
    cases wa.rpF with
    | tup ta ra =>
      cases wb.rpF with
      | tup tb rb =>
        refine op_catN pins s σ H _ _ v u Q I rx ry ⟨_, _, _, _, rfl, rfl, Same.sqT sf ta.sqT, Same.sqT sf tb.sqT, ?_, fun e => ?_, fun _ e => ?_, fun _ _ p o qo n => ?_⟩
        · rw [ra.length, rb.length]; exact LIM_ok hl
        · subst e; cases ra; exact k _ F H (.refl sf) (.fz (.tup tb rb)) newFz
        · subst e; cases rb
          rw [List.append_nil] at k
          exact k _ F H (.refl sf) (.fz (.tup ta ra)) newFz
        · obtain ⟨x1, w1⟩ := viewTup (K := X.K) sf qo n (ra.append rb)
          exact k _ _ _ x1 w1 newFz
  all_goals
    obtain ⟨hl, rfl⟩ := itd h
    obtain ⟨p, vs, rfl, hp, rp⟩ := wa.lstv sf rfl
    obtain ⟨q, ws, rfl, hq, rq⟩ := wb.lstv sf rfl
    refine op_cat pins s σ H _ _ v u Q I rx ry ⟨_, _, _, _, rfl, rfl, hp, hq, by rw [rp.length, rq.length]; exact LIM_ok hl, fun p n => ?_⟩
    obtain ⟨x1, w1⟩ := viewNew (K := X.K) sf n (rp.append rq)
    exact k _ _ _ x1 w1 (newOl n)
theorem smallI_ok {i j : Int} (h : (smallI i || smallI j) = true) : CMul i j := by
  simp only [smallI, Bool.or_eq_true, Bool.and_eq_true, decide_eq_true_eq] at h
  rcases h with ⟨h1, h2⟩ | ⟨h1, h2⟩
  · exact .inl ⟨by omega, by omega⟩
  · exact .inr ⟨by omega, by omega⟩
theorem r_mul : OpR X (binaryOp .Mult) (r2S X.K (binD .mul)) := by
  intro pins s σ H x y v u Q I rx ry h
  obtain ⟨F, a, b, r, sf, wa, wb, h, k⟩ := h
  have h : mulD a b = some r := h
  unfold mulD at h
  split at h
  all_goals first
    | (cases h; done)
    | skip
  · obtain ⟨hl, rfl⟩ := itd h
    obtain rfl := wa.int
    obtain rfl := wb.int
    exact op_mul pins s σ H _ _ v u Q I rx ry ⟨_, _, rfl, rfl, smallI_ok hl, k _ F H (.refl sf) (.fz (.int _)) newFz⟩
  · obtain ⟨⟨h1, h2, h3⟩, rfl⟩ := itd h
    cases wa.rpF with
    | tup ta ra =>
      obtain rfl := wb.int
      refine op_repA pins s σ H _ _ v u Q I rx ry ⟨_, _, _, rfl, rfl, Same.sqT sf ta.sqT, h1, h2, by rw [ra.length]; exact h3, fun e => ?_, fun _ p o qo n => ?_⟩
      · rcases e with rfl | rfl
        · cases ra
          rename_i kk _ _
          have e0 : (List.replicate kk.toNat ([] : List PyData)).flatten = [] := by
            generalize kk.toNat = m
            induction m with
            | zero => rfl
            | succ m ih => rw [List.replicate_succ, List.flatten_cons, ih]; rfl
          rw [e0] at k
          exact k _ F H (.refl sf) (.fz (.tup ta .nil)) newFz
        · have e1 : ∀ ys : List PyData, (List.replicate (1 : Int).toNat ys).flatten = ys := fun ys => List.append_nil ys
          rw [e1] at k
          exact k _ F H (.refl sf) (.fz (.tup ta ra)) newFz
      · obtain ⟨x1, w1⟩ := viewTup (K := X.K) sf qo n (ra.rep _)
        exact k _ _ _ x1 w1 newFz
  all_goals
    obtain ⟨⟨h1, h2, h3⟩, rfl⟩ := itd h
    obtain ⟨p, vs, rfl, hp, rp⟩ := wa.lstv sf rfl
    obtain rfl := wb.int
    refine op_rep pins s σ H _ _ v u Q I rx ry ⟨_, _, _, rfl, rfl, hp, by omega, by omega, by rw [rp.length]; exact LIM_ok h3, fun p n => ?_⟩
    obtain ⟨x1, w1⟩ := viewNew (K := X.K) sf n (rp.rep _)
    exact k _ _ _ x1 w1 (newOl n)
theorem r_sub : OpR X (binaryOp .Sub) (r2S X.K (binD .sub)) := by
  intro pins s σ H x y v u Q I rx ry h
  obtain ⟨F, a, b, r, sf, wa, wb, h, k⟩ := h
  have h : subD a b = some r := h
  unfold subD at h
  split at h
  all_goals first
    | (cases h; done)
    | skip
  cases h
  obtain rfl := wa.int
  obtain rfl := wb.int
  exact op_sub pins s σ H _ _ v u Q I rx ry ⟨_, _, rfl, rfl, k _ F H (.refl sf) (.fz (.int _)) newFz⟩
theorem r_fdiv : OpR X (binaryOp .FloorDiv) (r2S X.K (binD .fdiv)) := by
  intro pins s σ H x y v u Q I rx ry h
  obtain ⟨F, a, b, r, sf, wa, wb, h, k⟩ := h
  have h : fdivD a b = some r := h
  unfold fdivD at h
  split at h
  all_goals first
    | (cases h; done)
    | skip
  obtain ⟨⟨h1, h2⟩, rfl⟩ := itd h
  obtain rfl := wa.int
  obtain rfl := wb.int
  exact op_fdiv pins s σ H _ _ v u Q I rx ry ⟨_, _, rfl, rfl, ⟨h1, h2⟩, k _ F H (.refl sf) (.fz (.int _)) newFz⟩
theorem r_mod : OpR X (binaryOp .Mod) (r2S X.K (binD .mod)) := by
  intro pins s σ H x y v u Q I rx ry h
  obtain ⟨F, a, b, r, sf, wa, wb, h, k⟩ := h
  have h : modD a b = some r := h
  unfold modD at h
  split at h
  all_goals first
    | (cases h; done)
    | skip
  obtain ⟨h1, rfl⟩ := itd h
  obtain rfl := wa.int
  obtain rfl := wb.int
  exact op_mod pins s σ H _ _ v u Q I rx ry ⟨_, _, rfl, rfl, h1, k _ F H (.refl sf) (.fz (.int _)) newFz⟩
theorem r_pow : OpR X (binaryOp .Pow) (r2S X.K (binD .pow)) := by
  intro pins s σ H x y v u Q I rx ry h
  obtain ⟨F, a, b, r, sf, wa, wb, h, k⟩ := h
  have h : powD a b = some r := h
  unfold powD at h
  split at h
  all_goals first
    | (cases h; done)
    | skip
  obtain ⟨⟨h1, h2, h3⟩, rfl⟩ := itd h
  obtain rfl := wa.int
  obtain rfl := wb.int
  exact op_pow pins s σ H _ _ v u Q I rx ry ⟨_, _, rfl, rfl, ⟨h1, h2, by omega⟩, k _ F H (.refl sf) (.fz (.int _)) newFz⟩
def boO : Bo → Operator
  | .add => .Add
  | .sub => .Sub
  | .mul => .Mult
  | .fdiv => .FloorDiv
  | .mod => .Mod
  | .pow => .Pow
theorem r_bin : ∀ o : Bo, OpR X (binaryOp (boO o)) (r2S X.K (binD o))
  | .add => r_add
  | .sub => r_sub
  | .mul => r_mul
  | .fdiv => r_fdiv
  | .mod => r_mod
  | .pow => r_pow
def r2C (K : PySem.W.Frag) (f : PyData → PyData → Option Bool) : R2 := fun x y H Q => ∃ d e k, Rp K H x d ∧ Rp K H y e ∧ f d e = some k ∧ Q (.bl k) H
def coO : Co → CmpOp
  | .eq => .Eq
  | .ne => .NotEq
  | .lt => .Lt
  | .le => .LtE
  | .gt => .Gt
  | .ge => .GtE
  | .isN => .Is
  | .noN => .IsNot
  | .inn => .In
  | .nin => .NotIn
theorem shp {d : PyData} (h : SeqAt.shaped d = true) : d.canLay0 = true := SeqAt.canLay_of_shaped h
theorem ints_t {K : PySem.W.Frag} {F : Hp} : ∀ {kvs : TK} {ds : List PyData}, RpAll K F (kvs.map fun x => x.2.2) ds → ((((kvs.map fun x => x.1).map keyT).zip ds).all fun p => isIntD p.2) = true → IntsT kvs
  | [], _, _, _ => fun x hx => by simp at hx
  | p :: r, d :: ds, .cons h t, e => by
    simp only [List.map_cons, List.zip_cons_cons, List.all_cons, Bool.and_eq_true] at e
    intro x hx
    rcases List.mem_cons.mp hx with rfl | hx
    · cases d <;> simp [isIntD] at e
      exact ⟨_, h.intv0⟩
    · exact ints_t t e.2 x hx
theorem same_v {K : PySem.W.Frag} {F : Hp} {v : V} {i : Int} {d : PyData} {o : Option V} {od : Option PyData} (h : Rp K F v d) (e : v = .int i) (r : RpO K F o od) : sameV v o = sameD d od := by
  subst e
  cases h
  cases o with
  | none => cases od with
    | none => rfl
    | some _ => exact r.elim
  | some w => cases od with
    | none => exact r.elim
    | some d2 =>
      have r : Rp K F w d2 := r
      cases r <;> rfl
theorem teq_d {K : PySem.W.Frag} {F : Hp} {kb : TK} {es : List PyData} (rb : RpAll K F (kb.map fun x => x.2.2) es) : ∀ {ka : TK} {ds : List PyData}, RpAll K F (ka.map fun x => x.2.2) ds → IntsT ka → teqV ka kb = teqD (((ka.map fun x => x.1).map keyT).zip ds) (((kb.map fun x => x.1).map keyT).zip es)
  | [], _, _, _ => rfl
  | p :: r, d :: ds, .cons h t, hi => by
    have ih := teq_d rb t fun x hx => hi x (by simp [hx])
    unfold teqV teqD at ih ⊢
    rw [List.map_cons, List.map_cons, List.zip_cons_cons, List.all_cons, List.all_cons, ih]
    congr 1
    obtain ⟨i, e⟩ := hi p (by simp)
    show _ = match intsOf (p.1.map PyData.int) with | some k => _ | none => _
    rw [intsOf_map]
    exact same_v h e (look_t rb)
theorem eq_dict {K : PySem.W.Frag} {H : Hp} {x y : V} {d e : PyData} {b : Bool} (hd : Rp K H x d) (he : Rp K H y e) (h : eqDict d e = some b) : ∃ a b' o o' ka kb, x = V.ref a ∧ y = V.ref b' ∧ H a = some (dtO a o ka) ∧ H b' = some (dtO b' o' kb) ∧ KeysN K H ka ∧ KeysN K H kb ∧ IntsT ka ∧ IntsT kb ∧ (ka.length == kb.length && teqV ka kb) = b := by
  unfold eqDict at h
  split at h
  · obtain ⟨hi, rfl⟩ := itd h
    rw [Bool.and_eq_true] at hi
    obtain ⟨a, o, ka, ds, rfl, ha, na, ra, rfl⟩ := (View.fz (H := H) hd).dt (Same.refl _) rfl
    obtain ⟨b, o', kb, es, rfl, hb, nb, rb, rfl⟩ := (View.fz (H := H) he).dt (Same.refl _) rfl
    have ia := ints_t ra hi.1
    have ib := ints_t rb hi.2
    refine ⟨a, b, o, o', ka, kb, rfl, rfl, ha, hb, na, nb, ia, ib, ?_⟩
    have l1 := ra.length
    have l2 := rb.length
    rw [List.length_map] at l1 l2
    rw [teq_d rb ra ia, List.length_zip, List.length_zip, List.length_map, List.length_map, List.length_map, List.length_map, ← l1, ← l2, Nat.min_self, Nat.min_self]
  · cases h
theorem r_eq (hu : X.A.units + 64 < cLine) : OpR X (compareOp .Eq) (r2C X.K (cmpD .eq)) := by
  intro pins s σ H x y v u Q I rx ry h
  obtain ⟨d, e, k, hd, he, h, q⟩ := h
  have h : (match eqDict d e with | some b => some b | none => if SeqAt.shaped d && SeqAt.shaped e then some (PyData.eqv d e) else none) = some k := h
  cases z : eqDict d e with
  | some b =>
    rw [z] at h
    cases h
    obtain ⟨a, b', o, o', ka, kb, rfl, rfl, h1, h2, h3, h4, h5, h6, h7⟩ := eq_dict hd he z
    exact op_eq_tk (by omega) pins s σ H _ _ v u Q I rx ry ⟨a, b', o, o', ka, kb, rfl, rfl, h1, h2, h3, h4, h5, h6, by rw [h7]; exact q⟩
  | none =>
    rw [z] at h
    obtain ⟨hl, rfl⟩ := itd h
    rw [Bool.and_eq_true] at hl
    exact op_eqD hu pins s σ H _ _ v u Q I rx ry ⟨d, e, hd.dp (shp hl.1), he.dp (shp hl.2), hl.1, hl.2, q⟩
theorem r_ne (hu : X.A.units + 64 < cLine) : OpR X (compareOp .NotEq) (r2C X.K (cmpD .ne)) := by
  intro pins s σ H x y v u Q I rx ry h
  obtain ⟨d, e, k, hd, he, h, q⟩ := h
  have h : (match eqDict d e with | some b => some (!b) | none => if SeqAt.shaped d && SeqAt.shaped e then some (!PyData.eqv d e) else none) = some k := h
  cases z : eqDict d e with
  | some b =>
    rw [z] at h
    cases h
    obtain ⟨a, b', o, o', ka, kb, rfl, rfl, h1, h2, h3, h4, h5, h6, h7⟩ := eq_dict hd he z
    exact op_ne_tk (by omega) pins s σ H _ _ v u Q I rx ry ⟨a, b', o, o', ka, kb, rfl, rfl, h1, h2, h3, h4, h5, h6, by rw [h7]; exact q⟩
  | none =>
    rw [z] at h
    obtain ⟨hl, rfl⟩ := itd h
    rw [Bool.and_eq_true] at hl
    exact op_neD hu pins s σ H _ _ v u Q I rx ry ⟨d, e, hd.dp (shp hl.1), he.dp (shp hl.2), hl.1, hl.2, q⟩
theorem boolsOf_eq : ∀ {ds : List PyData} {ns : List Bool}, boolsOf ds = some ns → ds = ns.map PyData.bool
  | [], ns, h => by cases h; rfl
  | d :: r, ns, h => by
    cases d <;> simp only [boolsOf] at h <;> try cases h
    obtain ⟨m, hm, rfl⟩ := mpd h
    rw [boolsOf_eq hm]; rfl
theorem r_lt (hu : X.A.units < cLine) : OpR X (compareOp .Lt) (r2C X.K (cmpD .lt)) := by
  intro pins s σ H x y v u Q I rx ry h
  obtain ⟨d, e, k, hd, he, h, q⟩ := h
  have h : ltD d e = some k := h
  unfold ltD at h
  split at h
  · cases h
    obtain rfl := hd.intv
    obtain rfl := he.intv
    exact op_lt pins s σ H _ _ v u Q I rx ry ⟨_, _, rfl, rfl, q⟩
  · obtain ⟨ns, h1, h⟩ := bnd h
    obtain ⟨ms, h2, h⟩ := bnd h
    cases h
    obtain rfl := intsOf_eq h1
    obtain rfl := intsOf_eq h2
    cases hd with
    | tup ta ra =>
      cases he with
      | tup tb rb =>
        obtain rfl := ra.ints
        obtain rfl := rb.ints
        exact op_ltT hu pins s σ H _ _ v u Q I rx ry ⟨_, _, _, _, rfl, rfl, ta.sqT, tb.sqT, q⟩
  · cases h
theorem ordD_int {f : Int → Int → Bool} {d e : PyData} {k : Bool} (h : ordD f d e = some k) : ∃ i j, d = .int i ∧ e = .int j ∧ f i j = k := by
  unfold ordD at h
  split at h
  · exact ⟨_, _, rfl, rfl, Option.some.inj h⟩
  · cases h
theorem r_le : OpR X (compareOp .LtE) (r2C X.K (cmpD .le)) := by
  intro pins s σ H x y v u Q I rx ry h
  obtain ⟨d, e, k, hd, he, h, q⟩ := h
  obtain ⟨i, j, rfl, rfl, rfl⟩ := ordD_int h
  obtain rfl := hd.intv
  obtain rfl := he.intv
  exact op_le pins s σ H _ _ v u Q I rx ry ⟨_, _, rfl, rfl, q⟩
theorem r_gt : OpR X (compareOp .Gt) (r2C X.K (cmpD .gt)) := by
  intro pins s σ H x y v u Q I rx ry h
  obtain ⟨d, e, k, hd, he, h, q⟩ := h
  obtain ⟨i, j, rfl, rfl, rfl⟩ := ordD_int h
  obtain rfl := hd.intv
  obtain rfl := he.intv
  exact op_gt pins s σ H _ _ v u Q I rx ry ⟨_, _, rfl, rfl, q⟩
theorem r_ge : OpR X (compareOp .GtE) (r2C X.K (cmpD .ge)) := by
  intro pins s σ H x y v u Q I rx ry h
  obtain ⟨d, e, k, hd, he, h, q⟩ := h
  obtain ⟨i, j, rfl, rfl, rfl⟩ := ordD_int h
  obtain rfl := hd.intv
  obtain rfl := he.intv
  exact op_ge pins s σ H _ _ v u Q I rx ry ⟨_, _, rfl, rfl, q⟩
theorem non_dec {K : PySem.W.Frag} {H : Hp} {x : V} {d : PyData} (h : Rp K H x d) : decide (x = .non) = isNone d := by
  cases h <;> simp [isNone]
theorem r_isN : OpR X (compareOp .Is) (r2C X.K (cmpD .isN)) := by
  intro pins s σ H x y v u Q I rx ry h
  obtain ⟨d, e, k, hd, he, h, q⟩ := h
  by_cases hb : ∃ a b, d = .bool a ∧ e = .bool b
  · obtain ⟨a, b, rfl, rfl⟩ := hb
    cases hd
    cases he
    cases rx
    cases ry
    cases a <;> cases b <;> cases h <;> exact wpAny_bind (wpAny_isSame_plain rfl (wpAny_pure (fin_bl I q rfl)))
  have h : e = .none ∧ some (isNone d) = some k := by
    cases e <;> first
      | exact ⟨rfl, by cases d <;> exact h⟩
      | (cases d <;> first | (cases h; done) | exact absurd ⟨_, _, rfl, rfl⟩ hb)
  obtain ⟨rfl, h⟩ := h
  cases h
  obtain rfl := he.nonv
  exact op_isN pins s σ H _ _ v u Q I rx ry ⟨rfl, by rw [non_dec hd]; exact q⟩
theorem r_noN : OpR X (compareOp .IsNot) (r2C X.K (cmpD .noN)) := by
  intro pins s σ H x y v u Q I rx ry h
  obtain ⟨d, e, k, hd, he, h, q⟩ := h
  by_cases hb : ∃ a b, d = .bool a ∧ e = .bool b
  · obtain ⟨a, b, rfl, rfl⟩ := hb
    cases hd
    cases he
    cases rx
    cases ry
    cases a <;> cases b <;> cases h <;> exact wpAny_bind (wpAny_isSame_plain rfl (wpAny_pure (fin_bl I q rfl)))
  have h : e = .none ∧ some (!isNone d) = some k := by
    cases e <;> first
      | exact ⟨rfl, by cases d <;> exact h⟩
      | (cases d <;> first | (cases h; done) | exact absurd ⟨_, _, rfl, rfl⟩ hb)
  obtain ⟨rfl, h⟩ := h
  cases h
  obtain rfl := he.nonv
  exact op_notN pins s σ H _ _ v u Q I rx ry ⟨rfl, by rw [non_dec hd]; exact q⟩
theorem scal_flat {K : PySem.W.Frag} {H : Hp} {x : V} {d : PyData} (h : Rp K H x d) (s : scalD d = true) : flatV x = true := by
  cases h <;> first | rfl | simp [scalD] at s
theorem eqV_eqv {K : PySem.W.Frag} {H : Hp} {x y : V} {d e : PyData} (h : Rp K H x d) (h' : Rp K H y e) (s : scalD d = true) (s' : scalD e = true) : eqV x y = PyData.eqv d e := by
  cases h <;> first | (simp [scalD] at s; done) | (cases h' <;> first | (simp [scalD] at s'; done) | simp [eqV, PyData.eqv])
theorem inV_eq {K : PySem.W.Frag} {H : Hp} {x : V} {d : PyData} (h : Rp K H x d) (s : scalD d = true) : ∀ {vs : List V} {ds : List PyData}, RpAll K H vs ds → ds.all scalD = true → vs.all flatV = true ∧ inV x vs = ds.any fun z => PyData.eqv z d
  | _, _, .nil, _ => ⟨rfl, rfl⟩
  | _, _, .cons r t, e => by
    rw [List.all_cons, Bool.and_eq_true] at e
    obtain ⟨h1, h2⟩ := inV_eq h s t e.2
    refine ⟨by rw [List.all_cons, scal_flat r e.1, h1]; rfl, ?_⟩
    show ((_ :: _).any fun y => eqV y x) = _
    rw [List.any_cons, List.any_cons, eqV_eqv r h e.1 s]
    exact congrArg _ h2
theorem str1 {z : Str} (h : z.cps.size = 1) : z = ⟨#[z.cps.getD 0 0]⟩ := by
  obtain ⟨⟨l⟩⟩ := z
  match l, h with
  | [c], _ => rfl
theorem r_inn (hu : X.A.units + 65 < cLine) : OpR X (compareOp .In) (r2C X.K (cmpD .inn)) := by
  intro pins s σ H x y v u Q I rx ry h
  obtain ⟨d, e, k, hd, he, h, q⟩ := h
  have h : inD d e = some k := h
  unfold inD at h
  split at h
  · obtain ⟨od, g, rfl⟩ := mpd h
    rcases (View.fz (H := H) he).got (Same.refl _) rfl hd g with ⟨a, o, kvs, i, e1, e2, ha, ro⟩ | ⟨a, o, kvs, b, ks, e1, e2, ha, kn, tb, ro⟩
    · exact op_in_dk pins s σ H _ _ v u Q I rx ry ⟨a, o, kvs, i, e1, e2, ha, by rw [ro.isSome]; exact q⟩
    · exact op_in_tk (by omega) pins s σ H _ _ v u Q I rx ry ⟨a, o, kvs, b, ks, e1, e2, ha, kn, tb, by have := ro.isSome; rw [Option.isSome_map] at this; rw [this]; exact q⟩
  · obtain ⟨hl, rfl⟩ := itd h
    obtain rfl := hd.strv
    obtain rfl := he.strv
    refine op_in_sign pins s σ H _ _ v u Q I rx ry ⟨_, _, ?_, rfl, q⟩
    exact congrArg _ (str1 hl)
  · obtain ⟨hl, rfl⟩ := itd h
    rw [Bool.and_eq_true] at hl
    exact op_inD hu pins s σ H _ _ v u Q I rx ry ⟨_, _, hd.dp (shp hl.1), he.dp (shp hl.2), hl.1, hl.2, q⟩
  · obtain ⟨hl, rfl⟩ := itd h
    rw [Bool.and_eq_true] at hl
    cases he with
    | tup ta ra =>
      obtain ⟨h1, h2⟩ := inV_eq hd hl.1 ra hl.2
      rw [← h2] at q
      exact op_in_seq pins s σ H _ _ v u Q I rx ry ⟨_, _, rfl, .inr ta.sqT, scal_flat hd hl.1, h1, q⟩
  · cases h
theorem r_nin (hu : X.A.units + 65 < cLine) : OpR X (compareOp .NotIn) (r2C X.K (cmpD .nin)) := by
  intro pins s σ H x y v u Q I rx ry h
  obtain ⟨d, e, k, hd, he, h, q⟩ := h
  have h : (inD d e).map not = some k := h
  obtain ⟨k', h', rfl⟩ := mpd h
  unfold inD at h'
  replace h := h'
  split at h
  · obtain ⟨od, g, rfl⟩ := mpd h
    rcases (View.fz (H := H) he).got (Same.refl _) rfl hd g with ⟨a, o, kvs, i, e1, e2, ha, ro⟩ | ⟨a, o, kvs, b, ks, e1, e2, ha, kn, tb, ro⟩
    · exact op_nin_dk pins s σ H _ _ v u Q I rx ry ⟨a, o, kvs, i, e1, e2, ha, by rw [ro.isSome]; exact q⟩
    · exact op_nin_tk (by omega) pins s σ H _ _ v u Q I rx ry ⟨a, o, kvs, b, ks, e1, e2, ha, kn, tb, by have := ro.isSome; rw [Option.isSome_map] at this; rw [this]; exact q⟩
  · obtain ⟨hl, rfl⟩ := itd h
    obtain rfl := hd.strv
    obtain rfl := he.strv
    refine op_notIn_sign pins s σ H _ _ v u Q I rx ry ⟨_, _, ?_, rfl, q⟩
    exact congrArg _ (str1 hl)
  · obtain ⟨hl, rfl⟩ := itd h
    rw [Bool.and_eq_true] at hl
    exact op_notInD hu pins s σ H _ _ v u Q I rx ry ⟨_, _, hd.dp (shp hl.1), he.dp (shp hl.2), hl.1, hl.2, q⟩
  · obtain ⟨hl, rfl⟩ := itd h
    rw [Bool.and_eq_true] at hl
    cases he with
    | tup ta ra =>
      obtain ⟨h1, h2⟩ := inV_eq hd hl.1 ra hl.2
      rw [← h2] at q
      exact op_notIn_seq pins s σ H _ _ v u Q I rx ry ⟨_, _, rfl, .inr ta.sqT, scal_flat hd hl.1, h1, q⟩
  · cases h
theorem r_cmp (hu : X.A.units + 65 < cLine) : ∀ o : Co, OpR X (compareOp (coO o)) (r2C X.K (cmpD o))
  | .eq => r_eq (by omega)
  | .ne => r_ne (by omega)
  | .lt => r_lt (by omega)
  | .le => r_le
  | .gt => r_gt
  | .ge => r_ge
  | .isN => r_isN
  | .noN => r_noN
  | .inn => r_inn hu
  | .nin => r_nin hu
theorem atI_rp {K : PySem.W.Frag} {F : Hp} {vs : List V} {ds : List PyData} {i : Int} {d : PyData} (r : RpAll K F vs ds) (h : atI ds i = some d) : ∃ v, atI vs i = some v ∧ Rp K F v d := by
  unfold atI at h ⊢
  obtain ⟨j, h1, h2⟩ := bnd h
  rw [r.length, h1, Option.bind_some]
  exact r.getD h2
theorem r_ix0 : IxR X (r2S X.K idx0) := by
  intro a b pins s σ H x y v u Q I rx ry h
  obtain ⟨F, a', b', r, sf, wa, wb, h, k⟩ := h
  unfold idx0 at h
  split at h
  · obtain ⟨hl, h⟩ := itd' h
    obtain ⟨c, hc, rfl⟩ := mpd h
    obtain rfl := wa.str
    obtain rfl := wb.int
    exact ix_str a b pins s σ H _ _ v u Q I rx ry ⟨_, _, c, rfl, rfl, LIM_ok hl, hc, k _ F H (.refl sf) (.fz (.str _)) newFz⟩
  · obtain ⟨ds, hds, h⟩ := bnd h
    obtain ⟨d, hd, rfl⟩ := mpd h
    obtain ⟨p, vs, rfl, hp, rp⟩ := wa.seqv sf hds
    obtain rfl := wb.int
    obtain ⟨w, hw, rw'⟩ := atI_rp rp hd
    have q := k w F H (.refl sf) (.fz rw') newFz
    rcases hp with hp | hp
    · exact ix_list a b pins s σ H _ _ v u Q I rx ry ⟨p, vs, _, w, rfl, rfl, hp, hw, q⟩
    · exact ix_tup a b pins s σ H _ _ v u Q I rx ry ⟨p, vs, _, w, rfl, rfl, hp, hw, q⟩
  · cases h
theorem View.frz {K : PySem.W.Frag} {F H : Hp} {x : V} {r : RV} (h : View K F H x r) (o : r.isOwn = false) : Rp K F x r.d := by
  cases h with
  | fz q => exact q
  | own _ _ q => rw [q.isOwn] at o; cases o
theorem r_ix (hu : X.A.units + 1 < cLine) : IxR X (r2S X.K idxD) := by
  intro e1 e2 pins s σ H x y v u Q I rx ry h
  obtain ⟨F, a, b, r, sf, wa, wb, h, k⟩ := h
  unfold idxD at h
  split at h
  · rename_i od g
    by_cases ob : b.isOwn = true
    · rw [if_pos ob] at h; cases h
    · rw [if_neg ob] at h
      obtain ⟨kvs', hk, g⟩ := bnd g
      obtain ⟨d, rfl, rfl⟩ := mpd h
      have ob : b.isOwn = false := by simpa using ob
      rcases wa.got sf hk (wb.frz ob) g with ⟨a, o, kvs, i, e1, e2, ha, ro⟩ | ⟨a, o, kvs, p, ks, e1, e2, ha, kn, tb, ro⟩
      · cases hv : valV kvs i with
        | none => rw [hv] at ro; exact ro.elim
        | some z =>
          rw [hv] at ro
          exact ix_dk _ _ pins s σ H _ _ v u Q I rx ry ⟨a, o, kvs, i, z, e1, e2, ha, hv, k z F H (.refl sf) (.fz ro) newFz⟩
      · cases hv : valT kvs ks with
        | none => rw [hv] at ro; exact ro.elim
        | some z =>
          rw [hv] at ro
          obtain ⟨z0, z⟩ := z
          exact ix_tk hu _ _ pins s σ H _ _ v u Q I rx ry ⟨a, o, kvs, p, ks, z0, z, e1, e2, ha, kn.mono sf, Same.tupN sf tb, hv, k z F H (.refl sf) (.fz ro) newFz⟩
  · exact r_ix0 _ _ pins s σ H _ _ v u Q I rx ry ⟨F, a, b, r, sf, wa, wb, h, k⟩
def rSS (K : PySem.W.Frag) : V → Option Int → Option Int → Hp → VK → Prop := fun x lo hi H Q => ∃ F a r, Same F H ∧ View K F H x a ∧ slcD a lo hi = some r ∧ ∀ v F' H', Ext F H F' H' → View K F' H' v r → New r v H H' → Q v H'
theorem RpAll.cut {K : PySem.W.Frag} {F : Hp} {vs : List V} {ds : List PyData} (r : RpAll K F vs ds) (lo hi : Option Int) : RpAll K F (cutV vs lo hi) (cutD ds lo hi) := by
  unfold cutV cutD
  rw [r.length]
  exact (r.drop _).take _
theorem r_sl : SlR X (rSS X.K) := by
  intro pins s σ H x v vl vu lo hi sl Q I rx hs pl pu h
  obtain ⟨F, a, r, sf, wa, h, k⟩ := h
  unfold slcD at h
  split at h
  · cases h
    obtain ⟨p, vs, rfl, hp, rp⟩ := wa.lstv sf rfl
    refine sl_list pins s σ H _ v vl vu lo hi sl Q I rx hs pl pu ⟨p, vs, rfl, SqL.of hp, fun q n => ?_⟩
    obtain ⟨x1, w1⟩ := viewNew (K := X.K) sf n (rp.cut lo hi)
    exact k _ _ _ x1 w1 (newOl n)
  · cases h
    obtain ⟨p, vs, rfl, hp, rp⟩ := wa.lstv sf rfl
    refine sl_list pins s σ H _ v vl vu lo hi sl Q I rx hs pl pu ⟨p, vs, rfl, SqL.of hp, fun q n => ?_⟩
    obtain ⟨x1, w1⟩ := viewNew (K := X.K) sf n (rp.cut lo hi)
    exact k _ _ _ x1 w1 (newOl n)
  · cases h
    cases wa.rpF with
    | tup ta ra =>
      refine sl_tupN pins s σ H _ v vl vu lo hi sl Q I rx hs pl pu ⟨_, _, rfl, Same.sqT sf ta.sqT, fun e => ?_, fun _ q o qo n => ?_⟩
      · have e2 := ra.cut lo hi
        unfold cutV at e2
        rw [e.1, e.2, Nat.sub_zero, List.drop_zero, List.take_length] at e2
        exact k _ F H (.refl sf) (.fz (.tup ta e2)) newFz
      · obtain ⟨x1, w1⟩ := viewTup (K := X.K) sf qo n (ra.cut lo hi)
        exact k _ _ _ x1 w1 newFz
  · obtain ⟨hl, rfl⟩ := itd h
    obtain rfl := wa.str
    exact sl_str pins s σ H _ v vl vu lo hi sl Q I rx hs pl pu ⟨_, rfl, LIM_ok hl, k _ F H (.refl sf) (.fz (.str _)) newFz⟩
  · cases h
def tyN : Ty → String
  | .int => "int"
  | .bool => "bool"
  | .str => "str"
  | .list => "list"
  | .tuple => "tuple"
  | .dict => "dict"
def dTy : PyData → String
  | .none => "NoneType"
  | .bool _ => "bool"
  | .int _ => "int"
  | .str _ => "str"
  | .list _ => "list"
  | .tuple _ => "tuple"
  | .dict _ => "dict"
theorem kit_isD (d : PyData) (t : Ty) : kitB (dTy d) (tyN t) = some (isD t d) := by
  cases d <;> cases t <;> (simp only [dTy, tyN, isD]; decide +kernel)
theorem rp_ty {K : PySem.W.Frag} {H : Hp} {x : V} {d : PyData} (h : Rp K H x d) (n : notScr d = true) (nr : dRows d = none) : TyX K H x (.type (dTy d)) := by
  cases h with
  | non => exact .base .non
  | bl b => exact .base (.bl b)
  | int i => exact .base (.int i)
  | str z => exact .base (.str z)
  | lst a r => exact .base (.lst a)
  | scr a => simp [notScr] at n
  | xc0 _ _ => simp [notScr] at n
  | xc1 _ _ _ _ => simp [notScr] at n
  | ins _ _ _ _ => simp [notScr] at n
  | tup a r =>
    rcases a.sqT with (a | ⟨o, a⟩) | ⟨o, its, m, a, c, _⟩
    · exact .base (.tup a)
    · exact .fTuple a
    · exact .kTuple a c
  | dK a r => cases nr
  | dT a kn r => cases nr
theorem minI_ok : ∀ {ns : List Int} {m : Int}, minI ns = some m → 0 < ns.length ∧ ∀ k, k ∈ ns → (∀ y, y ∈ ns → k ≤ y) → k = m
  | [], m, h => by cases h
  | [x], m, h => by
    cases h
    exact ⟨by simp, fun k hk _ => by simpa using hk⟩
  | x :: y :: r, m, h => by
    obtain ⟨m', h1, h2⟩ := mpd (show ((minI (y :: r)).map fun m => if m < x then m else x) = some m from h)
    have mm : ∀ {l : List Int} {m : Int}, minI l = some m → m ∈ l ∧ ∀ z ∈ l, m ≤ z := by
      intro l
      induction l with
      | nil => intro m h; cases h
      | cons a l ih =>
        intro m h
        cases l with
        | nil => cases h; exact ⟨by simp, fun z hz => by simp at hz; omega⟩
        | cons b l =>
          obtain ⟨m2, q1, q2⟩ := mpd (show ((minI (b :: l)).map fun m => if m < a then m else a) = some m from h)
          obtain ⟨i1, i2⟩ := ih q1
          by_cases c : m2 < a
          · rw [if_pos c] at q2
            subst q2
            exact ⟨List.mem_cons_of_mem _ i1, fun z hz => by
              rcases List.mem_cons.mp hz with rfl | hz
              · omega
              · exact i2 z hz⟩
          · rw [if_neg c] at q2
            subst q2
            exact ⟨by simp, fun z hz => by
              rcases List.mem_cons.mp hz with rfl | hz
              · omega
              · have := i2 z hz; omega⟩
    obtain ⟨i1, i2⟩ := mm h
    refine ⟨by simp, fun k hk hy => ?_⟩
    have a1 := hy m i1
    have a2 := i2 k hk
    omega
theorem maxI_ok {ns : List Int} {m : Int} (h : maxI ns = some m) : 0 < ns.length ∧ ∀ k, k ∈ ns → (∀ y, y ∈ ns → y ≤ k) → k = m := by
  have mm : ∀ {l : List Int} {m : Int}, maxI l = some m → m ∈ l ∧ ∀ z ∈ l, z ≤ m := by
    intro l
    induction l with
    | nil => intro m h; cases h
    | cons a l ih =>
      intro m h
      cases l with
      | nil => cases h; exact ⟨by simp, fun z hz => by simp at hz; omega⟩
      | cons b l =>
        obtain ⟨m2, q1, q2⟩ := mpd (show ((maxI (b :: l)).map fun m => if a < m then m else a) = some m from h)
        obtain ⟨i1, i2⟩ := ih q1
        by_cases c : a < m2
        · rw [if_pos c] at q2
          subst q2
          exact ⟨List.mem_cons_of_mem _ i1, fun z hz => by
            rcases List.mem_cons.mp hz with rfl | hz
            · omega
            · exact i2 z hz⟩
        · rw [if_neg c] at q2
          subst q2
          exact ⟨by simp, fun z hz => by
            rcases List.mem_cons.mp hz with rfl | hz
            · omega
            · have := i2 z hz; omega⟩
  obtain ⟨i1, i2⟩ := mm h
  refine ⟨List.length_pos_of_mem i1, fun k hk hy => ?_⟩
  have a1 := hy m i1
  have a2 := i2 k hk
  omega
theorem views1 {K : PySem.W.Frag} {F H : Hp} {xs : List V} {r : RV} (h : Views K F H xs [r]) : ∃ x, xs = [x] ∧ View K F H x r := by
  cases h with
  | cons a b => cases b; exact ⟨_, rfl, a⟩
theorem views2 {K : PySem.W.Frag} {F H : Hp} {xs : List V} {r r' : RV} (h : Views K F H xs [r, r']) : ∃ x y, xs = [x, y] ∧ View K F H x r ∧ View K F H y r' := by
  cases h with
  | cons a b => cases b with | cons c d => cases d; exact ⟨_, _, rfl, a, c⟩
def biV : Bi → Value
  | .len => .builtin "len"
  | .sum => .builtin "sum"
  | .min2 => .builtin "min"
  | .max2 => .builtin "max"
  | .minL => .builtin "min"
  | .maxL => .builtin "max"
  | .any => .builtin "any"
  | .all => .builtin "all"
  | .int => .type "int"
  | .str => .type "str"
  | .tup => .type "tuple"
  | .list => .type "list"
  | .sorted => .builtin "sorted"
  | .isI _ => .builtin "isinstance"
theorem b_len : CallR X (.builtin "len") (rnS X.K (biD .len)) := by
  intro pins s σ H xs us Q I rs h
  obtain ⟨F, rv, r, sf, ws, h, k⟩ := h
  unfold biD at h
  split at h <;> try (first | contradiction | (cases h; done) | (rename_i e; cases e; done))
  · obtain ⟨hl, rfl⟩ := itd h
    obtain ⟨x, rfl, w⟩ := views1 ws
    obtain rfl := w.str
    exact call_len_str pins s σ H _ us Q I rs ⟨_, rfl, LIM_ok hl, k _ F H (.refl sf) (.fz (.int _)) newFz⟩
  · obtain ⟨x, rfl, w⟩ := views1 ws
    split at h
    · rename_i kvs hr
      cases h
      obtain ⟨kvs', hk, hr⟩ := bnd hr
      unfold dRows at hr
      split at hr
      · rename_i bb rest e
        cases hr
        cases e
        cases bb with
        | false =>
          obtain ⟨a, o, kvs, ds, rfl, ha, ra, rfl⟩ := w.dk sf hk
          refine call_lenX pins s σ H _ us Q I rs ⟨a, o, kvs, rfl, ha, ?_⟩
          have l := ra.length
          rw [List.length_map] at l
          rw [List.length_zip, List.length_map, List.length_map, ← l, Nat.min_self] at k
          exact k _ F H (.refl sf) (.fz (.int _)) newFz
        | true =>
          obtain ⟨a, o, kvs, ds, rfl, ha, kn, ra, rfl⟩ := w.dt sf hk
          refine call_lenXT pins s σ H _ us Q I rs ⟨a, o, kvs, rfl, ha, kn.mono sf, ?_⟩
          have l := ra.length
          rw [List.length_map] at l
          rw [List.length_zip, List.length_map, List.length_map, ← l, Nat.min_self] at k
          exact k _ F H (.refl sf) (.fz (.int _)) newFz
      · cases hr
    · obtain ⟨ds, hd, rfl⟩ := mpd h
      obtain ⟨p, vs, rfl, hp, rp⟩ := w.seqv sf hd
      exact call_len_seq pins s σ H _ us Q I rs ⟨p, vs, rfl, hp, by rw [rp.length]; exact k _ F H (.refl sf) (.fz (.int _)) newFz⟩
theorem sum_tupR {prog : Program} {w : World} {A : Around} {E : Value → Shared → Prop} {s : Shared} {l : Addr} {its : List Value} {ns : List Int} {Q : Value → Shared → Prop} (hh : A.handled = none) (hl : s.heap.IsTuple l its.toArray) (hi : IntsAre its ns)
    (h : ∀ h' tk t', (∀ b o, s.heap.get? b = some o → h'.get? b = some o) → Q (.int ns.sum t') { s with heap := h', toks := tk }) : wpAny (model prog w) A (call (.builtin "sum") [.ref l]) Q E s := by
  obtain ⟨xs, e⟩ := hi.allInts.items
  have hn : numsOf (intItems xs).toList = ns := by rw [← e]; exact hi.numsOf
  rw [nums_intItems] at hn
  rw [e] at hl
  refine PySem.W.ktm_sumG hh hl fun h' tk t' hk => ?_
  have := h h' tk t' hk
  rw [preSum_eq, List.take_of_length_le (by simp), hn]; exact this
theorem cr_sumT (hc : X.calm = true) : CallR X (.builtin "sum") (fun vs H Q => ∃ (a : Addr) (ns : List Int), vs = [V.ref a] ∧ (SqL X.K H a (ns.map V.int) ∨ SqT X.K H a (ns.map V.int)) ∧ Q (.int ns.sum) H) := by
  intro pins s σ H vs us Q I r h
  obtain ⟨a, ns, rfl, hs | hs, q⟩ := h
  · exact cr_sum hc pins s σ H _ us Q I r ⟨a, ns, rfl, hs, q⟩
  · obtain ⟨its, rv, hl, _⟩ := I.tuple hs
    rw [Vals.ref1 r]
    obtain ⟨o, ho, hcl, n, hd⟩ := hl
    exact sum_tupR (I.ok.hd hc) ⟨o, ho, hcl, n, hd⟩ rv.ints fun h' tk t' hk => ⟨.int _, H, I.kept hk, ⟨_, rfl⟩, q⟩
theorem b_sum (hc : X.calm = true) : CallR X (.builtin "sum") (rnS X.K (biD .sum)) := by
  intro pins s σ H xs us Q I rs h
  obtain ⟨F, rv, r, sf, ws, h, k⟩ := h
  unfold biD at h
  split at h <;> try (first | contradiction | (cases h; done) | (rename_i e; cases e; done))
  obtain ⟨ns, hn, rfl⟩ := mpd h
  obtain ⟨ds, hd, hn⟩ := bnd hn
  obtain rfl := intsOf_eq hn
  obtain ⟨x, rfl, w⟩ := views1 ws
  obtain ⟨p, vs, rfl, hp, rp⟩ := w.seqv sf hd
  obtain rfl := rp.ints
  exact cr_sumT hc pins s σ H _ us Q I rs ⟨p, ns, rfl, hp, k _ F H (.refl sf) (.fz (.int _)) newFz⟩
theorem b_min2 (hc : X.calm = true) : CallR X (.builtin "min") (rnS X.K (biD .min2)) := by
  intro pins s σ H xs us Q I rs h
  obtain ⟨F, rv, r, sf, ws, h, k⟩ := h
  unfold biD at h
  split at h <;> try (first | contradiction | (cases h; done) | (rename_i e; cases e; done))
  cases h
  obtain ⟨x, y, rfl, w, w'⟩ := views2 ws
  obtain rfl := w.int
  obtain rfl := w'.int
  exact call_min2 hc pins s σ H _ us Q I rs ⟨_, _, rfl, k _ F H (.refl sf) (.fz (.int _)) newFz⟩
theorem b_max2 (hc : X.calm = true) : CallR X (.builtin "max") (rnS X.K (biD .max2)) := by
  intro pins s σ H xs us Q I rs h
  obtain ⟨F, rv, r, sf, ws, h, k⟩ := h
  unfold biD at h
  split at h <;> try (first | contradiction | (cases h; done) | (rename_i e; cases e; done))
  cases h
  obtain ⟨x, y, rfl, w, w'⟩ := views2 ws
  obtain rfl := w.int
  obtain rfl := w'.int
  exact call_max2 hc pins s σ H _ us Q I rs ⟨_, _, rfl, k _ F H (.refl sf) (.fz (.int _)) newFz⟩
theorem b_minL (hc : X.calm = true) : CallR X (.builtin "min") (rnS X.K (biD .minL)) := by
  intro pins s σ H xs us Q I rs h
  obtain ⟨F, rv, r, sf, ws, h, k⟩ := h
  unfold biD at h
  split at h <;> try (first | contradiction | (cases h; done) | (rename_i e; cases e; done))
  obtain ⟨m, hm, rfl⟩ := mpd h
  obtain ⟨ns, hn, hm⟩ := bnd hm
  obtain ⟨ds, hd, hn⟩ := bnd hn
  obtain rfl := intsOf_eq hn
  obtain ⟨x, rfl, w⟩ := views1 ws
  obtain ⟨p, vs, rfl, hp, rp⟩ := w.lstv sf hd
  obtain rfl := rp.ints
  obtain ⟨h0, h1⟩ := minI_ok hm
  exact cr_min hc pins s σ H _ us Q I rs ⟨p, ns, rfl, SqL.of hp, h0, fun m' hm' hy => by rw [h1 m' hm' hy]; exact k _ F H (.refl sf) (.fz (.int _)) newFz⟩
theorem b_maxL (hc : X.calm = true) : CallR X (.builtin "max") (rnS X.K (biD .maxL)) := by
  intro pins s σ H xs us Q I rs h
  obtain ⟨F, rv, r, sf, ws, h, k⟩ := h
  unfold biD at h
  split at h <;> try (first | contradiction | (cases h; done) | (rename_i e; cases e; done))
  obtain ⟨m, hm, rfl⟩ := mpd h
  obtain ⟨ns, hn, hm⟩ := bnd hm
  obtain ⟨ds, hd, hn⟩ := bnd hn
  obtain rfl := intsOf_eq hn
  obtain ⟨x, rfl, w⟩ := views1 ws
  obtain ⟨p, vs, rfl, hp, rp⟩ := w.lstv sf hd
  obtain rfl := rp.ints
  obtain ⟨h0, h1⟩ := maxI_ok hm
  exact cr_max hc pins s σ H _ us Q I rs ⟨p, ns, rfl, SqL.of hp, h0, fun m' hm' hy => by rw [h1 m' hm' hy]; exact k _ F H (.refl sf) (.fz (.int _)) newFz⟩
theorem truth_ints {prog : Program} {w : World} {A : Around} {ns : List Int} {its : List Value} (e : IntsAre its ns) :
    TruthOf prog w A (fun i v => its.toArray[i]? = some v) (fun i => ns.getD i 0 != 0) := fun i v s Q E hv hq => by
  have hv' : its[i]? = some v := by simpa using hv
  obtain ⟨n, t, rfl, hn⟩ := e.at i v hv'
  have hg : (ns.getD i 0 != 0) = (n != 0) := by rw [List.getD_eq_getElem?_getD, hn]; rfl
  have hq' : Q (ns.getD i 0 != 0) s := hq
  rw [hg] at hq'
  exact PySem.P.truthy_int hq'
theorem any_rangeI : ∀ ns : List Int, (List.range ns.length).any (fun i => ns.getD i 0 != 0) = ns.any (fun i => i != 0)
  | [] => rfl
  | b :: bs => by
    rw [List.length_cons, List.range_succ_eq_map, List.any_cons, List.any_map, List.any_cons, ← any_rangeI bs]
    all_goals rfl
theorem cr_anyI (hc : X.calm = true) : CallR X (.builtin "any") (fun vs H Q => ∃ (a : Addr) (ns : List Int), vs = [V.ref a] ∧ (SqL X.K H a (ns.map V.int) ∨ SqT X.K H a (ns.map V.int)) ∧ Q (.bl (ns.any fun i => i != 0)) H) := by
  intro pins s σ H vs us Q I r h
  obtain ⟨a, ns, rfl, hs | hs, q⟩ := h
  · obtain ⟨its, rv, hl, _⟩ := I.list hs
    rw [Vals.ref1 r]
    have hi := rv.ints
    refine call_any_walk (iter_any hl.isList fun s₂ e2 st hne => ?_)
    subst e2
    refine ⟨_, _, _, _, _, _, _, rfl, Walks.list (A := X.A.in1) (I.ok.hd hc) _ a hne its.toArray, st, truth_ints hi, fun h' tk hk => ?_⟩
    refine ⟨.bl _, H, I.kept fun b o eo => hk b o (fun hmem => ?_) (Heap.get?_push_of_some _ eo), ?_, q⟩
    · rcases List.mem_cons.mp hmem with e1 | hmem
      · exact absurd (e1 ▸ Heap.lt_size eo) (Nat.lt_irrefl _)
      · cases hmem
    · show Value.bool _ = Value.bool _
      rw [← any_rangeI, List.size_toArray, ← rv.length, List.length_map]
  · obtain ⟨its, rv, hl, _⟩ := I.tuple hs
    rw [Vals.ref1 r]
    have hi := rv.ints
    obtain ⟨o, ho, hcl, n, hd⟩ := hl
    have ht : s.heap.IsTuple a its.toArray := ⟨o, ho, hcl, n, hd⟩
    have hne : a ≠ s.heap.objs.size := Nat.ne_of_lt (Heap.lt_size ho)
    refine call_any_walk (wpAny_pyIter_tuple ht ?_)
    refine ⟨s.heap.objs.size, _, _, _, _, _, _, rfl, Walks.tuple (A := X.A.in1) (I.ok.hd hc) _ a hne its.toArray, ⟨⟨_, Heap.get?_push_size _ rfl, rfl, rfl⟩, ht.at fun o e => Heap.get?_push_of_some _ e⟩, truth_ints hi, fun h' tk hk => ?_⟩
    refine ⟨.bl _, H, I.kept fun b o eo => hk b o (fun hmem => ?_) (Heap.get?_push_of_some _ eo), ?_, q⟩
    · rcases List.mem_cons.mp hmem with e1 | hmem
      · exact absurd (e1 ▸ Heap.lt_size eo) (Nat.lt_irrefl _)
      · cases hmem
    · show Value.bool _ = Value.bool _
      rw [← any_rangeI, List.size_toArray, ← rv.length, List.length_map]
theorem b_any (hc : X.calm = true) : CallR X (.builtin "any") (rnS X.K (biD .any)) := by
  intro pins s σ H xs us Q I rs h
  obtain ⟨F, rv, r, sf, ws, h, k⟩ := h
  unfold biD at h
  split at h <;> try (first | contradiction | (cases h; done) | (rename_i e; cases e; done))
  obtain ⟨x, rfl, w⟩ := views1 ws
  split at h
  · rename_i ns hn
    cases h
    obtain ⟨ds, hd, hn⟩ := bnd hn
    obtain rfl := boolsOf_eq hn
    obtain ⟨p, vs, rfl, hp, rp⟩ := w.lstv sf hd
    obtain rfl := rp.bools
    exact cr_any hc pins s σ H _ us Q I rs ⟨p, ns, rfl, SqL.of hp, k _ F H (.refl sf) (.fz (.bl _)) newFz⟩
  · obtain ⟨ns, hn, rfl⟩ := mpd h
    obtain ⟨ds, hd, hn⟩ := bnd hn
    obtain rfl := intsOf_eq hn
    obtain ⟨p, vs, rfl, hp, rp⟩ := w.seqv sf hd
    obtain rfl := rp.ints
    exact cr_anyI hc pins s σ H _ us Q I rs ⟨p, ns, rfl, hp, k _ F H (.refl sf) (.fz (.bl _)) newFz⟩
theorem b_all (hc : X.calm = true) : CallR X (.builtin "all") (rnS X.K (biD .all)) := by
  intro pins s σ H xs us Q I rs h
  obtain ⟨F, rv, r, sf, ws, h, k⟩ := h
  unfold biD at h
  split at h <;> try (first | contradiction | (cases h; done) | (rename_i e; cases e; done))
  obtain ⟨ns, hn, rfl⟩ := mpd h
  obtain ⟨ds, hd, hn⟩ := bnd hn
  obtain rfl := boolsOf_eq hn
  obtain ⟨x, rfl, w⟩ := views1 ws
  obtain ⟨p, vs, rfl, hp, rp⟩ := w.lstv sf hd
  obtain rfl := rp.bools
  exact cr_all hc pins s σ H _ us Q I rs ⟨p, ns, rfl, SqL.of hp, k _ F H (.refl sf) (.fz (.bl _)) newFz⟩
theorem b_int : CallR X (.type "int") (rnS X.K (biD .int)) := by
  intro pins s σ H xs us Q I rs h
  obtain ⟨F, rv, r, sf, ws, h, k⟩ := h
  unfold biD at h
  split at h <;> try (first | contradiction | (cases h; done) | (rename_i e; cases e; done))
  · cases h
    obtain ⟨x, rfl, w⟩ := views1 ws
    obtain rfl := w.int
    exact call_int1 pins s σ H _ us Q I rs (.inl ⟨_, rfl, k _ F H (.refl sf) (.fz (.int _)) newFz⟩)
  · cases h
    obtain ⟨x, rfl, w⟩ := views1 ws
    obtain rfl := w.bool
    exact call_int1 pins s σ H _ us Q I rs (.inr ⟨_, rfl, k _ F H (.refl sf) (.fz (.int _)) newFz⟩)
  · obtain ⟨hl, h⟩ := itd' h
    obtain ⟨n, hn, rfl⟩ := mpd h
    obtain ⟨x, rfl, w⟩ := views1 ws
    obtain rfl := w.str
    exact call_int_str pins s σ H _ us Q I rs ⟨_, n, rfl, hn, hl, k _ F H (.refl sf) (.fz (.int _)) newFz⟩
theorem b_str : CallR X (.type "str") (rnS X.K (biD .str)) := by
  intro pins s σ H xs us Q I rs h
  obtain ⟨F, rv, r, sf, ws, h, k⟩ := h
  unfold biD at h
  split at h <;> try (first | contradiction | (cases h; done) | (rename_i e; cases e; done))
  obtain ⟨hl, rfl⟩ := itd h
  obtain ⟨x, rfl, w⟩ := views1 ws
  obtain rfl := w.int
  exact call_str_int pins s σ H _ us Q I rs ⟨_, rfl, hl, k _ F H (.refl sf) (.fz (.str _)) newFz⟩
theorem b_tup : CallR X (.type "tuple") (rnS X.K (biD .tup)) := by
  intro pins s σ H xs us Q I rs h
  obtain ⟨F, rv, r, sf, ws, h, k⟩ := h
  unfold biD at h
  split at h <;> try (first | contradiction | (cases h; done) | (rename_i e; cases e; done))
  obtain ⟨ds, hd, rfl⟩ := mpd h
  obtain ⟨x, rfl, w⟩ := views1 ws
  have fin : ∀ {p : Addr} {vs : List V}, SqL X.K H p vs → RpAll X.K F vs ds → Vals [V.ref p] us → wpAny (model X.prog X.w) X.A (call (.type "tuple") us) (EP X pins σ Q) X.xe s := fun {p vs} hp rp rs => by
    refine call_tuple_ofN pins s σ H _ us Q I rs ⟨p, vs, rfl, .inl ⟨hp, fun l o qo n => ?_⟩⟩
    obtain ⟨x1, w1⟩ := viewTup (K := X.K) sf qo n rp
    exact k _ _ _ x1 w1 newFz
  cases w with
  | fz q =>
    cases q with
    | tup ta ra =>
      cases hd
      exact call_tuple_ofN pins s σ H _ us Q I rs ⟨_, _, rfl, .inr ⟨Same.sqT sf ta.sqT, k _ F H (.refl sf) (.fz (.tup ta ra)) newFz⟩⟩
    | lst ta ra =>
      cases hd
      exact fin (SqL.of (sf _ _ ta)) ra rs
    | scr ta =>
      cases hd
      exact fin (sf.seq ta) (.ofInts _) rs
    | _ => cases hd
  | own f h2 q =>
    cases q <;> cases hd
    exact fin (SqL.of h2) (by assumption) rs
theorem call_listX (hc : X.calm = true) : CallR X (.type "list") (fun xs H Q => ∃ d o ks vs, xs = [V.ref d] ∧ DxAt d o ks vs H ∧ ks.length ≤ sizeLine ∧ ∀ q, H q = none → Q (.ref q) (upd H q (.lst ks))) := by
  intro pins s σ H xs us Q I r h
  obtain ⟨d, o, ks, vs, rfl, hdx, hz, q⟩ := h
  obtain ⟨u, rfl, rx⟩ := vals1 r
  obtain rfl : u = Value.ref d := rx
  have hd := hdx.atO
  have rr := hdx.rows I
  obtain ⟨hs, hgd⟩ := hd.get I
  obtain ⟨hx, es, ep, hdt, l1, l2, ent⟩ := id rr
  refine PySem.W.kdl_call (kdl_raw hs hx hdt) (I.ok.hd hc) hgd (by omega) fun h' tk acc' c' kp e it => ?_
  have el : acc'.toList.length = acc'.size := by simp
  have rv : Vals ks acc'.toList := vals_of_at (by rw [el, it.1, l1]) fun j x w h1 h2 => by
    obtain ⟨en, hen, hv⟩ := it.2 j w (by rw [← Array.getElem?_toList]; exact h2)
    obtain ⟨hj, ej⟩ := Array.getElem?_eq_some_iff.mp hen
    obtain ⟨k, v, e1, e2, r1, r2⟩ := ent j hj
    rw [h1] at e1
    cases e1
    rw [hv, ← ej]
    exact r1
  refine ⟨.ref s.heap.objs.size, _, I.laid (t' := tk) (o := .lst ks) kp (Nat.le_refl _) ?_, rfl, q _ (I.hok.fresh (Nat.le_refl _))⟩
  exact ⟨hz, acc'.toList, c', rv, by rw [Array.toArray_toList]; exact e⟩
theorem dk_small {pins : List (Addr × Obj)} {s : Shared} {σ : L2.St} {H : Hp} (I : Inv X pins σ H s) {a : Addr} {o : Obj} {kvs : List (Int × V)} (h : H a = some (dkO a o kvs)) : kvs.length ≤ sizeLine := (dk_at I h).2.1
theorem dt_small {pins : List (Addr × Obj)} {s : Shared} {σ : L2.St} {H : Hp} (I : Inv X pins σ H s) {a : Addr} {o : Obj} {kvs : TK} (h : H a = some (dtO a o kvs)) : kvs.length ≤ sizeLine := (dt_at I h).2.1
theorem b_list (hc : X.calm = true) : CallR X (.type "list") (rnS X.K (biD .list)) := by
  intro pins s σ H xs us Q I rs h
  obtain ⟨F, rv, r, sf, ws, h, k⟩ := h
  unfold biD at h
  split at h <;> try (first | contradiction | (cases h; done) | (rename_i e; cases e; done))
  obtain ⟨x, rfl, w⟩ := views1 ws
  split at h
  · rename_i kvs hr
    cases h
    obtain ⟨kvs', hk, hr⟩ := bnd hr
    unfold dRows at hr
    split at hr
    · rename_i bb rest e
      cases hr
      cases e
      cases bb with
      | false =>
        obtain ⟨a, o, kvs, ds, rfl, ha, ra, rfl⟩ := w.dk sf hk
        refine call_listX hc pins s σ H _ us Q I rs ⟨a, o, _, _, rfl, .inl ⟨kvs, ha, rfl, rfl⟩, by rw [List.length_map]; exact dk_small I ha, fun l n => ?_⟩
        have l1 := ra.length
        rw [List.length_map] at l1
        have e1 : (((kvs.map fun x => x.1).map PyData.int).zip ds).map (fun p => p.1) = (kvs.map fun x => x.1).map PyData.int := List.map_fst_zip (by rw [List.length_map, List.length_map]; omega)
        rw [e1] at k
        have e2 : (kvs.map fun x => V.int x.1) = (kvs.map fun x => x.1).map V.int := by rw [List.map_map]; rfl
        rw [e2]
        obtain ⟨x1, w1⟩ := viewNew (K := X.K) sf n (RpAll.ofInts (K := X.K) (F := F) (kvs.map fun x => x.1))
        exact k _ _ _ x1 w1 (newOl n)
      | true =>
        obtain ⟨a, o, kvs, ds, rfl, ha, kn, ra, rfl⟩ := w.dt sf hk
        refine call_listX hc pins s σ H _ us Q I rs ⟨a, o, _, _, rfl, .inr ⟨kvs, ha, rfl, rfl⟩, by rw [List.length_map]; exact dt_small I ha, fun l n => ?_⟩
        have l1 := ra.length
        rw [List.length_map] at l1
        have e1 : (((kvs.map fun x => x.1).map keyT).zip ds).map (fun p => p.1) = (kvs.map fun x => x.1).map keyT := List.map_fst_zip (by rw [List.length_map, List.length_map]; omega)
        rw [e1] at k
        have rk : ∀ {zs : TK}, KeysN X.K F zs → RpAll X.K F (zs.map fun x => V.ref x.2.1) ((zs.map fun x => x.1).map keyT) := by
          intro zs
          induction zs with
          | nil => intro _; exact .nil
          | cons z zs ih => intro hz; exact .cons (.tup (hz z (by simp)) (.ofInts _)) (ih fun y hy => hz y (by simp [hy]))
        obtain ⟨x1, w1⟩ := viewNew (K := X.K) sf n (rk kn)
        exact k _ _ _ x1 w1 (newOl n)
    · cases hr
  · obtain ⟨ds, hd, rfl⟩ := mpd h
    obtain ⟨p, vs, rfl, hp, rp⟩ := w.seqv sf hd
    refine call_list_of pins s σ H _ us Q I rs ⟨p, vs, rfl, hp, fun l n => ?_⟩
    obtain ⟨x1, w1⟩ := viewNew (K := X.K) sf n rp
    exact k _ _ _ x1 w1 (newOl n)
theorem insL_perm {α : Type} (le : α → α → Bool) (p : α) : ∀ l : List α, (insL le p l).Perm (p :: l)
  | [] => .refl _
  | q :: r => by
    unfold insL
    split
    · exact .refl _
    · exact ((insL_perm le p r).cons q).trans (.swap p q r)
theorem isort_perm {α : Type} (le : α → α → Bool) : ∀ l : List α, (isort le l).Perm l
  | [] => .refl _
  | p :: r => (insL_perm le p _).trans ((isort_perm le r).cons p)
theorem insL_srt {α : Type} {le : α → α → Bool} (tot : ∀ a b, le a b = false → le b a = true) (tr : ∀ a b c, le a b = true → le b c = true → le a c = true) (p : α) : ∀ l : List α, l.Pairwise (fun a b => le a b = true) → (insL le p l).Pairwise (fun a b => le a b = true)
  | [], _ => by unfold insL; exact List.pairwise_singleton _ _
  | q :: r, h => by
    unfold insL
    have hq := List.pairwise_cons.mp h
    split
    · rename_i e
      refine List.pairwise_cons.mpr ⟨fun x hx => ?_, h⟩
      rcases List.mem_cons.mp hx with rfl | hx
      · exact e
      · exact tr _ _ _ e (hq.1 x hx)
    · rename_i e
      refine List.pairwise_cons.mpr ⟨fun x hx => ?_, insL_srt tot tr p r hq.2⟩
      rcases List.mem_cons.mp ((insL_perm le p r).mem_iff.mp hx) with rfl | hx
      · exact tot _ _ (by simpa using e)
      · exact hq.1 x hx
theorem isort_srt {α : Type} {le : α → α → Bool} (tot : ∀ a b, le a b = false → le b a = true) (tr : ∀ a b c, le a b = true → le b c = true → le a c = true) : ∀ l : List α, (isort le l).Pairwise (fun a b => le a b = true)
  | [] => .nil
  | p :: r => insL_srt tot tr p _ (isort_srt tot tr r)
theorem leP_iff {p q : Int × Int} : leP p q = true ↔ p.1 < q.1 ∨ (p.1 = q.1 ∧ p.2 ≤ q.2) := by simp [leP]
theorem leP_tot (a b : Int × Int) (h : leP a b = false) : leP b a = true := by
  have : ¬ leP a b = true := by rw [h]; exact Bool.false_ne_true
  rw [leP_iff] at this ⊢
  omega
theorem leP_tr (a b c : Int × Int) (h : leP a b = true) (h' : leP b c = true) : leP a c = true := by
  rw [leP_iff] at *
  omega
theorem leP_anti (a b : Int × Int) (h : leP a b = true) (h' : leP b a = true) : a = b := by
  rw [leP_iff] at *
  exact Prod.ext (by omega) (by omega)
theorem leI_tot (a b : Int) (h : leI a b = false) : leI b a = true := by
  unfold leI at *
  simp at *
  omega
theorem leI_tr (a b c : Int) (h : leI a b = true) (h' : leI b c = true) : leI a c = true := by
  unfold leI at *
  simp at *
  omega
theorem isortP_eq {l m : List (Int × Int)} (h : l.Pairwise (fun a b => leP a b = true)) (p : l.Perm m) : l = isort leP m :=
  List.Perm.eq_of_pairwise (fun a b _ _ x y => leP_anti a b x y) h (isort_srt leP_tot leP_tr m) (p.trans (isort_perm leP m).symm)
theorem isortI_eq {l m : List Int} (h : l.Pairwise (· ≤ ·)) (p : l.Perm m) : l = isort leI m := by
  refine List.Perm.eq_of_pairwise (le := fun a b => leI a b = true) (fun a b _ _ x y => by unfold leI at x y; simp at x y; omega) ?_ (isort_srt leI_tot leI_tr m) (p.trans (isort_perm leI m).symm)
  exact h.imp fun {a b} x => by unfold leI; simpa using x
theorem pairsOf_eq : ∀ {ds : List PyData} {ps : List (Int × Int)}, pairsOf ds = some ps → ds = ps.map encP := by
  intro ds
  induction ds with
  | nil => intro ps h; cases h; rfl
  | cons d r ih =>
    intro ps h
    unfold pairsOf at h
    split at h
    · rename_i e; cases e
    · rename_i e
      cases e
      obtain ⟨q, h1, rfl⟩ := mpd h
      rw [ih h1]
      rfl
    · cases h
open Classical in
noncomputable def keyOf (K : PySem.W.Frag) (H : Hp) (x : V) : Int × Int := if h : ∃ p : Int × Int, ∃ t, x = .ref t ∧ SqT K H t [.int p.1, .int p.2] then h.choose else (0, 0)
theorem keyOf_eq {pins : List (Addr × Obj)} {s : Shared} {σ : L2.St} {H : Hp} (I : Inv X pins σ H s) {t : Addr} {p : Int × Int} (h : SqT X.K H t [.int p.1, .int p.2]) : keyOf X.K H (.ref t) = p := by
  unfold keyOf
  have e : ∃ p : Int × Int, ∃ t', V.ref t = .ref t' ∧ SqT X.K H t' [.int p.1, .int p.2] := ⟨p, t, rfl, h⟩
  rw [dif_pos e]
  obtain ⟨t', e1, e2⟩ := e.choose_spec
  cases e1
  have := I.tuple_inj e2 h
  cases q : e.choose with
  | mk a b =>
    rw [q] at this
    cases this
    rfl
theorem cr_sortedQ : CallR X (.builtin "sorted") (fun vs H Q => ∃ (a : Addr) (xs : List V) (k : V → Int × Int), vs = [V.ref a] ∧ SqL X.K H a xs ∧ (∀ x ∈ xs, ∃ t, x = V.ref t ∧ SqT X.K H t [.int (k x).1, .int (k x).2]) ∧
    ∀ ys p, SrtO.Srtd (ltP k) ys → SrtO.Stb (ltP k) ys xs → H p = none → Q (.ref p) (upd H p (.lst ys))) := by
  intro pins s σ H vs us Q I r h
  obtain ⟨a, xs, k, rfl, hs, hx, q⟩ := h
  obtain ⟨its, rv, hl, hz⟩ := I.list hs
  obtain ⟨u, rfl, ru⟩ := vals1 r
  obtain rfl : u = Value.ref a := ru
  obtain ⟨e1, e2⟩ := refs_back rv fun x m => by
    obtain ⟨t, e, _⟩ := hx x m
    exact ⟨t, e⟩
  refine SrtO.sorted_pairsO (k := fun u => k (backV u)) hl.isList (by rw [← rv.length]; exact hz) (fun v hv => ?_) fun h' d out h1 h2 kp hd hn => ?_
  · obtain ⟨t, rfl⟩ := e2 v hv
    have hm : V.ref t ∈ xs := by rw [e1]; exact List.mem_map.mpr ⟨_, hv, rfl⟩
    obtain ⟨t', e, ht⟩ := hx _ hm
    cases e
    obtain ⟨its2, r2, ⟨o, ho, hc, n, hd⟩, _⟩ := I.tuple ht
    obtain ⟨u1, u2, rfl, ri, rj⟩ := vals2 r2
    obtain ⟨t1, rfl⟩ := ri
    obtain ⟨t2, rfl⟩ := rj
    exact ⟨t, o, t1, t2, n, rfl, ho, hc, hd⟩
  · have h3 : ∀ u ∈ out, ∃ a, u = Value.ref a := fun u hu => e2 u (h2.perm.mem_iff.mp hu)
    obtain ⟨n, hn⟩ := hn
    have hb : SrtO.Stb (ltP k) (out.map backV) xs := by
      rw [e1]
      exact SrtO.Stb.map (ltP_swo k) backV h2
    refine ⟨.ref d, upd H d (.lst (out.map backV)), I.laid (t' := s.toks) kp hd ⟨?_, out, n, vals_back h3, hn⟩, rfl, q _ d (SrtO.srtd_map h1) hb (I.hok.fresh hd)⟩
    rw [hb.len]
    exact hz
def IsKd (h : Heap) (v : Value) (x : Int) : Prop := ∃ a o t b n, v = .ref a ∧ h.get? a = some o ∧ o.cls = .type "tuple" ∧ o.data = .seq #[.int x t, b] n
def ltKd (k : Value → Int) (v u : Value) : Bool := decide (k v < k u)
theorem swo_kd (k : Value → Int) : SrtO.Swo (ltKd k) := by
  refine ⟨fun x y h => ?_, fun x y z h1 h2 => ?_⟩
  · have a := of_decide_eq_true h
    exact decide_eq_false (by omega)
  · have a := of_decide_eq_false h1
    have b := of_decide_eq_false h2
    exact decide_eq_false (by omega)
theorem kd_cmp {prog : Program} {w : World} {A : Around} {s : Shared} {vs : List Value} {k : Value → Int} (hp : ∀ v ∈ vs, IsKd s.heap v (k v)) (inj : ∀ v ∈ vs, ∀ u ∈ vs, k v = k u → v = u) : SrtO.Cmp prog w A s (tuples' true) (fun p => p.1 ∈ vs) (SrtO.lt2 (ltKd k)) := by
  intro p q hm hm'
  have h1 := hp _ hm
  have h2 := hp _ hm'
  have hi := inj _ hm _ hm'
  show wpAny (model prog w) A (keyLt' (tuples' true) p.1 q.1) (fun r s' => s' = s ∧ r = ltKd k p.1 q.1) (fun _ _ => False) s
  unfold ltKd
  generalize k p.1 = x at h1 hi ⊢
  generalize k q.1 = x' at h2 hi ⊢
  obtain ⟨a, o, t, b, n, e, ho, hc, hd⟩ := h1
  obtain ⟨a', o', t', b', n', e', ho', hc', hd'⟩ := h2
  rw [e, e']
  by_cases ex : x = x'
  · have eq := hi ex
    rw [e, e'] at eq
    cases eq
    rw [ho] at ho'
    cases ho'
    rw [hd] at hd'
    injection hd' with q1 q2
    have q3 : [Value.int x t, b] = [Value.int x' t', b'] := congrArg Array.toList q1
    cases q3
    have e3 : decide (x < x) = false := decide_eq_false (by omega)
    rw [e3]
    refine PySem.W.kat_lt ho hd ho hd ?_
    show PySem.W.KatLex prog w A true (decide (2 < 2)) _ [(.int x t, .int x t), (b, b)] 0 s
    refine PySem.W.kat_cons (SeqAt.EqAt.same _ prog w _ _ ?_)
    refine PySem.W.kat_yes (PySem.W.kat_cons (SeqAt.EqAt.same _ prog w _ _ ?_))
    exact PySem.W.kat_yes (PySem.W.kat_nil ⟨rfl, rfl⟩)
  · refine PySem.W.kat_lt ho hd ho' hd' ?_
    show PySem.W.KatLex prog w A true (decide (2 < 2)) _ [(.int x t, .int x' t'), (b, b')] 0 s
    refine PySem.W.kat_cons (SeqAt.EqAt.int_int x t x' t' prog w _ _ ?_)
    refine PySem.W.kat_go (fun e1 => absurd (by simpa using e1) ex) (fun e1 => ?_)
    exact PySem.W.kat_no (oneLt_int ⟨rfl, rfl⟩)
theorem kd_firsts {h : Heap} : ∀ {vs : List Value}, (∀ v ∈ vs, ∃ x, IsKd h v x) → ∃ fs : List Value, PySem.W.KatTups h vs fs ∧ fs.length = vs.length ∧ ∀ f ∈ fs, ∃ x t, f = Value.int x t
  | [], _ => ⟨[], PySem.W.KatTups.nil, rfl, fun _ hm => by simp at hm⟩
  | v :: vs, hp => by
    obtain ⟨fs, h1, h2, h3⟩ := kd_firsts (vs := vs) fun v' hm => hp v' (List.mem_cons_of_mem _ hm)
    obtain ⟨x, a, o, t, b, n, rfl, ho, hc, hd⟩ := hp v (by simp)
    refine ⟨.int x t :: fs, PySem.W.KatTups.cons ho hc hd rfl h1, by simp [h2], fun f hm => ?_⟩
    rcases List.mem_cons.mp hm with rfl | hm
    · exact ⟨x, t, rfl⟩
    · exact h3 f hm
theorem kd_sortable {prog : Program} {w : World} {A : Around} {s : Shared} {a : Addr} {vs : List Value} {k : Value → Int} (h0 : 0 < vs.length) (hp : ∀ v ∈ vs, IsKd s.heap v (k v)) (inj : ∀ v ∈ vs, ∀ u ∈ vs, k v = k u → v = u) (ha : ∀ o, s.heap.get? a = some o → o.cls ≠ .type "tuple") : SrtO.SortableO prog w A s a vs (ltKd k) := by
  intro h' keep
  have hp' : ∀ v ∈ vs, IsKd h' v (k v) := fun v hm => by
    obtain ⟨b, o, t, c, n, e, ho, hc, hd⟩ := hp v hm
    exact ⟨b, o, t, c, n, e, keep b o (fun z => by subst z; exact ha o ho hc) ho, hc, hd⟩
  obtain ⟨fs, h1, h2, h3⟩ := kd_firsts fun v hm => ⟨_, hp' v hm⟩
  refine ⟨tuples' true, fun Q E hq => ?_, kd_cmp hp' inj⟩
  refine PySem.W.kat_kind (T := .type "int") h1 (by omega) (fun f hm => ?_) (by rfl) ?_
  · obtain ⟨x, t, rfl⟩ := h3 f hm
    exact PySem.W.Looks.now
  · have e : (Value.type "int" != Value.type "tuple") = true := by first | decide +kernel | rfl | decide
    rw [e]
    exact hq
theorem sorted_kd {prog : Program} {w : World} {A : Around} {s : Shared} {E : Value → Shared → Prop} {l : Addr} {vs : List Value} {k : Value → Int} {Q : Value → Shared → Prop} (hl : s.heap.IsList l vs.toArray) (hz : vs.length ≤ sizeLine) (hp : ∀ v ∈ vs, IsKd s.heap v (k v)) (inj : ∀ v ∈ vs, ∀ u ∈ vs, k v = k u → v = u)
    (h : ∀ (h' : Heap) (d : Addr) (out : List Value), SrtO.Srtd (ltKd k) out → SrtO.Stb (ltKd k) out vs → (∀ b o, s.heap.get? b = some o → h'.get? b = some o) → s.heap.objs.size ≤ d → (∃ n, h'.get? d = some (seqObj "list" out.toArray n)) → Q (.ref d) { s with heap := h' }) :
    wpAny (model prog w) A (call (.builtin "sorted") [.ref l]) Q E s := by
  refine SrtO.sorted_ord (swo_kd k) hl hz (fun h2 h₁ a ha kk => ?_) fun out hs hb => ?_
  · refine kd_sortable (s := { s with heap := h₁ }) (by omega) (fun v hm => ?_) inj fun o e => ?_
    · obtain ⟨b, o, t, c, n, e, ho, hc, hd⟩ := hp v hm
      exact ⟨b, o, t, c, n, e, (kk b o ho).2, hc, hd⟩
    · have e' : some o = some (seqObj "list" vs.toArray 0) := e.symm.trans ha
      cases e'
      intro c
      exact absurd (Value.type.inj c) (by decide)
  · exact h _ _ out hs hb (fun b o e => sortedAll_old e) (Nat.le_succ _) (sortedAll_at s.heap vs out.toArray)
def ltK (k : V → Int) (x y : V) : Bool := decide (k x < k y)
theorem ltK_swo (k : V → Int) : SrtO.Swo (ltK k) := by
  refine ⟨fun x y h => ?_, fun x y z h1 h2 => ?_⟩
  · have a := of_decide_eq_true h
    exact decide_eq_false (by omega)
  · have a := of_decide_eq_false h1
    have b := of_decide_eq_false h2
    exact decide_eq_false (by omega)
theorem cr_sortedKd : CallR X (.builtin "sorted") (fun vs H Q => ∃ (a : Addr) (xs : List V) (k : V → Int), vs = [V.ref a] ∧ SqL X.K H a xs ∧ (∀ x ∈ xs, ∃ t y, x = V.ref t ∧ SqT X.K H t [.int (k x), y]) ∧ (∀ x ∈ xs, ∀ y ∈ xs, k x = k y → x = y) ∧
    ∀ ys p, SrtO.Srtd (ltK k) ys → SrtO.Stb (ltK k) ys xs → H p = none → Q (.ref p) (upd H p (.lst ys))) := by
  intro pins s σ H vs us Q I r h
  obtain ⟨a, xs, k, rfl, hs, hx, inj, q⟩ := h
  obtain ⟨its, rv, hl, hz⟩ := I.list hs
  obtain ⟨u, rfl, ru⟩ := vals1 r
  obtain rfl : u = Value.ref a := ru
  obtain ⟨e1, e2⟩ := refs_back rv fun x m => by
    obtain ⟨t, _, e, _⟩ := hx x m
    exact ⟨t, e⟩
  refine sorted_kd (k := fun u => k (backV u)) hl.isList (by rw [← rv.length]; exact hz) (fun v hv => ?_) (fun v hv u hu e => ?_) fun h' d out h1 h2 kp hd hn => ?_
  · obtain ⟨t, rfl⟩ := e2 v hv
    have hm : V.ref t ∈ xs := by rw [e1]; exact List.mem_map.mpr ⟨_, hv, rfl⟩
    obtain ⟨t', y, e, ht⟩ := hx _ hm
    cases e
    obtain ⟨its2, r2, ⟨o, ho, hc, n, hd⟩, _⟩ := I.tuple ht
    obtain ⟨u1, u2, rfl, ri, rj⟩ := vals2 r2
    obtain ⟨t1, rfl⟩ := ri
    exact ⟨t, o, t1, u2, n, rfl, ho, hc, hd⟩
  · obtain ⟨t, rfl⟩ := e2 v hv
    obtain ⟨t', rfl⟩ := e2 u hu
    have hm : V.ref t ∈ xs := by rw [e1]; exact List.mem_map.mpr ⟨_, hv, rfl⟩
    have hm' : V.ref t' ∈ xs := by rw [e1]; exact List.mem_map.mpr ⟨_, hu, rfl⟩
    have := inj _ hm _ hm' e
    cases this
    rfl
  · have h3 : ∀ u ∈ out, ∃ a, u = Value.ref a := fun u hu => e2 u (h2.perm.mem_iff.mp hu)
    obtain ⟨n, hn⟩ := hn
    have hb : SrtO.Stb (ltK k) (out.map backV) xs := by
      rw [e1]
      exact SrtO.Stb.map (ltK_swo k) backV h2
    refine ⟨.ref d, upd H d (.lst (out.map backV)), I.laid (t' := s.toks) kp hd ⟨?_, out, n, vals_back h3, hn⟩, rfl, q _ d (SrtO.srtd_map h1) hb (I.hok.fresh hd)⟩
    rw [hb.len]
    exact hz
def IsT3 (h : Heap) (v : Value) (x : Int × Int × Int) : Prop := ∃ a o t u y n, v = .ref a ∧ h.get? a = some o ∧ o.cls = .type "tuple" ∧ o.data = .seq #[.int x.1 t, .int x.2.1 u, .int x.2.2 y] n
def ltB3 (p q : Int × Int × Int) : Bool := !leT q p
theorem leT_iff {p q : Int × Int × Int} : leT p q = true ↔ p.1 < q.1 ∨ (p.1 = q.1 ∧ (p.2.1 < q.2.1 ∨ (p.2.1 = q.2.1 ∧ p.2.2 ≤ q.2.2))) := by
  unfold leT
  rw [Bool.or_eq_true, Bool.and_eq_true, decide_eq_true_eq, decide_eq_true_eq, leP_iff]
theorem ltB3_iff {p q : Int × Int × Int} : ltB3 p q = true ↔ p.1 < q.1 ∨ (p.1 = q.1 ∧ (p.2.1 < q.2.1 ∨ (p.2.1 = q.2.1 ∧ p.2.2 < q.2.2))) := by
  have : ltB3 p q = true ↔ ¬ leT q p = true := by unfold ltB3; cases leT q p <;> simp
  rw [this, leT_iff]
  omega
theorem ltB3_no {p q : Int × Int × Int} : ltB3 p q = false ↔ ¬ (p.1 < q.1 ∨ (p.1 = q.1 ∧ (p.2.1 < q.2.1 ∨ (p.2.1 = q.2.1 ∧ p.2.2 < q.2.2)))) := by
  rw [← ltB3_iff]
  cases ltB3 p q <;> simp
theorem leT_tot (a b : Int × Int × Int) (h : leT a b = false) : leT b a = true := by
  have : ¬ leT a b = true := by rw [h]; exact Bool.false_ne_true
  rw [leT_iff] at this ⊢
  omega
theorem leT_tr (a b c : Int × Int × Int) (h : leT a b = true) (h' : leT b c = true) : leT a c = true := by
  rw [leT_iff] at *
  omega
theorem leT_anti (a b : Int × Int × Int) (h : leT a b = true) (h' : leT b a = true) : a = b := by
  rw [leT_iff] at *
  exact Prod.ext (by omega) (Prod.ext (by omega) (by omega))
theorem isortT_eq {l m : List (Int × Int × Int)} (h : l.Pairwise (fun a b => leT a b = true)) (p : l.Perm m) : l = isort leT m :=
  List.Perm.eq_of_pairwise (fun a b _ _ x y => leT_anti a b x y) h (isort_srt leT_tot leT_tr m) (p.trans (isort_perm leT m).symm)
theorem swo_t3 {α : Type} (k : α → Int × Int × Int) : SrtO.Swo (fun v u => ltB3 (k v) (k u)) := by
  refine ⟨fun x y h => ?_, fun x y z h1 h2 => ?_⟩
  · have a := ltB3_iff.mp h
    refine ltB3_no.mpr ?_
    omega
  · have a := ltB3_no.mp h1
    have b := ltB3_no.mp h2
    refine ltB3_no.mpr ?_
    omega
theorem t3_cmp {prog : Program} {w : World} {A : Around} {s : Shared} {vs : List Value} {k : Value → Int × Int × Int} (hp : ∀ v ∈ vs, IsT3 s.heap v (k v)) : SrtO.Cmp prog w A s (tuples' true) (fun p => p.1 ∈ vs) (SrtO.lt2 (fun v u => ltB3 (k v) (k u))) := by
  intro p q hm hm'
  have h1 := hp _ hm
  have h2 := hp _ hm'
  show wpAny (model prog w) A (keyLt' (tuples' true) p.1 q.1) (fun r s' => s' = s ∧ r = ltB3 (k p.1) (k q.1)) (fun _ _ => False) s
  generalize k p.1 = x at h1 ⊢
  generalize k q.1 = x' at h2 ⊢
  obtain ⟨a, o, t, u, y, n, e, ho, hc, hd⟩ := h1
  obtain ⟨a', o', t', u', y', n', e', ho', hc', hd'⟩ := h2
  rw [e, e']
  refine PySem.W.kat_lt ho hd ho' hd' ?_
  show PySem.W.KatLex prog w A true (decide (3 < 3)) _ [(.int x.1 t, .int x'.1 t'), (.int x.2.1 u, .int x'.2.1 u'), (.int x.2.2 y, .int x'.2.2 y')] 0 s
  refine PySem.W.kat_cons (SeqAt.EqAt.int_int _ t _ t' prog w _ _ ?_)
  refine PySem.W.kat_go (fun e1 => PySem.W.kat_yes (PySem.W.kat_cons (SeqAt.EqAt.int_int _ u _ u' prog w _ _ (PySem.W.kat_go (fun e2 => PySem.W.kat_yes (PySem.W.kat_cons (SeqAt.EqAt.int_int _ y _ y' prog w _ _ (PySem.W.kat_go (fun e3 => PySem.W.kat_yes (PySem.W.kat_nil ⟨rfl, ?_⟩)) fun e3 => PySem.W.kat_no (TS.oneLt_ints _ ⟨rfl, ?_⟩))))) fun e2 => PySem.W.kat_no (TS.oneLt_ints _ ⟨rfl, ?_⟩))))) fun e1 => PySem.W.kat_no (TS.oneLt_ints _ ⟨rfl, ?_⟩)
  · have e1' : x.1 = x'.1 := by simpa using e1
    have e2' : x.2.1 = x'.2.1 := by simpa using e2
    have e3' : x.2.2 = x'.2.2 := by simpa using e3
    have : ltB3 x x' = false := ltB3_no.mpr (by omega)
    rw [this]; rfl
  · have e1' : x.1 = x'.1 := by simpa using e1
    have e2' : x.2.1 = x'.2.1 := by simpa using e2
    have e3' : ¬ x.2.2 = x'.2.2 := by simpa using e3
    rw [Bool.eq_iff_iff, decide_eq_true_eq, ltB3_iff]; omega
  · have e1' : x.1 = x'.1 := by simpa using e1
    have e2' : ¬ x.2.1 = x'.2.1 := by simpa using e2
    rw [Bool.eq_iff_iff, decide_eq_true_eq, ltB3_iff]; omega
  · have e1' : ¬ x.1 = x'.1 := by simpa using e1
    rw [Bool.eq_iff_iff, decide_eq_true_eq, ltB3_iff]; omega
theorem t3_firsts {h : Heap} : ∀ {vs : List Value}, (∀ v ∈ vs, ∃ x, IsT3 h v x) → ∃ fs : List Value, PySem.W.KatTups h vs fs ∧ fs.length = vs.length ∧ ∀ f ∈ fs, ∃ x t, f = Value.int x t
  | [], _ => ⟨[], PySem.W.KatTups.nil, rfl, fun _ hm => by simp at hm⟩
  | v :: vs, hp => by
    obtain ⟨fs, h1, h2, h3⟩ := t3_firsts (vs := vs) fun v' hm => hp v' (List.mem_cons_of_mem _ hm)
    obtain ⟨x, a, o, t, u, y, n, rfl, ho, hc, hd⟩ := hp v (by simp)
    refine ⟨.int x.1 t :: fs, PySem.W.KatTups.cons ho hc hd rfl h1, by simp [h2], fun f hm => ?_⟩
    rcases List.mem_cons.mp hm with rfl | hm
    · exact ⟨x.1, t, rfl⟩
    · exact h3 f hm
theorem t3_sortable {prog : Program} {w : World} {A : Around} {s : Shared} {a : Addr} {vs : List Value} {k : Value → Int × Int × Int} (h0 : 0 < vs.length) (hp : ∀ v ∈ vs, IsT3 s.heap v (k v)) (ha : ∀ o, s.heap.get? a = some o → o.cls ≠ .type "tuple") : SrtO.SortableO prog w A s a vs (fun v u => ltB3 (k v) (k u)) := by
  intro h' keep
  have hp' : ∀ v ∈ vs, IsT3 h' v (k v) := fun v hm => by
    obtain ⟨b, o, t, u, y, n, e, ho, hc, hd⟩ := hp v hm
    exact ⟨b, o, t, u, y, n, e, keep b o (fun z => by subst z; exact ha o ho hc) ho, hc, hd⟩
  obtain ⟨fs, h1, h2, h3⟩ := t3_firsts fun v hm => ⟨_, hp' v hm⟩
  refine ⟨tuples' true, fun Q E hq => ?_, t3_cmp hp'⟩
  refine PySem.W.kat_kind (T := .type "int") h1 (by omega) (fun f hm => ?_) (by rfl) ?_
  · obtain ⟨x, t, rfl⟩ := h3 f hm
    exact PySem.W.Looks.now
  · have e : (Value.type "int" != Value.type "tuple") = true := by first | decide +kernel | rfl | decide
    rw [e]
    exact hq
theorem sorted_t3 {prog : Program} {w : World} {A : Around} {s : Shared} {E : Value → Shared → Prop} {l : Addr} {vs : List Value} {k : Value → Int × Int × Int} {Q : Value → Shared → Prop} (hl : s.heap.IsList l vs.toArray) (hz : vs.length ≤ sizeLine) (hp : ∀ v ∈ vs, IsT3 s.heap v (k v))
    (h : ∀ (h' : Heap) (d : Addr) (out : List Value), SrtO.Srtd (fun v u => ltB3 (k v) (k u)) out → SrtO.Stb (fun v u => ltB3 (k v) (k u)) out vs → (∀ b o, s.heap.get? b = some o → h'.get? b = some o) → s.heap.objs.size ≤ d → (∃ n, h'.get? d = some (seqObj "list" out.toArray n)) → Q (.ref d) { s with heap := h' }) :
    wpAny (model prog w) A (call (.builtin "sorted") [.ref l]) Q E s := by
  refine SrtO.sorted_ord (swo_t3 k) hl hz (fun h2 h₁ a ha kk => ?_) fun out hs hb => ?_
  · refine t3_sortable (s := { s with heap := h₁ }) (by omega) (fun v hm => ?_) fun o e => ?_
    · obtain ⟨b, o, t, u, y, n, e, ho, hc, hd⟩ := hp v hm
      exact ⟨b, o, t, u, y, n, e, (kk b o ho).2, hc, hd⟩
    · have e' : some o = some (seqObj "list" vs.toArray 0) := e.symm.trans ha
      cases e'
      intro c
      exact absurd (Value.type.inj c) (by decide)
  · exact h _ _ out hs hb (fun b o e => sortedAll_old e) (Nat.le_succ _) (sortedAll_at s.heap vs out.toArray)
theorem cr_sortedT3 : CallR X (.builtin "sorted") (fun vs H Q => ∃ (a : Addr) (xs : List V) (k : V → Int × Int × Int), vs = [V.ref a] ∧ SqL X.K H a xs ∧ (∀ x ∈ xs, ∃ t, x = V.ref t ∧ SqT X.K H t [.int (k x).1, .int (k x).2.1, .int (k x).2.2]) ∧
    ∀ ys p, SrtO.Srtd (fun x y => ltB3 (k x) (k y)) ys → SrtO.Stb (fun x y => ltB3 (k x) (k y)) ys xs → H p = none → Q (.ref p) (upd H p (.lst ys))) := by
  intro pins s σ H vs us Q I r h
  obtain ⟨a, xs, k, rfl, hs, hx, q⟩ := h
  obtain ⟨its, rv, hl, hz⟩ := I.list hs
  obtain ⟨u, rfl, ru⟩ := vals1 r
  obtain rfl : u = Value.ref a := ru
  obtain ⟨e1, e2⟩ := refs_back rv fun x m => by
    obtain ⟨t, e, _⟩ := hx x m
    exact ⟨t, e⟩
  refine sorted_t3 (k := fun u => k (backV u)) hl.isList (by rw [← rv.length]; exact hz) (fun v hv => ?_) fun h' d out h1 h2 kp hd hn => ?_
  · obtain ⟨t, rfl⟩ := e2 v hv
    have hm : V.ref t ∈ xs := by rw [e1]; exact List.mem_map.mpr ⟨_, hv, rfl⟩
    obtain ⟨t', e, ht⟩ := hx _ hm
    cases e
    obtain ⟨its2, r2, ⟨o, ho, hc, n, hd⟩, _⟩ := I.tuple ht
    cases r2 with
    | cons ri r2 =>
      obtain ⟨u1, u2, rfl, rj, rk⟩ := vals2 r2
      obtain ⟨t1, rfl⟩ := ri
      obtain ⟨t2, rfl⟩ := rj
      obtain ⟨t3, rfl⟩ := rk
      exact ⟨t, o, t1, t2, t3, n, rfl, ho, hc, hd⟩
  · have h3 : ∀ u ∈ out, ∃ a, u = Value.ref a := fun u hu => e2 u (h2.perm.mem_iff.mp hu)
    obtain ⟨n, hn⟩ := hn
    have hb : SrtO.Stb (fun x y => ltB3 (k x) (k y)) (out.map backV) xs := by
      rw [e1]
      exact SrtO.Stb.map (swo_t3 k) backV h2
    refine ⟨.ref d, upd H d (.lst (out.map backV)), I.laid (t' := s.toks) kp hd ⟨?_, out, n, vals_back h3, hn⟩, rfl, q _ d (SrtO.srtd_map h1) hb (I.hok.fresh hd)⟩
    rw [hb.len]
    exact hz
theorem triplesOf_eq : ∀ {ds : List PyData} {ps : List (Int × Int × Int)}, triplesOf ds = some ps → ds = ps.map encT3 := by
  intro ds
  induction ds with
  | nil => intro ps h; cases h; rfl
  | cons d r ih =>
    intro ps h
    unfold triplesOf at h
    split at h
    · rename_i e; cases e
    · rename_i e
      cases e
      obtain ⟨q, h1, rfl⟩ := mpd h
      rw [ih h1]
      rfl
    · cases h
open Classical in
noncomputable def keyO3 (K : PySem.W.Frag) (H : Hp) (x : V) : Int × Int × Int := if h : ∃ p : Int × Int × Int, ∃ t, x = .ref t ∧ SqT K H t [.int p.1, .int p.2.1, .int p.2.2] then h.choose else (0, 0, 0)
theorem keyO3_eq {pins : List (Addr × Obj)} {s : Shared} {σ : L2.St} {H : Hp} (I : Inv X pins σ H s) {t : Addr} {p : Int × Int × Int} (h : SqT X.K H t [.int p.1, .int p.2.1, .int p.2.2]) : keyO3 X.K H (.ref t) = p := by
  unfold keyO3
  have e : ∃ p : Int × Int × Int, ∃ t', V.ref t = .ref t' ∧ SqT X.K H t' [.int p.1, .int p.2.1, .int p.2.2] := ⟨p, t, rfl, h⟩
  rw [dif_pos e]
  obtain ⟨t', e1, e2⟩ := e.choose_spec
  cases e1
  have := I.tuple_inj e2 h
  generalize e.choose = z at this
  obtain ⟨a, b, c⟩ := z
  cases this
  rfl
theorem keysOf_eq : ∀ {ds : List PyData} {ks : List (Int × PyData)}, keysOf ds = some ks → ds = ks.map encK := by
  intro ds
  induction ds with
  | nil => intro ps h; cases h; rfl
  | cons d r ih =>
    intro ps h
    unfold keysOf at h
    split at h
    · rename_i e; cases e
    · rename_i e
      cases e
      obtain ⟨q, h1, rfl⟩ := mpd h
      rw [ih h1]
      rfl
    · cases h
open Classical in
noncomputable def keyO1 (K : PySem.W.Frag) (H : Hp) (x : V) : Int := if h : ∃ k : Int, ∃ t y, x = .ref t ∧ SqT K H t [.int k, y] then h.choose else 0
theorem keyO1_eq {pins : List (Addr × Obj)} {s : Shared} {σ : L2.St} {H : Hp} (I : Inv X pins σ H s) {t : Addr} {k : Int} {y : V} (h : SqT X.K H t [.int k, y]) : keyO1 X.K H (.ref t) = k := by
  unfold keyO1
  have e : ∃ k : Int, ∃ t' y', V.ref t = .ref t' ∧ SqT X.K H t' [.int k, y'] := ⟨k, t, y, rfl, h⟩
  rw [dif_pos e]
  obtain ⟨t', y', e1, e2⟩ := e.choose_spec
  cases e1
  have := I.tuple_inj e2 h
  generalize e.choose = z at this
  cases this
  rfl
theorem leK_iff {p q : Int × PyData} : leK p q = true ↔ p.1 ≤ q.1 := by simp [leK]
theorem isortK_eq {l m : List (Int × PyData)} (nd : (m.map Prod.fst).Nodup) (h : l.Pairwise (fun a b => leK a b = true)) (p : l.Perm m) : l = isort leK m := by
  have inj : ∀ a ∈ m, ∀ b ∈ m, a.1 = b.1 → a = b := fun a ha b hb e => by
    obtain ⟨i, hi, rfl⟩ := List.getElem_of_mem ha
    obtain ⟨j, hj, rfl⟩ := List.getElem_of_mem hb
    have := (List.getElem_inj (h₀ := by rw [List.length_map]; exact hi) (h₁ := by rw [List.length_map]; exact hj) nd).mp (by rw [List.getElem_map, List.getElem_map]; exact e)
    subst this
    rfl
  have pm := isort_perm leK m
  refine List.Perm.eq_of_pairwise (le := fun a b => leK a b = true) (fun a b ha hb x y => inj a (p.mem_iff.mp ha) b (pm.mem_iff.mp hb) (by rw [leK_iff] at x y; omega)) h (isort_srt (fun a b e => ?_) (fun a b c x y => ?_) m) (p.trans pm.symm)
  · have : ¬ leK a b = true := by rw [e]; exact Bool.false_ne_true
    rw [leK_iff] at this ⊢
    omega
  · rw [leK_iff] at *
    omega
theorem perm_keys {ms ks : List (Int × PyData)} (nd : (ks.map Prod.fst).Nodup) (nm : (ms.map Prod.fst).Nodup) (p : (ms.map Prod.fst).Perm (ks.map Prod.fst)) (h : ∀ m ∈ ms, m ∈ ks) : ms.Perm ks := by
  have nd' : ks.Nodup := (List.pairwise_map.mp nd).imp fun {a b} h e => h (by rw [e])
  have nm' : ms.Nodup := (List.pairwise_map.mp nm).imp fun {a b} h e => h (by rw [e])
  refine (List.perm_ext_iff_of_nodup nm' nd').mpr fun a => ⟨h a, fun ha => ?_⟩
  have : a.1 ∈ ms.map Prod.fst := p.mem_iff.mpr (List.mem_map.mpr ⟨a, ha, rfl⟩)
  obtain ⟨b, hb, e⟩ := List.mem_map.mp this
  have hk := h b hb
  obtain ⟨i, hi, rfl⟩ := List.getElem_of_mem ha
  obtain ⟨j, hj, q⟩ := List.getElem_of_mem hk
  have := (List.getElem_inj (h₀ := by rw [List.length_map]; exact hj) (h₁ := by rw [List.length_map]; exact hi) nd).mp (by rw [List.getElem_map, List.getElem_map, q]; exact e)
  subst this
  rw [q]
  exact hb
theorem call_sortedX (hc : X.calm = true) : CallR X (.builtin "sorted") (fun xs H Q => ∃ d o ks vs, ∃ k : V → Int × Int, xs = [V.ref d] ∧ DxAt d o ks vs H ∧ ks.length ≤ sizeLine ∧ (∀ x ∈ ks, ∃ t, x = V.ref t ∧ SqT X.K H t [.int (k x).1, .int (k x).2]) ∧
    ∀ ys q, SrtO.Srtd (ltP k) ys → SrtO.Stb (ltP k) ys ks → H q = none → Q (.ref q) (upd H q (.lst ys))) := by
  intro pins s σ H xs us Q I r h
  obtain ⟨d, o, ks, vs, k, rfl, hdx, hz, hx, q⟩ := h
  obtain ⟨u, rfl, rx⟩ := vals1 r
  obtain rfl : u = Value.ref d := rx
  have hd := hdx.atO
  have rr := hdx.rows I
  obtain ⟨hs, hgd⟩ := hd.get I
  obtain ⟨hx0, es, ep, hdt, l1, l2, ent⟩ := id rr
  have pairs : ∀ (kx : V) (v : Value), kx ∈ ks → RelV kx v → Srt.IsPair s.heap v (k (backV v)).1 (k (backV v)).2 := fun kx v hm rv => by
    obtain ⟨t, e, ht⟩ := hx kx hm
    subst e
    obtain rfl : v = Value.ref t := rv
    obtain ⟨its2, r2, ⟨o, ho, hc, n, hd⟩, _⟩ := I.tuple ht
    obtain ⟨u1, u2, rfl, ri, rj⟩ := vals2 r2
    obtain ⟨t1, rfl⟩ := ri
    obtain ⟨t2, rfl⟩ := rj
    exact ⟨t, o, t1, t2, n, rfl, ho, hc, hd⟩
  refine SrtO.sorted_pairsD (k := fun u => k (backV u)) (kdl_raw hs hx0 hdt) (I.ok.hd hc) hgd (by omega) (fun j v hv => ?_) fun h' tk D out its hl hP h1 h2 kp hD hn => ?_
  · obtain ⟨en, hen, hv⟩ := hv
    obtain ⟨hj, ej⟩ := Array.getElem?_eq_some_iff.mp hen
    obtain ⟨kx, _, e1, _, r1, _⟩ := ent j hj
    rw [hv, ← ej]
    exact pairs kx _ (List.mem_of_getElem? e1) r1
  · have rv : Vals ks its := vals_of_at (by rw [hl, l1]) fun j x w h1 h2 => by
      obtain ⟨en, hen, hv⟩ := hP j w h2
      obtain ⟨hj, ej⟩ := Array.getElem?_eq_some_iff.mp hen
      obtain ⟨kx, _, e1, _, r1, _⟩ := ent j hj
      rw [h1] at e1
      cases e1
      rw [hv, ← ej]
      exact r1
    obtain ⟨e1, e2⟩ := refs_back rv fun x m => by
      obtain ⟨t, e, _⟩ := hx x m
      exact ⟨t, e⟩
    have h3 : ∀ u ∈ out, ∃ a, u = Value.ref a := fun u hu => e2 u (h2.perm.mem_iff.mp hu)
    obtain ⟨n, hn⟩ := hn
    have hb : SrtO.Stb (ltP k) (out.map backV) ks := by
      rw [e1]
      exact SrtO.Stb.map (ltP_swo k) backV h2
    refine ⟨.ref D, upd H D (.lst (out.map backV)), I.laid (t' := tk) kp hD ⟨?_, out, n, vals_back h3, hn⟩, rfl, q _ D (SrtO.srtd_map h1) hb (I.hok.fresh hD)⟩
    rw [hb.len]
    exact hz
theorem pairs_keys {F H : Hp} {pins : List (Addr × Obj)} {s : Shared} {σ : L2.St} (I : Inv X pins σ H s) (sf : Same F H) : ∀ {vs : List V} {ps : List (Int × Int)}, RpAll X.K F vs (ps.map encP) → vs.map (keyOf X.K H) = ps ∧ ∀ x ∈ vs, (∃ t, x = V.ref t ∧ SqT X.K H t [.int (keyOf X.K H x).1, .int (keyOf X.K H x).2]) ∧ Rp X.K F x (encP (keyOf X.K H x)) := by
  intro vs
  induction vs with
  | nil =>
    intro ps h
    cases ps with
    | nil => exact ⟨rfl, fun x hx => absurd hx (by simp)⟩
    | cons _ _ => cases h
  | cons x r ih =>
    intro ps h
    cases ps with
    | nil => cases h
    | cons q qs =>
      cases h with
      | cons a t =>
        obtain ⟨i1, i2⟩ := ih t
        cases a with
        | tup ht hr =>
          have e2 := RpAll.ints (ns := [q.1, q.2]) hr
          subst e2
          have hk : keyOf X.K H _ = q := keyOf_eq I (Same.sqT sf ht.sqT)
          refine ⟨by rw [List.map_cons, i1, hk], fun y hy => ?_⟩
          rcases List.mem_cons.mp hy with rfl | hy
          · rw [hk]
            exact ⟨⟨_, rfl, Same.sqT sf ht.sqT⟩, .tup ht hr⟩
          · exact i2 y hy
theorem b_sorted (hc : X.calm = true) : CallR X (.builtin "sorted") (rnS X.K (biD .sorted)) := by
  intro pins s σ H xs us Q I rs h
  obtain ⟨F, rv, r, sf, ws, h, k⟩ := h
  unfold biD at h
  split at h <;> try (first | contradiction | (cases h; done) | (rename_i e; cases e; done))
  rcases sortedR_cases h with ⟨ds, hd, h⟩ | ⟨rest, ps, hd, hp, rfl⟩
  rotate_left
  · obtain ⟨x, rfl, w⟩ := views1 ws
    obtain ⟨a, o, kvs, ds, rfl, ha, kn, ra, rfl⟩ := w.dt sf hd
    have l1 := ra.length
    rw [List.length_map] at l1
    have e1 : (((kvs.map fun x => x.1).map keyT).zip ds).map (fun p => p.1) = (kvs.map fun x => x.1).map keyT := List.map_fst_zip (by rw [List.length_map, List.length_map]; omega)
    rw [e1] at hp
    have rk : ∀ {zs : TK}, KeysN X.K F zs → RpAll X.K F (zs.map fun x => V.ref x.2.1) ((zs.map fun x => x.1).map keyT) := by
      intro zs
      induction zs with
      | nil => intro _; exact .nil
      | cons z zs ih => intro hz; exact .cons (.tup (hz z (by simp)) (.ofInts _)) (ih fun y hy => hz y (by simp [hy]))
    have rp := rk kn
    rw [pairsOf_eq hp] at rp
    obtain ⟨e2, e3⟩ := pairs_keys I sf rp
    refine call_sortedX hc pins s σ H _ us Q I rs ⟨a, o, _, _, keyOf X.K H, rfl, .inr ⟨kvs, ha, rfl, rfl⟩, by rw [List.length_map]; exact dt_small I ha, fun x hx => (e3 x hx).1, fun ys q srt stb n => ?_⟩
    have pm : ys.Perm (kvs.map fun x => V.ref x.2.1) := stb.perm
    have ry : ∀ zs : List V, (∀ z ∈ zs, z ∈ kvs.map fun x => V.ref x.2.1) → RpAll X.K F zs ((zs.map (keyOf X.K H)).map encP) := by
      intro zs
      induction zs with
      | nil => intro _; exact .nil
      | cons z r ih => intro hz; exact .cons (e3 z (hz z (by simp))).2 (ih fun y hy => hz y (by simp [hy]))
    have r2 := ry ys fun z hz => pm.mem_iff.mp hz
    have srt2 : (ys.map (keyOf X.K H)).Pairwise (fun a b => leP a b = true) := by
      rw [List.pairwise_map]
      refine List.Pairwise.imp ?_ srt
      intro a b hab
      have := SrtO.lexB_no.mp hab
      rw [leP_iff]
      omega
    have pm2 : (ys.map (keyOf X.K H)).Perm ps := by
      have := pm.map (keyOf X.K H)
      rw [e2] at this
      exact this
    rw [isortP_eq srt2 pm2] at r2
    obtain ⟨x1, w1⟩ := viewNew (K := X.K) sf n r2
    exact k _ _ _ x1 w1 (newOl n)
  obtain ⟨x, rfl, w⟩ := views1 ws
  obtain ⟨p, vs, rfl, hp, rp⟩ := w.lstv sf hd
  unfold sortedD at h
  split at h
  · rename_i ps e
    cases h
    obtain rfl := pairsOf_eq e
    have key : ∀ {vs : List V} {ps : List (Int × Int)}, RpAll X.K F vs (ps.map encP) → vs.map (keyOf X.K H) = ps ∧ ∀ x ∈ vs, (∃ t, x = V.ref t ∧ SqT X.K H t [.int (keyOf X.K H x).1, .int (keyOf X.K H x).2]) ∧ Rp X.K F x (encP (keyOf X.K H x)) := by
      intro vs
      induction vs with
      | nil =>
        intro ps h
        cases ps with
        | nil => exact ⟨rfl, fun x hx => absurd hx (by simp)⟩
        | cons _ _ => cases h
      | cons x r ih =>
        intro ps h
        cases ps with
        | nil => cases h
        | cons q qs =>
          cases h with
          | cons a t =>
            obtain ⟨i1, i2⟩ := ih t
            cases a with
            | tup ht hr =>
              have e2 := RpAll.ints (ns := [q.1, q.2]) hr
              subst e2
              have hk : keyOf X.K H _ = q := keyOf_eq I (Same.sqT sf ht.sqT)
              refine ⟨by rw [List.map_cons, i1, hk], fun y hy => ?_⟩
              rcases List.mem_cons.mp hy with rfl | hy
              · rw [hk]
                exact ⟨⟨_, rfl, Same.sqT sf ht.sqT⟩, .tup ht hr⟩
              · exact i2 y hy
    obtain ⟨e1, e2⟩ := key rp
    refine cr_sortedQ pins s σ H _ us Q I rs ⟨p, vs, keyOf X.K H, rfl, SqL.of hp, fun x hx => (e2 x hx).1, fun ys a srt stb n => ?_⟩
    have pm : ys.Perm vs := stb.perm
    have ry : ∀ zs : List V, (∀ z ∈ zs, z ∈ vs) → RpAll X.K F zs ((zs.map (keyOf X.K H)).map encP) := by
      intro zs
      induction zs with
      | nil => intro _; exact .nil
      | cons z r ih => intro hz; exact .cons (e2 z (hz z (by simp))).2 (ih fun y hy => hz y (by simp [hy]))
    have r2 := ry ys fun z hz => pm.mem_iff.mp hz
    have srt2 : (ys.map (keyOf X.K H)).Pairwise (fun a b => leP a b = true) := by
      rw [List.pairwise_map]
      refine List.Pairwise.imp ?_ srt
      intro a b hab
      have := SrtO.lexB_no.mp hab
      rw [leP_iff]
      omega
    have pm2 : (ys.map (keyOf X.K H)).Perm ps := by
      have := pm.map (keyOf X.K H)
      rw [e1] at this
      exact this
    rw [isortP_eq srt2 pm2] at r2
    obtain ⟨x1, w1⟩ := viewNew (K := X.K) sf n r2
    exact k _ _ _ x1 w1 (newOl n)
  · split at h
    · rename_i ns hn
      cases h
      obtain rfl := intsOf_eq hn
      obtain rfl := rp.ints
      refine cr_sortedI pins s σ H _ us Q I rs ⟨p, ns, rfl, SqL.of hp, fun ms a pm srt n => ?_⟩
      rw [isortI_eq srt pm]
      obtain ⟨x1, w1⟩ := viewNew (K := X.K) sf n (RpAll.ofInts (K := X.K) (F := F) (isort leI ns))
      exact k _ _ _ x1 w1 (newOl n)
    · split at h
      · rename_i ts e
        cases h
        obtain rfl := triplesOf_eq e
        have key : ∀ {vs : List V} {ps : List (Int × Int × Int)}, RpAll X.K F vs (ps.map encT3) → vs.map (keyO3 X.K H) = ps ∧ ∀ x ∈ vs, (∃ t, x = V.ref t ∧ SqT X.K H t [.int (keyO3 X.K H x).1, .int (keyO3 X.K H x).2.1, .int (keyO3 X.K H x).2.2]) ∧ Rp X.K F x (encT3 (keyO3 X.K H x)) := by
          intro vs
          induction vs with
          | nil =>
            intro ps h
            cases ps with
            | nil => exact ⟨rfl, fun x hx => absurd hx (by simp)⟩
            | cons _ _ => cases h
          | cons x r ih =>
            intro ps h
            cases ps with
            | nil => cases h
            | cons q qs =>
              cases h with
              | cons a t =>
                obtain ⟨i1, i2⟩ := ih t
                cases a with
                | tup ht hr =>
                  have e2 := RpAll.ints (ns := [q.1, q.2.1, q.2.2]) hr
                  subst e2
                  have hk : keyO3 X.K H _ = q := keyO3_eq I (Same.sqT sf ht.sqT)
                  refine ⟨by rw [List.map_cons, i1, hk], fun y hy => ?_⟩
                  rcases List.mem_cons.mp hy with rfl | hy
                  · rw [hk]
                    exact ⟨⟨_, rfl, Same.sqT sf ht.sqT⟩, .tup ht hr⟩
                  · exact i2 y hy
        obtain ⟨e1, e2⟩ := key rp
        refine cr_sortedT3 pins s σ H _ us Q I rs ⟨p, vs, keyO3 X.K H, rfl, SqL.of hp, fun x hx => (e2 x hx).1, fun ys a srt stb n => ?_⟩
        have pm : ys.Perm vs := stb.perm
        have ry : ∀ zs : List V, (∀ z ∈ zs, z ∈ vs) → RpAll X.K F zs ((zs.map (keyO3 X.K H)).map encT3) := by
          intro zs
          induction zs with
          | nil => intro _; exact .nil
          | cons z r ih => intro hz; exact .cons (e2 z (hz z (by simp))).2 (ih fun y hy => hz y (by simp [hy]))
        have r2 := ry ys fun z hz => pm.mem_iff.mp hz
        have srt2 : (ys.map (keyO3 X.K H)).Pairwise (fun a b => leT a b = true) := by
          rw [List.pairwise_map]
          refine List.Pairwise.imp ?_ srt
          intro a b hab
          have := ltB3_no.mp hab
          rw [leT_iff]
          omega
        have pm2 : (ys.map (keyO3 X.K H)).Perm ts := by
          have := pm.map (keyO3 X.K H)
          rw [e1] at this
          exact this
        rw [isortT_eq srt2 pm2] at r2
        obtain ⟨x1, w1⟩ := viewNew (K := X.K) sf n r2
        exact k _ _ _ x1 w1 (newOl n)
      obtain ⟨ks, e, h⟩ := bnd h
      split at h
      · rename_i nd
        cases h
        obtain rfl := keysOf_eq e
        have key : ∀ {vs : List V} {ks : List (Int × PyData)}, RpAll X.K F vs (ks.map encK) → vs.map (keyO1 X.K H) = ks.map Prod.fst ∧ ∀ (i : Nat) (x : V) (q : Int × PyData), vs[i]? = some x → ks[i]? = some q → (∃ t y, x = V.ref t ∧ SqT X.K H t [.int (keyO1 X.K H x), y]) ∧ keyO1 X.K H x = q.1 ∧ Rp X.K F x (encK q) := by
          intro vs
          induction vs with
          | nil =>
            intro ks h
            cases ks with
            | nil => exact ⟨rfl, fun i x q hx => by simp at hx⟩
            | cons _ _ => cases h
          | cons x r ih =>
            intro ks h
            cases ks with
            | nil => cases h
            | cons q qs =>
              cases h with
              | cons a t =>
                obtain ⟨i1, i2⟩ := ih t
                cases a with
                | tup ht hr =>
                  cases hr with
                  | cons hr1 hr2 =>
                    cases hr1
                    cases hr2 with
                    | cons hr3 hr4 =>
                      cases hr4
                      have hk : keyO1 X.K H _ = q.1 := keyO1_eq I (Same.sqT sf ht.sqT)
                      refine ⟨by rw [List.map_cons, List.map_cons, i1, hk], fun i y z hy hz => ?_⟩
                      cases i with
                      | zero =>
                        simp only [List.getElem?_cons_zero, Option.some.injEq] at hy hz
                        subst hy; subst hz
                        rw [hk]
                        exact ⟨⟨_, _, rfl, Same.sqT sf ht.sqT⟩, rfl, .tup ht (.cons (.int _) (.cons hr3 .nil))⟩
                      | succ i => exact i2 i y z (by simpa using hy) (by simpa using hz)
        obtain ⟨e1, e2⟩ := key rp
        have len : vs.length = ks.length := by rw [← List.length_map (f := keyO1 X.K H), e1, List.length_map]
        have at2 : ∀ x ∈ vs, ∃ (i : Nat) (q : Int × PyData), vs[i]? = some x ∧ ks[i]? = some q := fun x hx => by
          obtain ⟨i, hi, rfl⟩ := List.getElem_of_mem hx
          exact ⟨i, ks[i]'(by omega), List.getElem?_eq_getElem hi, List.getElem?_eq_getElem (by omega)⟩
        have ndv : (vs.map (keyO1 X.K H)).Nodup := by rw [e1]; exact nd
        refine cr_sortedKd pins s σ H _ us Q I rs ⟨p, vs, keyO1 X.K H, rfl, SqL.of hp, fun x hx => ?_, fun x hx y hy e => ?_, fun ys a srt stb n => ?_⟩
        · obtain ⟨i, q, h1, h2⟩ := at2 x hx
          exact (e2 i x q h1 h2).1
        · obtain ⟨i, hi, rfl⟩ := List.getElem_of_mem hx
          obtain ⟨j, hj, rfl⟩ := List.getElem_of_mem hy
          have := (List.getElem_inj (h₀ := by rw [List.length_map]; exact hi) (h₁ := by rw [List.length_map]; exact hj) ndv).mp (by rw [List.getElem_map, List.getElem_map]; exact e)
          subst this
          rfl
        · have pm : ys.Perm vs := stb.perm
          -- what each sorted thing stands for
          have ry : ∀ zs : List V, (∀ z ∈ zs, z ∈ vs) → ∃ ms : List (Int × PyData), RpAll X.K F zs (ms.map encK) ∧ ms.map Prod.fst = zs.map (keyO1 X.K H) ∧ ∀ m ∈ ms, m ∈ ks := by
            intro zs
            induction zs with
            | nil => intro _; exact ⟨[], .nil, rfl, fun m hm => absurd hm (by simp)⟩
            | cons z r ih =>
              intro hz
              obtain ⟨ms, r1, r2, r3⟩ := ih fun y hy => hz y (by simp [hy])
              obtain ⟨i, q, h1, h2⟩ := at2 z (hz z (by simp))
              obtain ⟨_, g2, g3⟩ := e2 i z q h1 h2
              refine ⟨q :: ms, .cons g3 r1, by rw [List.map_cons, List.map_cons, r2, g2], fun m hm => ?_⟩
              rcases List.mem_cons.mp hm with rfl | hm
              · exact List.mem_of_getElem? h2
              · exact r3 m hm
          obtain ⟨ms, r1, r2, r3⟩ := ry ys fun z hz => pm.mem_iff.mp hz
          have pk : (ms.map Prod.fst).Perm (ks.map Prod.fst) := by
            rw [r2, ← e1]
            exact pm.map _
          have pm2 : ms.Perm ks := perm_keys nd (pk.symm.nodup nd) pk r3
          have srt2 : ms.Pairwise (fun a b => leK a b = true) := by
            have : (ms.map Prod.fst).Pairwise (· ≤ ·) := by
              rw [r2, List.pairwise_map]
              refine List.Pairwise.imp ?_ srt
              intro a b hab
              have := of_decide_eq_false hab
              omega
            rw [List.pairwise_map] at this
            exact this.imp fun {a b} x => leK_iff.mpr x
          rw [isortK_eq nd srt2 pm2] at r1
          obtain ⟨x1, w1⟩ := viewNew (K := X.K) sf n r1
          exact k _ _ _ x1 w1 (newOl n)
      · cases h
def isIsI : Bi → Bool
  | .isI _ => true
  | _ => false
theorem r_bi (hc : X.calm = true) : ∀ b : Bi, isIsI b = false → CallR X (biV b) (rnS X.K (biD b))
  | .len, _ => b_len
  | .sum, _ => b_sum hc
  | .min2, _ => b_min2 hc
  | .max2, _ => b_max2 hc
  | .minL, _ => b_minL hc
  | .maxL, _ => b_maxL hc
  | .any, _ => b_any hc
  | .all, _ => b_all hc
  | .int, _ => b_int
  | .str, _ => b_str
  | .tup, _ => b_tup
  | .list, _ => b_list hc
  | .sorted, _ => b_sorted hc
  | .isI t, h => by cases h
def rIS (K : PySem.W.Frag) (t : Ty) : List V → Hp → VK → Prop := fun xs H Q => ∃ x d, xs = [x, .ty (tyN t)] ∧ Rp K H x d ∧ notScr d = true ∧ Q (.bl (isD t d)) H
theorem r_isI (t : Ty) : CallR X (.builtin "isinstance") (rIS X.K t) := by
  refine CallR.imp (CallR.or call_isi call_isiX) fun xs H Q ⟨x, d, e, h, n, q⟩ => ?_
  cases hr : dRows d with
  | none => exact .inl ⟨x, .ty (tyN t), _, _, isD t d, e, .ty _, rp_ty h n hr, kit_ty (kit_isD d t), q⟩
  | some r =>
    refine .inr ?_
    cases h with
    | dK ha ra => exact ⟨_, .ty (tyN t), _, isD t _, e, .ty _, .inl ⟨_, _, ha⟩, kit_ty (kit_isD (.dict _) t), q⟩
    | dT ha kn ra => exact ⟨_, .ty (tyN t), _, isD t _, e, .ty _, .inr ⟨_, _, ha⟩, kit_ty (kit_isD (.dict _) t), q⟩
    | _ => cases hr
end
end Mn
namespace Mn
open PySem PySem.Spec PyProof.Rows L2
section
variable {X : Cx} {pins : List (Addr × Obj)} {σ : L2.St} {H : Hp} {sI s : Shared} {a : Addr} {o : HO}
end
section
variable {X : Cx} {x n : Str} {c : Value} {i : Nat} {body rest : List Stmt} {st0 : Stmt} {q1 q2 q3 : Pos} {tb : WX → TS} {ts : TS} {W0 : WX}
end
end Mn
namespace Mn
open PySem PySem.Spec PyProof.Rows L2
inductive Xat (K : PySem.W.Frag) (F : Hp) : Value → Option Addr → PyData → Prop
  | x0 {C : Addr} {nm : Str} : ClsAt K nm C → Xat K F (.ref C) none (xd0 nm)
  | x1 {C dx : Addr} {nm f : Str} {v : V} {e : PyData} : ClsAt K nm C → F dx = some (.xd [(f, v)]) → Rp K F v e → Xat K F (.ref C) (some dx) (xd1 nm f e)
structure XcK (K : PySem.W.Frag) (C : Addr) : Prop where
  cl : PySem.W.isClsIn K C = true
  ga : PySem.W.findIn K (.ref C) "__getattribute__" = some (some (.builtin "BaseException.__getattribute__"))
  gt : PySem.W.findIn K (.ref C) "__getattr__" = some none
  sb : PySem.W.subIn K (.ref C) (.type "BaseException") = some true
  ca : PySem.W.findIn K (.ref C) "__class__" = some (some (.builtin "object.__class__"))
  mo : PySem.W.mroIn K C (.type "object") = some true
  hd : PySem.W.hasDictIn K C = true
  ty : PySem.W.typeIn K (.ref C) = some (.type "type")
  kp : PySem.W.keepIn K (.ref C) = true
  ve : PySem.W.subIn K (.ref C) (.type "ValueError") = some true
structure XcD (K : PySem.W.Frag) (C : Addr) : Prop where
  cl : PySem.W.isClsIn K C = true
  ty : PySem.W.typeIn K (.ref C) = some (.type "type")
  sb : PySem.W.subIn K (.ref C) (.type "BaseException") = some true
structure XcOk (K : PySem.W.Frag) (mg : Str → Option Value) (rzs cls fls m0s : List Str) : Prop where
  rz : ∀ nm ∈ rzs, ∃ C, ClsAt K nm C ∧ XcK K C ∧ ∀ f ∈ fls, PySem.W.findIn K (.ref C) f = some none
  ds : ∀ nm ∈ cls, ∃ C, ClsAt K nm C ∧ mg nm = some (.ref C) ∧ XcD K C
  pr : ∀ nm ∈ rzs, ∀ D ∈ cls, ∀ C E, ClsAt K nm C → ClsAt K D E → PySem.W.kitOne K (.ref C) (.ref E) = some (subX nm D) ∧ PySem.W.exmOne K (.ref C) (.ref E) = some (subX nm D)
  m0 : ∀ nm ∈ m0s, ∃ C, ClsAt K nm C ∧ mg nm = some (.ref C) ∧ XcK K C ∧ PySem.W.excIn K C [.type "ValueError", .type "Exception", .type "BaseException", .type "object"] "ValueError.__new__" = true
  nv : rzs ≠ [] → mg "ValueError" = none
  sp : rzs ≠ [] → PySem.W.specialIn K (.builtin "object.__class__") "__get__" = some (some (.builtin "getset_descriptor.__get__")) ∧ PySem.W.takesIn K (.builtin "object.__class__") = some true
theorem XcOk.none {K : PySem.W.Frag} {mg : Str → Option Value} : XcOk K mg [] [] [] [] :=
  ⟨fun _ h => by simp at h, fun _ h => by simp at h, fun _ h => by simp at h, fun _ h => by simp at h, fun h => absurd rfl h, fun h => absurd rfl h⟩
theorem ClsAt.eq {K : PySem.W.Frag} {nm : Str} {C E : Addr} (a : ClsAt K nm C) (b : ClsAt K nm E) : C = E := by
  have := a.symm.trans b
  cases this; rfl
section
variable {K : PySem.W.Frag} {F H : Hp} {v : V} {r : RV} {nm : Str}
theorem Rp.fld {d e : PyData} {f : Str} (h : Rp K F v d) (x : xfl f (.fz d) = some (nm, e)) : ∃ a C dx w, v = .ref a ∧ F a = some (ExC (.ref C) (some dx) a) ∧ ClsAt K nm C ∧ F dx = some (.xd [(f, w)]) ∧ Rp K F w e := by
  cases h with
  | xc1 h q g r =>
    unfold xfl at x
    dsimp only at x
    split at x
    · rename_i hf
      cases x
      subst hf
      exact ⟨_, _, _, _, rfl, h, q, g, r⟩
    · cases x
  | _ => simp [xfl] at x
theorem Xat.rp {cv : Value} {dd : Option Addr} {d : PyData} (x : Xat K F cv dd d) {a : Addr} (n : F a = none) : Rp K (upd F a (ExC cv dd a)) (.ref a) d := by
  cases x with
  | x0 q => exact .xc0 upd_same q
  | x1 q g r => exact .xc1 upd_same q (by rw [upd_ne (ne_of_none g n)]; exact g) (r.mono (Same.upd n))
theorem Xat.mono {F' : Hp} {cv : Value} {dd : Option Addr} {d : PyData} (e : Same F F') (x : Xat K F cv dd d) : Xat K F' cv dd d := by
  cases x with
  | x0 q => exact .x0 q
  | x1 q g r => exact .x1 q (e _ _ g) (r.mono e)
end
section
variable {X : Cx}
end
end Mn
namespace Mn
open PySem PySem.Spec PyProof.Rows L2
structure SeI (K : PySem.W.Frag) (mg : Str → Option Value) (S : Addr) : Prop where
  gS : mg "SplitError" = some (.ref S)
  rd : PySem.W.readsIn K S (.type "type") = true
  ga : PySem.W.specialIn K (.ref S) "__getattribute__" = some (some (.builtin "type.__getattribute__"))
  at_ : PySem.W.findCls K (.ref S) (.type "type") "__init__" = some (.val (.builtin "ValueError.__init__"))
section
variable {X : Cx} {S : Addr} {e : Expr} {es : List Expr} {ta : TA} {p1 p2 pos : Pos}
end
def spI (C : Addr) (f : Str) : Sp := fun vs H Q _ => ∃ a v, vs = [.ref a, v] ∧ H a = some (exo a C none) ∧ ∀ dx, H dx = none → dx ≠ a → Q .non (upd (upd H dx (exd dx [(f, v)])) a (exo a C (some dx)))
structure X1 (P : Program) (w : World) (K : PySem.W.Frag) (mg : Str → Option Value) (base : Heap) (nm f : Str) : Prop where
  ex : ∃ (C fI : Addr) (fd : FuncData) (ps : List Str), ClsAt K nm C ∧ mg nm = some (.ref C) ∧ OexC K C ∧ PySem.W.findIn K (.ref C) "__init__" = some (some (.ref fI)) ∧ PySem.W.typeIn K (.ref fI) = some (.type "function") ∧ Binds K fd ps [] ∧ FnOk P w K mg base CX0 1 fI fd ps (spI C f)
section
variable {X : Cx} {Wx : WX} {e : Expr} {te : TE} {nm f : Str} {p pos pos2 : Pos}
end
end Mn
namespace Mn
open PySem PySem.Spec PyProof.Rows L2
def KDcs (K : PySem.W.Frag) (w : World) (a : Addr) (x : Str) (r : Option V) : Prop :=
  (a == sysModules) = false ∧ ∃ es n u, K.lookup a = some ⟨.type "dict", none, .dict es n, #[]⟩ ∧ PySem.W.KeysLit w.params es.toList ∧ PySem.W.nsIn K a x = some u ∧ RelO r u
section
variable {X : Cx}
end
def GdAt (K : PySem.W.Frag) (mg : Str → Option Value) (w : World) (gds : List (Str × List (Str × PyData))) : Prop := ∀ x kvs, gds.lookup x = some kvs → ∃ a, mg x = some (.ref a) ∧ (∀ z d, kvs.lookup z = some d → ∃ v, KDct K w a z v ∧ ∀ F, Rp K F v d) ∧ (a == sysModules) = false ∧ ∀ z, kvs.lookup z = none → KDcs K w a z none
theorem GdAt.none {K : PySem.W.Frag} {mg : Str → Option Value} {w : World} : GdAt K mg w [] := fun _ _ h => by cases h
theorem KDct.some {K : PySem.W.Frag} {w : World} {a : Addr} {x : Str} {v : V} (h : KDct K w a x v) (n : (a == sysModules) = false) : KDcs K w a x (some v) := by
  obtain ⟨es, k, u, h1, h2, h3, h4⟩ := h
  exact ⟨n, es, k, _, h1, h2, h3, h4⟩
def KeysBe : List DictEntry → List Str → Prop
  | [], [] => True
  | e :: r, k :: ks => (∃ t, e.key = .str k t) ∧ KeysBe r ks
  | _, _ => False
theorem KeysBe.no {z : Str} : ∀ {l : List DictEntry} {ks : List Str}, KeysBe l ks → ks.contains z = false → l.find? (·.key.isStr z) = none ∧ l.any (·.refKey) = false
  | [], [], _, _ => ⟨rfl, rfl⟩
  | e :: r, k :: ks, ⟨⟨t, h⟩, q⟩, n => by
    simp only [List.contains_cons, Bool.or_eq_false_iff] at n
    obtain ⟨h1, h2⟩ := q.no n.2
    have hz : e.key.isStr z = false := by
      rw [h]
      show (k == z) = false
      have := n.1
      rw [beq_eq_false_iff_ne] at this ⊢
      exact fun e => this e.symm
    have hr : e.refKey = false := by
      unfold DictEntry.refKey
      rw [h]
    exact ⟨by rw [List.find?_cons, hz]; exact h1, by rw [List.any_cons, hr, h2]; rfl⟩
  | [], _ :: _, h, _ => h.elim
  | _ :: _, [], h, _ => h.elim
section
variable {X : Cx} {pins : List (Addr × Obj)} {σ : L2.St} {H : Hp} {s : Shared}
end
end Mn
namespace Mn
open PySem PySem.Spec PyProof.Rows L2
inductive HdM (X : Cx) : List ExceptHandler → List (Value × Option Nat × TS) → Prop
  | nil : HdM X [] []
  | named {x n : Str} {c : Value} {i : Nat} {ts : TS} {st0 : Stmt} {rest : List Stmt} {q1 q2 : Pos} {hds : List ExceptHandler} {l : List (Value × Option Nat × TS)} (nm : Names X x c) (hi : X.N[i]? = some n) (hl : X.env.kindOf n = some .local) (hz : ∀ (a : Addr) (pn : List (Addr × Obj)), PSs (X.suite a pn) (st0 :: rest) ts) (r : HdM X hds l) :
      HdM X (.ExceptHandler (some (.Name x q1)) (some n) (st0 :: rest) q2 :: hds) ((c, some i, ts) :: l)
  | plain {x : Str} {c : Value} {ts : TS} {st0 : Stmt} {rest : List Stmt} {q1 q2 : Pos} {hds : List ExceptHandler} {l : List (Value × Option Nat × TS)} (nm : Names X x c) (hz : ∀ (a : Addr) (pn : List (Addr × Obj)), PSs (X.suite a pn) (st0 :: rest) ts) (r : HdM X hds l) :
      HdM X (.ExceptHandler (some (.Name x q1)) none (st0 :: rest) q2 :: hds) ((c, none, ts) :: l)
section
variable {X : Cx} {body : List Stmt} {h₀ : ExceptHandler} {hds : List ExceptHandler} {l : List (Value × Option Nat × TS)} {q3 : Pos} {tb : WX → TS} {W0 : WX}
end
end Mn
namespace Mn
open PySem PySem.Spec PyProof.Rows L2
structure FnN (P : Program) (w : World) (K : PySem.W.Frag) (mg : Str → Option Value) (base : Heap) (k : Nat) (f : Addr) (fd : FuncData) (ps : List Str) (sp : Sp) : Prop where
  len : ∀ vs H Q E, sp vs H Q E → vs.length = ps.length
  run : ∀ (A : Around) (outer : List Env) (s : Shared) (H : Hp) (args : Args) (us : List Value) (vs : List V) (Q : VK) (E : XK), L2H.RoomH k A → Env0 P w K mg base A outer s H → BindsTo s fd args (ps.zip us) → Vals vs us → sp vs H Q E →
    codeAny (model P w) A (.call (.ref f) args) (CR CX0 outer P w H s Q E) s
section
variable {P : Program} {w : World} {K : PySem.W.Frag} {mg : Str → Option Value} {base : Heap}
end
section
variable {X : Cx} {k : Nat} {f : Addr} {fd : FuncData} {ps : List Str} {sp : Sp} {x : Str} {q pos : Pos} {e : Expr} {es : List Expr} {t : TA}
end
def AskAt (K : PySem.W.Frag) (cs : List Str) (v : V) (H : Hp) (nm : Str) : Prop := ∃ a C dd, v = .ref a ∧ H a = some (ExC (.ref C) dd a) ∧ (∀ d, dd = some d → ∃ fs, H d = some (.xd fs)) ∧ XcK K C ∧ ∀ D ∈ cs, ∀ E, ClsAt K D E → PySem.W.kitOne K (.ref C) (.ref E) = some (subX nm D)
def spAl (K : PySem.W.Frag) (d : AlD) : Sp := fun vs H Q _ => ∃ v nm, vs = [v] ∧ AskAt K d.cl v H nm ∧ Q (.bl (d.ask nm)) H
structure AlOk (P : Program) (w : World) (K : PySem.W.Frag) (mg : Str → Option Value) (base : Heap) (g : Str) (d : AlD) : Prop where
  ex : ∃ (f : Addr) (fd : FuncData) (ps : List Str), mg g = some (.ref f) ∧ PySem.W.keepIn K (.ref f) = true ∧ Binds K fd ps [] ∧ FnN P w K mg base 1 f fd ps (spAl K d)
def gloS (sc : Scope) (x : Str) : Bool := decide (sc.names.lookup x = some NameKind.globalImplicit)
section
variable {X : Cx} {en kn : Str} {cs : List Str} {sc : Scope}
structure AlX (X : Cx) (sc : Scope) (en kn : Str) (cs : List Str) : Prop where
  hs : X.env.scope = sc
  n0 : X.N[0]? = some en
  n1 : X.N[1]? = some kn
  nd : X.N.Nodup
  l0 : sc.names.lookup en = some .local
  l1 : sc.names.lookup kn = some .local
  e0 : (en == ("__debug__" : Str)) = false ∧ (en == ("__classdict__" : Str)) = false
  e1 : (kn == ("__debug__" : Str)) = false ∧ (kn == ("__classdict__" : Str)) = false
  bi : X.mg "int" = none
  bs : X.mg "isinstance" = none
  bv : X.mg "ValueError" = none
  sp : PySem.W.specialIn X.K (.builtin "object.__class__") "__get__" = some (some (.builtin "getset_descriptor.__get__")) ∧ PySem.W.takesIn X.K (.builtin "object.__class__") = some true
  ds : ∀ D ∈ cs, ∃ C, ClsAt X.K D C ∧ X.mg D = some (.ref C)
theorem AlX.gl (C : AlX X sc en kn cs) {x : Str} (h : gloS sc x = true) : Gl X x := by
  show X.env.scope.names.lookup x = some .globalImplicit
  rw [C.hs]
  exact of_decide_eq_true h
end
end Mn
namespace Mn
open PySem PySem.Spec PyProof.Rows L2
structure Sx where
  sc : Scope
  N : List Str
  fn : Str → Bool
  fns : List Str
  gls : List Str
  /-- defs that may raise -/
  xns : List Str := []
  /-- defs and methods that change a tree; defs that give one back -/
  tns : List (Option Str × Str × Nat) := []
  rns : List Str := []
  /-- classes that are made, by their __init__ -/
  cns : List (Nat × Str) := []
def Sx.vis (s : Sx) (x : Str) : Bool := match s.sc.names.lookup x with
  | some .local => true
  | some .cell => true
  | some .free => true
  | _ => false
def Sx.glo (s : Sx) (x : Str) : Bool := decide (s.sc.names.lookup x = some .globalImplicit)
def Sx.loc (s : Sx) (x : Str) : Bool := match s.sc.names.lookup x with
  | some .local => true
  | some .cell => s.fn x
  | _ => false
def okN (x : Str) : Bool := !(x == ("__debug__" : Str)) && !(x == ("__classdict__" : Str))
def boIs : Bo → Operator → Bool
  | .add, .Add => true
  | .sub, .Sub => true
  | .mul, .Mult => true
  | .fdiv, .FloorDiv => true
  | .mod, .Mod => true
  | .pow, .Pow => true
  | _, _ => false
def coIs : Co → CmpOp → Bool
  | .eq, .Eq => true
  | .ne, .NotEq => true
  | .lt, .Lt => true
  | .le, .LtE => true
  | .gt, .Gt => true
  | .ge, .GtE => true
  | .isN, .Is => true
  | .noN, .IsNot => true
  | .inn, .In => true
  | .nin, .NotIn => true
  | _, _ => false
def biN : Bi → Str
  | .len => "len"
  | .sum => "sum"
  | .min2 => "min"
  | .max2 => "max"
  | .minL => "min"
  | .maxL => "max"
  | .any => "any"
  | .all => "all"
  | .int => "int"
  | .str => "str"
  | .tup => "tuple"
  | .list => "list"
  | .sorted => "sorted"
  | .isI _ => "isinstance"
def tyS (t : Ty) : Str := (tyN t : String)
def biT : Bi → Ty
  | .isI t => t
  | _ => .int
def bnames : List Str := ["len", "sum", "min", "max", "any", "all", "int", "str", "tuple", "list", "sorted", "isinstance", "bool", "dict", "range", "zip", "enumerate", "reversed"]
def baseOk : Expr → Bool
  | .Call (.Name _ _) [] [] _ => false
  | _ => true
def Sx.blk (s : Sx) (scope : Scope) : Sx := { s with sc := relS scope s.sc, fn := fun x => scope.names.lookup x == some .cell }
def tgIn : Tg → List Nat → Bool
  | .nm i, own => own.contains i
  | .tp is, own => is.all own.contains
def chkNs (s : Sx) : List Nat → List Expr → Bool
  | [], [] => true
  | i :: is, .Name x _ :: es => decide (s.N[i]? = some x) && s.loc x && chkNs s is es
  | _, _ => false
def chkTg (s : Sx) : Tg → Expr → Bool
  | .nm i, .Name x _ => decide (s.N[i]? = some x) && s.loc x
  | .tp is, .Tuple es _ _ => chkNs s is es
  | _, _ => false
def isTup : Expr → Bool
  | .Tuple _ _ _ => true
  | _ => false
def ownN (s : Sx) (own : List Nat) : List (Str × Nat) := own.map fun i => (s.N.getD i ⟨#[]⟩, i)
def chkV (s : Sx) (i : Nat) : Expr → Bool
  | .Name x _ => decide (s.N[i]? = some x) && s.vis x && okN x
  | _ => false
def chkP : Pth → Sx → Expr → Bool
  | .nm i, s, e => chkV s i e
  | .iv p i, s, e => match e with
    | .Subscript x y _ => chkP p s x && chkV s i y
    | _ => false
  | .ic p n, s, e => match e with
    | .Subscript x (.Constant (.int m) _ _) _ => chkP p s x && decide (m = n)
    | _ => false
  | .ia p i n, s, e => match e with
    | .Subscript x (.BinOp y .Add (.Constant (.int m) _ _) _) _ => chkP p s x && chkV s i y && decide (m = n)
    | _ => false
  | .fl p f, s, e => match e with
    | .Attribute o nm _ => decide (nm = f) && baseOk o && chkP p s o
    | _ => false
mutual
def chkE : Ex → Sx → Expr → Bool
  | .var i, s, e => match e with
    | .Name x _ => decide (s.N[i]? = some x) && s.vis x && okN x
    | _ => false
  | .int i, s, e => match e with
    | .Constant (.int j) _ _ => decide (i = j)
    | _ => false
  | .str x, s, e => match e with
    | .Constant (.str y) _ _ => decide (x = y)
    | _ => false
  | .bl x, s, e => match e with
    | .Constant (.bool y) _ _ => decide (x = y)
    | _ => false
  | .non, s, e => match e with
    | .Constant .none _ _ => true
    | _ => false
  | .glb g, s, e => false
  | .bin o a b, s, e => match e with
    | .BinOp l op r _ => boIs o op && chkE a s l && chkE b s r
    | _ => false
  | .neg a, s, e => false
  | .not a, s, e => match e with
    | .UnaryOp .Not x _ => chkE a s x
    | _ => false
  | .one a, s, e => match e with
    | .BoolOp _ [x] _ => chkE a s x
    | _ => false
  | .and a b, s, e => match e with
    | .BoolOp .And (x :: y :: r) pos => chkE a s x && chkE b s (.BoolOp .And (y :: r) pos)
    | _ => false
  | .or a b, s, e => match e with
    | .BoolOp .Or (x :: y :: r) pos => chkE a s x && chkE b s (.BoolOp .Or (y :: r) pos)
    | _ => false
  | .cmp o a b, s, e => match e with
    | .Compare l [op] [r] _ => coIs o op && chkE a s l && chkE b s r && !behindInMarks op r
    | _ => false
  | .chn o o' a b c, s, e => false
  | .chn3 o o' o2 a b c d, s, e => false
  | .dsx kvs k, s, e => false
  | .dsv k1 k2 a b k, s, e => false
  | .isx a D, s, e => false
  | .fld a f, s, e => false
  | .mkx C a, s, e => false
  | .gdx g k, s, e => false
  | .gin g k neg, s, e => false
  | .lenD i, s, e => false
  | .lenI i k, s, e => false
  | .rvt a, s, e => false
  | .jrv a b, s, e => false
  | .rvl a, s, e => false
  | .sls a lo st, s, e => false
  | .ite t a b, s, e => false
  | .tup es, s, e => match e with
    | .Tuple xs _ _ => chkEs es s xs
    | _ => false
  | .lst es, s, e => match e with
    | .List xs _ => chkEs es s xs
    | _ => false
  | .call f es, s, e => match e with
    | .Call (.Name x _) xs [] _ => decide (s.fns[f]? = some x) && s.glo x && okN x && chkEs es s xs
    | _ => false
  | .bi b es, s, e => match e with
    | .Call (.Name x _) xs [] _ => decide (x = biN b) && s.glo x && (if isIsI b then (match xs with
      | [y, .Name z _] => decide (z = tyS (biT b)) && s.glo z && chkEs es s [y]
      | _ => false) else !xs.isEmpty && chkEs es s xs)
    | _ => false
  | .mt m a es, s, e => false
  | .idx a i, s, e => match e with
    | .Subscript x y _ => chkE a s x && chkE i s y
    | _ => false
  | .slc a lo hi, s, e => match e with
    | .Subscript x (.Slice l h none _) _ => chkE a s x && chkO lo s l && chkO hi s h
    | _ => false
  | .emp, s, e => false
  | .pth p, s, e => chkP p s e
  | .lnd i, s, e => chkV s i e
  | .isj a D, s, e => match e with
    | .Call (.Name x _) [y, .Name z _] [] _ => decide (x = "isinstance") && s.glo x && decide (z = D) && s.glo z && okN z && chkE a s y
    | _ => false
  | .fjd a f, s, e => match e with
    | .Attribute o nm _ => decide (nm = f) && baseOk o && chkE a s o
    | _ => false
  | .mtj a m es, s, e => match e with
    | .Call (.Attribute o nm apos) xs [] cpos => decide (nm = m) && (apos.endLine == cpos.line) && decide (xs.length < 30) && baseOk o && chkE a s o && chkEs es s xs
    | _ => false
  | .mkj f es, s, e => match e with
    | .Call (.Name y _) xs [] _ => decide ((f, y) ∈ s.cns) && s.glo y && okN y && chkEs es s xs
    | _ => false
  | .dT1 k v, s, e => match e with
    | .Dict [some x] [y] _ => chkE k s x && chkE v s y
    | _ => false
  | .lenP p, s, e => false
  | .dnK, s, e => false
  | .dnT, s, e => false
  | .dzp a b, s, e => false
  | .sumv a, s, e => false
  | .comp e tg it t own, s, p => match p with
    | .ListComp elt [⟨tg', iter, ifs, k⟩] scope _ => decide (k = 0) && blkC s.N s.sc scope (ownN s own) && tgIn tg own && chkI it s tg' iter && chkTg (s.blk scope) tg tg' && chkE e (s.blk scope) elt && chkT t (s.blk scope) ifs
    | _ => false
def chkO : Ex → Sx → Option Expr → Bool
  | .emp, _, e => match e with
    | none => true
    | _ => false
  | .one a, s, e => match e with
    | some x => chkE a s x
    | _ => false
  | _, _, _ => false
def chkT : Ex → Sx → List Expr → Bool
  | .emp, _, e => match e with
    | [] => true
    | _ => false
  | .one a, s, e => match e with
    | [x] => chkE a s x
    | _ => false
  | _, _, _ => false
def chkEs : Exs → Sx → List Expr → Bool
  | .nil, _, e => match e with
    | [] => true
    | _ => false
  | .cons a as, s, e => match e with
    | x :: xs => chkE a s x && chkEs as s xs
    | _ => false
def chkI : Itr → Sx → Expr → Expr → Bool
  | .ex a, s, _, e => chkE a s e
  | .r1 a, s, _, e => match e with
    | .Call (.Name x _) [y] [] _ => decide (x = "range") && s.glo x && chkE a s y
    | _ => false
  | .r2 a b, s, _, e => match e with
    | .Call (.Name x _) [y, z] [] _ => decide (x = "range") && s.glo x && chkE a s y && chkE b s z
    | _ => false
  | .r3 a b c, s, _, e => false
  | .zip a b, s, tg, e => match e with
    | .Call (.Name x _) [y, z] [] _ => decide (x = "zip") && s.glo x && isTup tg && chkE a s y && chkE b s z
    | _ => false
  | .zip3 a b c, s, tg, e => false
  | .en a, s, tg, e => match e with
    | .Call (.Name x _) [y] [] _ => decide (x = "enumerate") && s.glo x && isTup tg && chkE a s y
    | _ => false
  | .rv a, s, tg, e => false
  | .its a, s, tg, e => false
  | .vals a, s, tg, e => false
  | .exD i k, s, tg, e => false
  | .zipD i k j l, s, tg, e => false
end
def plainX : Expr → Bool
  | .Starred _ _ => false
  | .Slice _ _ _ _ => false
  | .Set _ _ _ => false
  | _ => true
theorem chkP_plain {a : Pth} {s : Sx} {e : Expr} (h : chkP a s e = true) : plainX e = true := by
  cases e with
  | Starred _ _ => cases a <;> simp [chkP, chkV] at h
  | Slice _ _ _ _ => cases a <;> simp [chkP, chkV] at h
  | Set _ _ _ => cases a <;> simp [chkP, chkV] at h
  | _ => rfl
theorem chk_plain {a : Ex} {s : Sx} {e : Expr} (h : chkE a s e = true) : plainX e = true := by
  cases e with
  | Starred _ _ => cases a <;> first | (simp [chkE] at h; done) | (simp [chkE, chkV] at h; done) | (rename_i p; exact chkP_plain (a := p) (by simpa [chkE] using h))
  | Slice _ _ _ _ => cases a <;> first | (simp [chkE] at h; done) | (simp [chkE, chkV] at h; done) | (rename_i p; exact chkP_plain (a := p) (by simpa [chkE] using h))
  | Set _ _ _ => cases a <;> first | (simp [chkE] at h; done) | (simp [chkE, chkV] at h; done) | (rename_i p; exact chkP_plain (a := p) (by simpa [chkE] using h))
  | _ => rfl
theorem star_of {e : Expr} (h : plainX e = true) (es : List Expr) (env : Env) : starEach (e :: es) env = (false, eval e env) :: starEach es env := by
  cases e with
  | Starred _ _ => cases h
  | _ => rfl
theorem set_of {e : Expr} (h : plainX e = true) (env : Env) (x : Value) : foldedSetIterable e env x = pure x := by
  cases e with
  | Set _ _ _ => cases h
  | _ => rfl
theorem ix_of {e : Expr} (h : plainX e = true) : PlainIx e := by
  intro o i
  cases e with
  | Slice _ _ _ _ => cases h
  | _ => rfl
theorem chks_plain : ∀ {as : Exs} {s : Sx} {es : List Expr}, chkEs as s es = true → ∀ e ∈ es, plainX e = true
  | .nil, s, [], _, e, he => by simp at he
  | .nil, s, _ :: _, h, _, _ => by simp [chkEs] at h
  | .cons a as, s, [], h, _, _ => by simp [chkEs] at h
  | .cons a as, s, x :: xs, h, e, he => by
    simp only [chkEs, Bool.and_eq_true] at h
    rcases List.mem_cons.mp he with rfl | he
    · exact chk_plain h.1
    · exact chks_plain h.2 e he
theorem plain_any {env : Env} {pos : Pos} : ∀ {es : List Expr}, (∀ e ∈ es, plainX e = true) → (backTo pos (starEach es env)).any (·.1) = false
  | [], _ => rfl
  | e :: es, h => by
    rw [star_of (h e (by simp)) es env]
    show (false || (backTo pos (starEach es env)).any (·.1)) = false
    rw [plain_any fun x hx => h x (List.mem_cons_of_mem _ hx)]
    rfl
theorem base_of {o : Expr} (h : baseOk o = true) (nm : Str) (env : Env) (w : Sem Value) : attributeBase o nm env w = w := by
  unfold attributeBase
  split
  · cases h
  · rfl
structure Callee (X : Cx) (nm : Str) (np : Nat) (sem : List PyData → Option RV) : Prop where
  ex : ∃ (CX : CXT) (k : Nat) (f : Addr) (fd : FuncData) (ps : List Str), Room k X.A ∧ X.mg nm = some (.ref f) ∧ PySem.W.keepIn X.K (.ref f) = true ∧ Binds X.K fd ps [] ∧
    FnOk X.prog X.w X.K X.mg X.base CX k f fd ps (fun vs H Q _ => ∃ F ds r, Same F H ∧ RpAll X.K F vs ds ∧ ds.length = np ∧ sem ds = some r ∧ ∀ v F' H', Ext F H F' H' → View X.K F' H' v r → New r v H H' → Q v H') ∧
    ∀ outer H s e s', CX outer H s E0 e s' → False
structure CalleeX (X : Cx) (nm : Str) (np : Nat) (sem : List PyData → Option RV) : Prop where
  ex : ∃ (k : Nat) (f : Addr) (fd : FuncData) (ps : List Str), Room k X.A ∧ X.mg nm = some (.ref f) ∧ PySem.W.keepIn X.K (.ref f) = true ∧ Binds X.K fd ps [] ∧
    FnOk X.prog X.w X.K X.mg X.base (L2.CX X.prog X.w) k f fd ps (fun vs H Q E => ∃ F ds r, Same F H ∧ RpAll X.K F vs ds ∧ ds.length = np ∧ sem ds = some r ∧ (∀ v F' H', Ext F H F' H' → View X.K F' H' v r → New r v H H' → Q v H') ∧
      ∀ d, r = .xr d → ∀ F' H' cv dd, Ext F H F' H' → Xat X.K F' cv dd d → E cv dd H')
def restT (H : Hp) (ps : List Addr) : Hp := fun b => if b ∈ ps then none else H b
def PinsAt (H : Hp) (v : V) (t : OT) (pw : List (List Stp)) (ls : List V) : Prop := ∀ (n : Nat) w, pw[n]? = some w → ∃ a u, ls[n]? = some a ∧ t.sub w = some u ∧ u.isNd = true ∧ walkH H v w = some a
def spT (K : PySem.W.Frag) (q np : Nat) (fit : OT → Bool) (sem : List (List Stp) → OT → List PyData → Option (RV × OT)) : Sp := fun vs H Q E => ∃ F v t ps pw ls vs1 vs2 ds r u,
  vs = vs1 ++ v :: vs2 ∧ vs1.length = q ∧ Same F H ∧ Tr K F H v t ps ∧ ps.Nodup ∧ t.isNd = true ∧ fit t = true ∧ PinsAt H v t pw ls ∧ RpAll K F (vs1 ++ vs2) ds ∧ ds.length + 1 = np ∧ sem pw t ds = some (r, u) ∧
  (∀ rv F' H' qs, Ext F (restT H ps) F' H' → View K F' H' rv r → Tr K F' H' v u qs → qs.Nodup → (∀ b ∈ qs, b ∈ ps ∨ H b = none) → PinsAt H' v u pw ls → (∀ b, Foot H' r rv b → (b ∈ ps ∨ H b = none) ∧ b ∉ qs) → Q rv H') ∧
  ∀ d, r = .xr d → ∀ F' H' qs cv dd, Ext F (restT H ps) F' H' → Tr K F' H' v u qs → qs.Nodup → (∀ b ∈ qs, b ∈ ps ∨ H b = none) → PinsAt H' v u pw ls → Xat K F' cv dd d → E cv dd H'
def fitC : Option (Str × Str) → OT → Bool
  | none, _ => true
  | some nm, .nd (.ob nm' fs) _ => decide (nm.1 = nm') && !fs.contains nm.2
  | _, _ => false
structure CalleeT (X : Cx) (cn : Option Str) (nm : Str) (q np : Nat) (sem : List (List Stp) → OT → List PyData → Option (RV × OT)) : Prop where
  ex : ∃ (k : Nat) (f : Addr) (fd : FuncData) (ps : List Str), Room k X.A ∧ PySem.W.keepIn X.K (.ref f) = true ∧ Binds X.K fd ps [] ∧ FnOk X.prog X.w X.K X.mg X.base (L2.CX X.prog X.w) k f fd ps (spT X.K q np (fitC (cn.map fun x => (x, nm))) sem) ∧
    match cn with
    | none => X.mg nm = some (.ref f)
    | some cl => q = 0 ∧ ∀ C, ClsAt X.K cl C → L2.Cls X.K C ∧ L2.Meth X.K C nm f
structure MakeT (X : Cx) (nm : Str) (np : Nat) (sem : List (List Stp) → OT → List PyData → Option (RV × OT)) : Prop where
  ex : ∃ (k : Nat) (C f : Addr) (fd : FuncData) (ps : List Str), Room (k + 1) X.A ∧ X.mg nm = some (.ref C) ∧ ClsAt X.K nm C ∧ L2.Mk X.K C f ∧ Binds X.K fd ps [] ∧ FnOk X.prog X.w X.K X.mg X.base (L2.CX X.prog X.w) k f fd ps (spT X.K 0 np (fitC (some (nm, ("__init__" : Str)))) sem)
structure CalleeR (X : Cx) (nm : Str) (np : Nat) (sem : List PyData → Option OT) : Prop where
  ex : ∃ (CX : CXT) (k : Nat) (f : Addr) (fd : FuncData) (ps : List Str), Room k X.A ∧ X.mg nm = some (.ref f) ∧ PySem.W.keepIn X.K (.ref f) = true ∧ Binds X.K fd ps [] ∧
    FnOk X.prog X.w X.K X.mg X.base CX k f fd ps (fun vs H Q _ => ∃ F ds t, Same F H ∧ RpAll X.K F vs ds ∧ ds.length = np ∧ sem ds = some t ∧ ∀ v F' H' qs, Ext F H F' H' → Tr X.K F' H' v t qs → qs.Nodup → (∀ b ∈ qs, H b = none) → Q v H') ∧
    ∀ outer H s e s', CX outer H s E0 e s' → False
structure CalleeI (X : Cx) (cl m : Str) (sem : List PyData → Option RV) : Prop where
  ex : ∃ (CX : CXT) (k : Nat) (f : Addr) (fd : FuncData) (ps : List Str) (np : Nat), Room k X.A ∧ PySem.W.keepIn X.K (.ref f) = true ∧ Binds X.K fd ps [] ∧ (∀ C, ClsAt X.K cl C → L2.Cls X.K C ∧ L2.Meth X.K C m f) ∧ (∀ ds r, sem ds = some r → ds.length = np) ∧
    FnOk X.prog X.w X.K X.mg X.base CX k f fd ps (fun vs H Q _ => ∃ F ds r, Same F H ∧ RpAll X.K F vs ds ∧ ds.length = np ∧ sem ds = some r ∧ ∀ v F' H', Ext F H F' H' → View X.K F' H' v r → New r v H H' → Q v H') ∧
    ∀ outer H s e s', CX outer H s E0 e s' → False
structure IsJ (K : PySem.W.Frag) (C E : Addr) (b : Bool) : Prop where
  cl : L2.Cls K C
  ha : PySem.W.findIn K (.ref C) "__class__" = some (some (.builtin "object.__class__"))
  hn : PySem.W.specialIn K (.builtin "object.__class__") "__get__" = some (some (.builtin "getset_descriptor.__get__"))
  htk : PySem.W.takesIn K (.builtin "object.__class__") = some true
  hm : PySem.W.mroIn K C (.type "object") = some true
  one : PySem.W.kitOne K (.ref C) (.ref E) = some b
structure CO (X : Cx) (s : Sx) (c : Cl) : Prop where
  sc : X.env.scope = s.sc
  N : X.N = s.N
  nd : X.N.Nodup
  fn : X.fn = s.fn
  calm : X.calm = true
  un : X.A.units + 200 < cLine
  bn : ∀ x ∈ bnames, X.mg x = none
  fns : ∀ f x, s.fns[f]? = some x → ∃ np, (∀ ds r, c.call f ds = some r → ds.length = np) ∧ Callee X x np (c.call f)
  gls : ∀ g x d, s.gls[g]? = some x → c.glb g = some d → ∃ u v, X.mg x = some u ∧ RelV v u ∧ ∀ F, Rp X.K F v d
  xfn : ∀ f x, s.xns[f]? = some x → ∃ np, (∀ ds r, c.callx f ds = some r → ds.length = np) ∧ CalleeX X x np (c.callx f)
  xc : XcOk X.K X.mg c.rzs c.cls c.fls c.m0s
  x1 : ∀ nm f, c.m1s.lookup nm = some f → X1 X.prog X.w X.K X.mg X.base nm f ∧ Room 2 X.A
  gd : GdAt X.K X.mg X.w c.gds
  /-- classes and their fields -/
  ofs : ∀ nm f, (nm, f) ∈ c.ofs → ∀ C, ClsAt X.K nm C → L2.Cls X.K C ∧ L2.NoAttr X.K C f
  tfn : ∀ f cn x q, s.tns[f]? = some (cn, x, q) → c.tcs f = (cn.map fun y => (y, x)) ∧ ∃ np, (∀ pw t ds z, c.callt f pw t ds = some z → ds.length + 1 = np) ∧ CalleeT X cn x q np (c.callt f)
  mkc : ∀ f x, (f, x) ∈ s.cns → c.tcs f = some (x, ("__init__" : Str)) ∧ ∃ np, (∀ pw t ds z, c.callt f pw t ds = some z → ds.length + 1 = np) ∧ MakeT X x np (c.callt f)
  rfn : ∀ f x, s.rns[f]? = some x → ∃ np, (∀ ds t, c.callr f ds = some t → ds.length = np) ∧ CalleeR X x np (c.callr f)
  /-- defs that a clause may call -/
  al : ∀ g d, c.als.lookup g = some d → AlOk X.prog X.w X.K X.mg X.base g d ∧ L2H.RoomH 1 X.A
  im : ∀ cl m sm, c.ims.lookup (cl, m) = some sm → CalleeI X cl m sm
  ja : ∀ nm D b, c.jas.lookup (nm, D) = some b → ∃ E, X.mg D = some (.ref E) ∧ ∀ C, ClsAt X.K nm C → IsJ X.K C E b
structure TrOk (K : PySem.W.Frag) (F H : Hp) (env : Ev) (σ : L2.St) : Prop where
  tr : ∀ (i : Nat) pw t, env[i]? = some (some (.tr pw t)) → ∃ v ps, σ[i]? = some (some v) ∧ Tr K F H v t ps ∧ ps.Nodup
  al : ∀ (j i : Nat) w pw t, env[j]? = some (some (.al i w)) → env[i]? = some (some (.tr pw t)) → ∃ v x u, σ[i]? = some (some v) ∧ σ[j]? = some (some x) ∧ t.sub w = some u ∧ u.isNd = true ∧ walkH H v w = some x
def Keeps (env env' : Ev) (σ σ' : L2.St) : Prop := ∀ (i : Nat) r, env'[i]? = some (some r) → r.pl = false → env[i]? = some (some r) ∧ σ'[i]? = σ[i]?
structure EnvOk (K : PySem.W.Frag) (F H : Hp) (env : Ev) (σ : L2.St) : Prop where
  sub : Same F H
  len : env.length = σ.length
  at_ : ∀ (i : Nat) r, env[i]? = some (some r) → r.pl = true → ∃ v, σ[i]? = some (some v) ∧ View K F H v r
  tr_ : TrOk K F H env σ
theorem TrOk.keeps {K : PySem.W.Frag} {F H : Hp} {env env' : Ev} {σ σ' : L2.St} (ok : TrOk K F H env σ) (k : Keeps env env' σ σ') : TrOk K F H env' σ' where
  tr := fun i pw t h => by
    obtain ⟨h1, h2⟩ := k i _ h rfl
    rw [h2]
    exact ok.tr i pw t h1
  al := fun j i w pw t h h' => by
    obtain ⟨h1, h2⟩ := k j _ h rfl
    obtain ⟨h3, h4⟩ := k i _ h' rfl
    rw [h2, h4]
    exact ok.al j i w pw t h1 h3
theorem Keeps.refl (env : Ev) (σ : L2.St) : Keeps env env σ σ := fun i r h _ => ⟨h, rfl⟩
theorem Keeps.trans {env env' env2 : Ev} {σ σ' σ2 : L2.St} (a : Keeps env env' σ σ') (b : Keeps env' env2 σ' σ2) : Keeps env env2 σ σ2 := fun i r h p => by
  obtain ⟨h1, h2⟩ := b i r h p
  obtain ⟨h3, h4⟩ := a i r h1 p
  exact ⟨h3, h2.trans h4⟩
theorem Keeps.set {env : Ev} {σ : L2.St} {i : Nat} {r : Option RV} {v : Option V} (h : ∀ q, r = some q → q.pl = true) : Keeps env (env.set i r) σ (σ.set i v) := fun j q hj p => by
  by_cases e : i = j
  · subst e
    by_cases hi : i < env.length
    · rw [List.getElem?_set_self hi] at hj
      cases hj
      rw [h q rfl] at p
      cases p
    · rw [List.getElem?_eq_none (by simpa using hi)] at hj; cases hj
  · rw [List.getElem?_set_ne e] at hj ⊢
    exact ⟨hj, rfl⟩
theorem Keeps.set0 {env : Ev} {σ : L2.St} {i : Nat} {r : Option RV} (h : ∀ q, r = some q → q.pl = true) : Keeps env (env.set i r) σ σ := fun j q hj p => by
  by_cases e : i = j
  · subst e
    by_cases hi : i < env.length
    · rw [List.getElem?_set_self hi] at hj
      cases hj
      rw [h q rfl] at p
      cases p
    · rw [List.getElem?_eq_none (by simpa using hi)] at hj; cases hj
  · rw [List.getElem?_set_ne e] at hj
    exact ⟨hj, rfl⟩
theorem stepH_mono {H H' : Hp} (e : Same H H') {v x : V} {s : Stp} (h : stepH H v s = some x) : stepH H' v s = some x := by
  cases v with
  | ref p =>
    cases s with
    | ix k =>
      have h : (match H p with | some (.lst vs) => vs[k]? | some (.frz _ (.tup vs)) => vs[k]? | _ => none) = some x := h
      show (match H' p with | some (.lst vs) => vs[k]? | some (.frz _ (.tup vs)) => vs[k]? | _ => none) = some x
      cases q : H p with
      | none => rw [q] at h; cases h
      | some o => rw [q] at h; rw [e _ _ q]; exact h
    | fl f =>
      have h : (match H p with | some (.ins _ _ fs) => fs.lookup f | _ => none) = some x := h
      show (match H' p with | some (.ins _ _ fs) => fs.lookup f | _ => none) = some x
      cases q : H p with
      | none => rw [q] at h; cases h
      | some o => rw [q] at h; rw [e _ _ q]; exact h
  | _ => cases s <;> cases h
theorem walkH_mono {H H' : Hp} (e : Same H H') : ∀ {w : List Stp} {v x : V}, walkH H v w = some x → walkH H' v w = some x
  | [], v, x, h => h
  | s :: r, v, x, h => by
    obtain ⟨y, h1, h2⟩ := Option.bind_eq_some_iff.mp (show (stepH H v s).bind _ = some x from h)
    show (stepH H' v s).bind _ = some x
    rw [stepH_mono e h1]
    exact walkH_mono e h2
theorem TrOk.ext {K : PySem.W.Frag} {F H F' H' : Hp} {env : Ev} {σ : L2.St} (ok : TrOk K F H env σ) (x : Ext F H F' H') : TrOk K F' H' env σ where
  tr := fun i pw t h => by
    obtain ⟨v, ps, h1, h2, h3⟩ := ok.tr i pw t h
    exact ⟨v, ps, h1, h2.ext x, h3⟩
  al := fun j i w pw t h h' => by
    obtain ⟨v, y, u, h1, h2, h3, h4, h5⟩ := ok.al j i w pw t h h'
    exact ⟨v, y, u, h1, h2, h3, h4, walkH_mono x.same h5⟩
theorem EnvOk.ext {K : PySem.W.Frag} {F H F' H' : Hp} {env : Ev} {σ : L2.St} (ok : EnvOk K F H env σ) (x : Ext F H F' H') : EnvOk K F' H' env σ :=
  ⟨x.sub, ok.len, fun i r h hp => let ⟨v, h1, h2⟩ := ok.at_ i r h hp; ⟨v, h1, h2.ext x⟩, ok.tr_.ext x⟩
def tE (K : PySem.W.Frag) (c : Cl) (e : Ex) : TE := fun σ H Q => ∃ F env r, EnvOk K F H env σ ∧ ev c env e = some r ∧ ∀ v F' H', Ext F H F' H' → View K F' H' v r → (isVar e = false → New r v H H') → Q v H'
def tT (K : PySem.W.Frag) (c : Cl) (e : Ex) : TT := fun σ H Q => ∃ F env b, EnvOk K F H env σ ∧ ev c env e = some (.fz (.bool b)) ∧ ∀ F' H', Ext F H F' H' → Q b H'
def tA (K : PySem.W.Frag) (c : Cl) (es : Exs) : TA := fun σ H Q => ∃ F env rs, EnvOk K F H env σ ∧ evr c env es = some rs ∧ ∀ vs F' H', Ext F H F' H' → Views K F' H' vs rs → Q vs H'
section
variable {X : Cx} {s : Sx} {c : Cl}
theorem CO.glo (C : CO X s c) {x : Str} (h : s.glo x = true) : Gl X x := by
  show X.env.scope.names.lookup x = some .globalImplicit
  rw [C.sc]
  exact of_decide_eq_true h
theorem CO.vis (C : CO X s c) {x : Str} (h : s.vis x = true) : Vis X.env.scope x := by
  unfold Vis
  rw [C.sc]
  unfold Sx.vis at h
  split at h <;> first | (cases h; done) | simp [*]
theorem okN1 {x : Str} (h : okN x = true) : (x == ("__debug__" : Str)) = false ∧ (x == ("__classdict__" : Str)) = false := by
  simp only [okN, Bool.and_eq_true, Bool.not_eq_true'] at h
  exact h
theorem CO.blk (C : CO X s c) {s1 : Shared} {H : Hp} {scope : Scope} {cl : List (Str × Addr)} {a : Addr} {fp : List Addr} : CO (X.blk s1 H scope (compEnvC scope cl a X.env) fp) (s.blk scope) c where
  sc := by
    show relabel scope X.env = relS scope s.sc
    rw [← C.sc]
    rfl
  N := C.N
  nd := C.nd
  fn := rfl
  calm := C.calm
  un := C.un
  bn := C.bn
  fns := fun f x h => by
    obtain ⟨np, h1, h2⟩ := C.fns f x h
    exact ⟨np, h1, ⟨h2.ex⟩⟩
  gls := C.gls
  xfn := fun f x h => by
    obtain ⟨np, h1, h2⟩ := C.xfn f x h
    exact ⟨np, h1, ⟨h2.ex⟩⟩
  xc := C.xc
  x1 := C.x1
  gd := C.gd
  ofs := C.ofs
  al := C.al
  im := fun cl m sm h => ⟨(C.im cl m sm h).ex⟩
  ja := C.ja
  tfn := fun f cn x q h => by
    obtain ⟨h0, np, h1, h2⟩ := C.tfn f cn x q h
    exact ⟨h0, np, h1, ⟨h2.ex⟩⟩
  mkc := fun f x h => by
    obtain ⟨h0, np, h1, h2⟩ := C.mkc f x h
    exact ⟨h0, np, h1, ⟨h2.ex⟩⟩
  rfn := fun f x h => by
    obtain ⟨np, h1, h2⟩ := C.rfn f x h
    exact ⟨np, h1, ⟨h2.ex⟩⟩
end
end Mn
namespace Mn
open PySem PySem.Spec PyProof.Rows L2
def tAs (K : PySem.W.Frag) (c : Cl) (es : Exs) : TA := fun σ H Q => ∃ F env ds, EnvOk K F H env σ ∧ evs c env es = some ds ∧ ∀ vs F' H', Ext F H F' H' → RpAll K F' vs ds → Q vs H'
def tAb (K : PySem.W.Frag) (c : Cl) (es : Exs) : TA := fun σ H Q => ∃ F env ds b, EnvOk K F H env σ ∧ evb c env es = some (ds, b) ∧ ∀ vs F' H', Ext F H F' H' → (∃ F1, Same F' F1 ∧ Same F1 H' ∧ (tpE env es = false → NoTu F' F1) ∧ RpAll K F1 vs ds) → (b = false → RpAll K F' vs ds) → Q vs H'
def WalkD (K : PySem.W.Frag) (F Fg : Hp) (J : It) (items : List PyData) : Prop :=
  ∀ H2 F2, Same Fg H2 → Same F F2 → Same F2 H2 → J.stop items.length H2 ∧ ∀ (i : Nat) d, items[i]? = some d → J.go i H2 ∧ ∀ x H3, J.yld i H2 x H3 → ∃ F3, Ext F2 H2 F3 H3 ∧ Rp K F3 x d
def tI (K : PySem.W.Frag) (c : Cl) (it : Itr) : TI := fun σ H R => ∃ F env items, EnvOk K F H env σ ∧ evi c env it = some items ∧ ∀ J F' H', Ext F H F' H' → WalkD K F' H' J items → (borI c env it = false → ∃ F2, Ext F H F2 H' ∧ WalkD K F2 F2 J items) → R J H'
theorem own_rp {K : PySem.W.Frag} {F H F1 H1 : Hp} {e : Ex} {r : RV} {d : PyData} {v : V} (h : ownD e r = some d) (x : Ext F H F1 H1) (w : View K F1 H1 v r) (n : isVar e = false → New r v H H1) : d = r.d ∧ ∃ F2, Ext F H F2 H1 ∧ Rp K F2 v d := by
  unfold ownD at h
  split at h
  · cases h
  · rename_i hb
    cases h
    refine ⟨rfl, ?_⟩
    by_cases hv : isVar e = true
    · rw [hv, Bool.true_and] at hb
      cases w with
      | fz q => exact ⟨F1, x, q⟩
      | own f h2 q => exact absurd q.isOwn hb
    · exact w.freeze x (n (by simpa using hv))
theorem asInt_eq {r : RV} {i : Int} (h : asInt r = some i) : r = .fz (.int i) := by
  unfold asInt at h
  split at h
  · cases h; rfl
  · cases h
theorem asBool_eq {r : RV} {i : Bool} (h : asBool r = some i) : r = .fz (.bool i) := by
  unfold asBool at h
  split at h
  · cases h; rfl
  · cases h
theorem cmpIs {o : Co} {op : CmpOp} (h : coIs o op = true) : op = coO o := by cases o <;> cases op <;> first | rfl | cases h
theorem boEq {o : Bo} {op : Operator} (h : boIs o op = true) : op = boO o := by cases o <;> cases op <;> first | rfl | cases h
def plainT : Expr → Bool
  | .UnaryOp .Not _ _ => false
  | .BoolOp _ _ _ => false
  | .IfExp _ _ _ _ => false
  | .Compare _ _ _ _ => false
  | _ => true
theorem true_of {e : Expr} (h : plainT e = true) (env : Env) : ∀ whole, isTrue e env whole = (do let v ← whole; standAt e.pos; holding [v] (truthy v)) := by
  intro whole
  cases e with
  | UnaryOp op x pos => cases op <;> first | (cases h; done) | rfl
  | BoolOp _ _ _ => cases h
  | IfExp _ _ _ _ => cases h
  | Compare _ _ _ _ => cases h
  | _ => rfl
theorem biB (b : Bi) (h : isIsI b = false) : (∃ id, biV b = .builtin id ∧ bootBuiltins (biN b) = some (.builtin id)) ∨ ∃ T, biV b = .type T ∧ bootBuiltins (biN b) = some (.type T) := by
  cases b with
  | isI t => cases h
  | len => exact .inl ⟨_, rfl, by decide +kernel⟩
  | sum => exact .inl ⟨_, rfl, by decide +kernel⟩
  | min2 => exact .inl ⟨_, rfl, by decide +kernel⟩
  | max2 => exact .inl ⟨_, rfl, by decide +kernel⟩
  | minL => exact .inl ⟨_, rfl, by decide +kernel⟩
  | maxL => exact .inl ⟨_, rfl, by decide +kernel⟩
  | any => exact .inl ⟨_, rfl, by decide +kernel⟩
  | all => exact .inl ⟨_, rfl, by decide +kernel⟩
  | int => exact .inr ⟨_, rfl, by decide +kernel⟩
  | str => exact .inr ⟨_, rfl, by decide +kernel⟩
  | tup => exact .inr ⟨_, rfl, by decide +kernel⟩
  | list => exact .inr ⟨_, rfl, by decide +kernel⟩
  | sorted => exact .inl ⟨_, rfl, by decide +kernel⟩
theorem bi_mem (b : Bi) : biN b ∈ bnames := by cases b <;> first | decide +kernel | exact (by decide +kernel : ("isinstance" : Str) ∈ bnames)
theorem biN_ok (b : Bi) : biN b ≠ "__name__" ∧ (biN b == ("__debug__" : Str)) = false := by cases b <;> first | decide +kernel | exact (by decide +kernel : ("isinstance" : Str) ≠ "__name__" ∧ (("isinstance" : Str) == ("__debug__" : Str)) = false)
theorem ty_mem (t : Ty) : tyS t ∈ bnames := by cases t <;> decide +kernel
theorem ty_boot (t : Ty) : bootBuiltins (tyS t) = some (.type (tyN t)) := by cases t <;> decide +kernel
theorem tyS_ok (t : Ty) : tyS t ≠ "__name__" ∧ (tyS t == ("__debug__" : Str)) = false := by cases t <;> decide +kernel
theorem callD_eq {r : Option RV} {b tp : Bool} {v : RV} (h : callD r b tp = some v) : r = some v ∧ (b = true → ∃ d, v = .fz d ∧ flatD d = true ∧ (tp = false ∨ scalD d = true)) := by
  unfold callD at h
  obtain ⟨w, rfl, h2⟩ := bnd h
  cases b with
  | false => cases h2; exact ⟨rfl, fun e => by cases e⟩
  | true =>
    rw [if_pos rfl] at h2
    split at h2
    · obtain ⟨h1, rfl⟩ := itd h2
      simp only [Bool.and_eq_true, Bool.or_eq_true, Bool.not_eq_true'] at h1
      exact ⟨rfl, fun _ => ⟨_, rfl, h1.1, h1.2⟩⟩
    · cases h2
theorem scal_back {K : PySem.W.Frag} {F H F' H' F1 F2 H2 : Hp} {v : V} {d : PyData} (x : Ext F H F' H') (s1 : Same F' F1) (y : Ext F1 H' F2 H2) (r : Rp K F2 v d) (e : scalD d = true) : ∃ F3, Ext F H F3 H2 ∧ Rp K F3 v d := by
  classical
  let F3 : Hp := fun b => if F' b ≠ none ∨ H' b = none then F2 b else none
  have g : ∀ b, (F' b ≠ none ∨ H' b = none) → F3 b = F2 b := fun b h => if_pos h
  have k : ∀ b o, F3 b = some o → (F' b ≠ none ∨ H' b = none) ∧ F2 b = some o := fun b o h => by
    by_cases q : F' b ≠ none ∨ H' b = none
    · exact ⟨q, by rw [← g b q]; exact h⟩
    · have : F3 b = none := if_neg q
      rw [this] at h; cases h
  refine ⟨F3, ⟨fun b o h => ?_, fun b o h => y.sub _ _ (k b o h).2, x.same.trans y.same, fun b o h => ?_⟩, ?_⟩
  · have h1 := x.fr _ _ h
    rw [g b (.inl (by rw [h1]; exact fun z => nomatch z))]
    exact y.fr _ _ (s1 _ _ h1)
  · obtain ⟨q, h2⟩ := k b o h
    rcases q with q | q
    · cases e1 : F' b with
      | none => exact absurd e1 q
      | some u =>
        have := y.fr _ _ (s1 _ _ e1)
        rw [h2] at this
        cases this
        exact x.new _ _ e1
    · exact .inr (x.same.free q)
  · cases r <;> first | (cases e; done) | constructor
section
variable {X : Cx} {s : Sx} {c : Cl}
theorem EnvOk.set {K : PySem.W.Frag} {F H : Hp} {env : Ev} {σ : L2.St} (ok : EnvOk K F H env σ) {i : Nat} {v : V} {r : RV} (hi : i < env.length) (w : View K F H v r) : EnvOk K F H (env.set i (some r)) (σ.set i (some v)) := by
  refine ⟨ok.sub, by rw [List.length_set, List.length_set]; exact ok.len, fun j r' h hp => ?_, ok.tr_.keeps (Keeps.set fun q e => by cases e; exact w.pl)⟩
  by_cases e : i = j
  · subst e
    rw [List.getElem?_set_self hi] at h
    cases h
    exact ⟨v, List.getElem?_set_self (by rw [← ok.len]; exact hi), w⟩
  · rw [List.getElem?_set_ne e] at h
    obtain ⟨u, h1, h2⟩ := ok.at_ j r' h hp
    exact ⟨u, by rw [List.getElem?_set_ne e]; exact h1, h2⟩
def OwnAt (H : Hp) (env : Ev) (σ : L2.St) (i : Nat) (p : Addr) : Prop := ∃ r v, env[i]? = some (some r) ∧ σ[i]? = some (some v) ∧ Foot H r v p
theorem ownAt_fz {H : Hp} {env : Ev} {σ : L2.St} {i : Nat} {d : PyData} {v : V} {j : Nat} {p : Addr} (h : OwnAt H (env.set i (some (.fz d))) (σ.set i (some v)) j p) : OwnAt H env σ j p := by
  obtain ⟨r, u, h1, h2, h3⟩ := h
  by_cases e : i = j
  · subst e
    by_cases hi : i < env.length
    · rw [List.getElem?_set_self hi] at h1
      cases h1
      exact h3.elim
    · rw [List.getElem?_eq_none (by simpa using hi)] at h1; cases h1
  · rw [List.getElem?_set_ne e] at h1 h2
    exact ⟨r, u, h1, h2, h3⟩
theorem EnvOk.wipe {K : PySem.W.Frag} {F H : Hp} {env : Ev} {σ : L2.St} (ok : EnvOk K F H env σ) : ∀ own : List Nat, EnvOk K F H (wipeE env own) (wipe σ own)
  | [] => ok
  | i :: is => by
    have q := EnvOk.wipe ok is
    refine ⟨q.sub, by unfold wipeE L2.wipe; rw [List.length_set, List.length_set]; exact q.len, fun j r' h hp => ?_, q.tr_.keeps (Keeps.set fun q e => nomatch e)⟩
    unfold wipeE at h
    unfold L2.wipe
    by_cases e : i = j
    · subst e
      by_cases hi : i < (wipeE env is).length
      · rw [List.getElem?_set_self hi] at h; cases h
      · rw [List.getElem?_eq_none (by simpa using hi)] at h; cases h
    · rw [List.getElem?_set_ne e] at h ⊢
      exact q.at_ j r' h hp
def gS (K : PySem.W.Frag) (tg : Tg) : TG := fun v σ H Q => ∃ F env d env', EnvOk K F H env σ ∧ Rp K F v d ∧ bindT tg env d = some env' ∧ ∀ σ', (∀ own, tgIn tg own = true → wipe σ' own = wipe σ own) → EnvOk K F H env' σ' → (∀ j p, OwnAt H env' σ' j p → OwnAt H env σ j p) → Keeps env env' σ σ' → Q σ' H
theorem PG.imp {e : Expr} {t t' : TG} (h : PG X e t) (f : ∀ v σ H Q, t' v σ H Q → t v σ H Q) : PG X e t' := ⟨fun pins s σ H v u Q I r q => h.run pins s σ H v u Q I r (f v σ H Q q)⟩
theorem CO.locv (C : CO X s c) {x : Str} (h : s.loc x = true) : L2.Loc X.env.scope x ∧ (X.fn x = true ∨ X.env.scope.names.lookup x = some .local) := by
  unfold L2.Loc
  rw [C.sc, C.fn]
  unfold Sx.loc at h
  split at h
  · exact ⟨.inl (by assumption), .inr (by assumption)⟩
  · exact ⟨.inr (by assumption), .inl h⟩
  · cases h
theorem wipe_set {i : Nat} {v : Option V} : ∀ {own : List Nat} {σ : L2.St}, own.contains i = true → wipe (σ.set i v) own = wipe σ own
  | [], σ, h => by simp at h
  | j :: r, σ, h => by
    unfold L2.wipe
    by_cases e : i = j
    · subst e
      by_cases hr : r.contains i = true
      · rw [wipe_set hr]
      · have q : wipe (σ.set i v) r = (wipe σ r).set i v := by
          clear h
          induction r with
          | nil => rfl
          | cons k r ih =>
            simp only [List.contains_cons, Bool.or_eq_true, beq_iff_eq, not_or] at hr
            unfold L2.wipe
            rw [ih (by simpa using hr.2), List.set_comm _ _ hr.1]
        rw [q, List.set_set]
    · have hr : r.contains i = true := by
        simp only [List.contains_cons, Bool.or_eq_true, beq_iff_eq] at h
        exact h.resolve_left e
      rw [wipe_set hr]
def gNs (K : PySem.W.Frag) (is : List Nat) : TGs := fun vs σ H Q => ∃ F env ds, EnvOk K F H env σ ∧ RpAll K F vs ds ∧ ds.length = is.length ∧ ∀ σ', (∀ own : List Nat, is.all own.contains = true → wipe σ' own = wipe σ own) → EnvOk K F H (setAll env is ds) σ' → (∀ j p, OwnAt H (setAll env is ds) σ' j p → OwnAt H env σ j p) → Keeps env (setAll env is ds) σ σ' → Q σ' H
theorem pgs_ns (C : CO X s c) : ∀ {is : List Nat} {es : List Expr}, chkNs s is es = true → PGs X es (gNs X.K is) ∧ (assignEach es X.env).length = is.length ∧ (assignEach es X.env).findIdx? (·.1) = none
  | [], [], _ => by
    refine ⟨⟨fun pins s' σ H vs us Q I rv h => ?_⟩, rfl, rfl⟩
    obtain ⟨F, env, ds, ok, rp, hl, k⟩ := h
    cases ds with
    | cons _ _ => simp at hl
    | nil =>
      cases rp
      exact pgs_nil.run pins s' σ H _ us Q I rv ⟨rfl, k σ (fun _ _ => rfl) (by simpa [setAll] using ok) (fun j p h => by simpa [setAll] using h) (by simpa [setAll] using Keeps.refl env σ)⟩
  | [], _ :: _, h => by simp [chkNs] at h
  | _ :: _, [], h => by simp [chkNs] at h
  | i :: is, e :: es, h => by
    cases e with
    | Name x pos =>
      simp only [chkNs, Bool.and_eq_true, decide_eq_true_eq] at h
      obtain ⟨⟨h1, h2⟩, h3⟩ := h
      obtain ⟨q1, q2, q3⟩ := pgs_ns C h3
      obtain ⟨l1, l2⟩ := C.locv h2
      have hi : X.N[i]? = some x := by rw [C.N]; exact h1
      have base := pgs_cons (es := es) (pg_name (pos := pos) C.nd hi l1 l2) q1 (by rfl)
      refine ⟨⟨fun pins s' σ H vs us Q I rv h => ?_⟩, by show (assignEach es X.env).length + 1 = is.length + 1; rw [q2], ?_⟩
      · obtain ⟨F, env, ds, ok, rp, hl, k⟩ := h
        cases rp with
        | nil => simp at hl
        | cons r t =>
          rename_i v vs d ds
          refine base.run pins s' σ H _ us Q I rv ⟨_, _, rfl, ?_⟩
          have hlt : i < env.length := by
            rw [ok.len, I.len]
            exact (List.getElem?_eq_some_iff.mp hi).1
          refine ⟨F, _, ds, ok.set hlt (.fz r), t, by simpa using hl, fun σ' hw ok' ho' kp => k σ' (fun own ho => ?_) ok' (fun j p h => ownAt_fz (ho' j p h)) ((Keeps.set fun q e => by cases e; rfl).trans kp)⟩
          rw [List.all_cons, Bool.and_eq_true] at ho
          rw [hw own ho.2, wipe_set ho.1]
      · show List.findIdx? _ ((false, assign (.Name x pos) X.env) :: assignEach es X.env) = none
        rw [List.findIdx?_cons, if_neg (by simp), q3]
        rfl
    | _ => simp [chkNs] at h
theorem pg_tg (C : CO X s c) {tg : Tg} {e : Expr} (h : chkTg s tg e = true) : PG X e (gS X.K tg) := by
  cases tg with
  | nm i =>
    cases e with
    | Name x pos =>
      simp only [chkTg, Bool.and_eq_true, decide_eq_true_eq] at h
      obtain ⟨l1, l2⟩ := C.locv h.2
      have hi : X.N[i]? = some x := by rw [C.N]; exact h.1
      refine ⟨fun pins s' σ H v u Q I rv q => ?_⟩
      obtain ⟨F, env, d, env', ok, rp, hb, k⟩ := q
      cases hb
      have hlt : i < env.length := by
        rw [ok.len, I.len]
        exact (List.getElem?_eq_some_iff.mp hi).1
      exact (pg_name (pos := pos) C.nd hi l1 l2).run pins s' σ H v u Q I rv (k _ (fun own ho => wipe_set ho) (ok.set hlt (.fz rp)) (fun j p h => ownAt_fz h) (Keeps.set fun q e => by cases e; rfl))
    | _ => simp [chkTg] at h
  | tp is =>
    cases e with
    | Tuple es kk pos =>
      have h : chkNs s is es = true := h
      obtain ⟨q1, q2, q3⟩ := pgs_ns C h
      refine ⟨fun pins s' σ H v u Q I rv q => ?_⟩
      obtain ⟨F, env, d, env', ok, rp, hb, k⟩ := q
      cases rp with
      | tup ta ra =>
        obtain ⟨hl, rfl⟩ := itd (show (if _ then some (setAll env is _) else none) = some env' from hb)
        exact (pg_tup C.calm q1 rfl q3).run pins s' σ H _ u Q I rv ⟨_, _, rfl, Same.sqT ok.sub ta.sqT, by rw [q2, ra.length, hl], F, env, _, ok, ra, hl, fun σ' hw ok' ho => k σ' hw ok' ho⟩
      | lst ta ra =>
        obtain ⟨hl, rfl⟩ := itd (show (if _ then some (setAll env is _) else none) = some env' from hb)
        exact (pg_lst C.calm q1 rfl q3).run pins s' σ H _ u Q I rv ⟨_, _, rfl, SqL.of (ok.sub _ _ ta), by rw [q2, ra.length, hl], F, env, _, ok, ra, hl, fun σ' hw ok' ho => k σ' hw ok' ho⟩
      | _ => cases hb
    | _ => simp [chkTg] at h
end
end Mn
namespace Mn
open PySem PySem.Spec PyProof.Rows L2
def Sq (K : PySem.W.Frag) (k : Bool) (H : Hp) (a : Addr) (xs : List V) : Prop := match k with
  | true => SqL K H a xs
  | false => SqT K H a xs
def IsIt (h : Heap) (k : Bool) (it a : Addr) (i : Nat) : Prop := match k with
  | true => h.IsListIter it a i
  | false => h.IsTupleIter it a i
def IsSq (h : Heap) (k : Bool) (a : Addr) (its : Array Value) : Prop := match k with
  | true => h.IsList a its
  | false => h.IsTuple a its
def itObj (k : Bool) (a : Addr) : Obj := match k with
  | true => { cls := .type "list_iterator", data := .fields #[.ref a, .int 0 0] }
  | false => { cls := .type "tuple_iterator", data := .fields #[.ref a, .int 0 0] }
theorem begins (k : Bool) (a : Addr) (its : Array Value) : Begins (.ref a) (itObj k a) (fun h => IsSq h k a its) := by
  cases k
  · exact begins_tuple a its
  · exact begins_list a its
theorem isIt0 {h : Heap} {k : Bool} {it a : Addr} (e : h.get? it = some (itObj k a)) : IsIt h k it a 0 := by
  cases k
  · exact ⟨_, e, rfl, rfl⟩
  · exact ⟨_, e, rfl, rfl⟩
theorem IsIt.obj {h : Heap} {k : Bool} {it a : Addr} {i : Nat} (x : IsIt h k it a i) : ∃ o, h.get? it = some o ∧ ∀ v, o.data ≠ .cell v := by
  cases k
  · obtain ⟨o, e, _, d⟩ := x
    exact ⟨o, e, fun v q => by rw [d] at q; cases q⟩
  · obtain ⟨o, e, _, d⟩ := x
    exact ⟨o, e, fun v q => by rw [d] at q; cases q⟩
theorem IsIt.at_ {h h' : Heap} {k : Bool} {it a : Addr} {i : Nat} (x : IsIt h k it a i) (q : ∀ o, h.get? it = some o → h'.get? it = some o) : IsIt h' k it a i := by
  cases k
  · exact Heap.IsTupleIter.at x q
  · exact Heap.IsListIter.at x q
theorem draws {prog : Program} {w : World} {A : Around} (hh : A.handled = none) (k : Bool) (it a : Addr) (hne : a ≠ it) (its : Array Value) :
    Draws prog w A it [it, a] its.size (fun i v => its[i]? = some v) (fun i h => IsIt h k it a i ∧ IsSq h k a its) := by
  cases k
  · exact Draws.tuple hh it a hne its
  · exact Draws.list hh it a hne its
section
variable {X : Cx} {pins : List (Addr × Obj)} {σ : L2.St} {H : Hp} {s : Shared} {a : Addr} {xs ys : List V} {k : Bool}
theorem sq_is (I : Inv X pins σ H s) (h : Sq X.K k H a xs) : ∃ its : List Value, Vals xs its ∧ IsSq s.heap k a its.toArray ∧ a < s.heap.objs.size := by
  cases k
  · obtain ⟨its, r, p, _⟩ := I.tuple h
    obtain ⟨o, e, _⟩ := id p
    exact ⟨its, r, p, Heap.lt_size e⟩
  · obtain ⟨its, r, p, _⟩ := I.list h
    exact ⟨its, r, p.isList, p.lt⟩
theorem sq_inj (I : Inv X pins σ H s) (h : Sq X.K k H a xs) (h' : Sq X.K k H a ys) : xs = ys := by
  cases k
  · exact I.tuple_inj h h'
  · exact I.list_inj h h'
end
def NewP (H : Hp) (v : V) (H' : Hp) (T : Addr) (xs : List V) : Prop := ∃ o, TupO o ∧ v = .ref T ∧ H T = none ∧ H' = upd H T (.frz o (.tup xs))
def YPairN (f g : Nat → Option V) : Nat → Hp → V → Hp → Prop := fun i H v H' => ∃ T x y, NewP H v H' T [x, y] ∧ f i = some x ∧ g i = some y
def IteQ (K : PySem.W.Frag) (k : Bool) (a : Addr) : It :=
  ⟨fun i H => ∃ (xs : List V) (x : V), Sq K k H a xs ∧ xs[i]? = some x, fun i H v H' => ∃ T x, NewP H v H' T [.int (i : Nat), x] ∧ ∀ xs, Sq K k H a xs → xs[i]? = some x, fun i H => ∃ xs : List V, Sq K k H a xs ∧ xs.length = i⟩
theorem turn_enumQ {P : Program} {w : World} {K : PySem.W.Frag} {elts : List Expr} {kk : Nat} {tpos : Pos} (k : Bool) (a e it : Addr) :
    Turn P w K (.Tuple elts kk tpos) (IteQ K k a) [e, it] e (fun i h => (∃ old, IsEnum h e it ((i : Nat) : Int) old) ∧ IsIt h k it a i ∧ e ≠ it ∧ a ≠ it ∧ a ≠ e) where
  mem := by simp
  obj := fun i h st b hb => by
    obtain ⟨⟨old, he⟩, hi, _⟩ := st
    have e' : b = e ∨ b = it := by simpa using hb
    rcases e' with z | z
    · rw [z]; exact ⟨_, he, fun v q => nomatch q⟩
    · rw [z]; exact hi.obj
  keep := fun i h h' st q => let ⟨⟨old, he⟩, hi, hne⟩ := st; ⟨⟨old, q e (by simp) _ he⟩, hi.at_ fun o z => q it (by simp) o z, hne⟩
  item := by
    intro X hP hw hK hc i pins s σ H E I hf st hg
    subst hP hw hK
    obtain ⟨⟨old, he⟩, hit, hne, hai, hae⟩ := st
    obtain ⟨xs, x, hq, hx⟩ := hg
    obtain ⟨its, rv, p, _⟩ := sq_is I hq
    obtain ⟨u, hu, ru⟩ := rv.get hx
    have hel : e < s.heap.objs.size := Heap.lt_size he
    have hil : it < s.heap.objs.size := by obtain ⟨_, q, _⟩ := hit.obj; exact Heap.lt_size q
    have D := draws (prog := X.prog) (w := X.w) (A := X.A.in1) (I.ok.hd hc) k it a hai its.toArray
    have hi : i < its.toArray.size := by
      have := (List.getElem?_eq_some_iff.mp hu).1
      simpa using this
    refine wpAny_pyNext_enum_itemD D he ⟨hit, p⟩ hi hne (by simp [hne, Ne.symm hae]) fun u' h' tk hP ho hst hT hsz hk => ?_
    obtain rfl : u' = u := by
      have : its.toArray[i]? = some u := by simpa using hu
      rw [this] at hP
      exact (Option.some.inj hP).symm
    refine ⟨_, rfl, wpAny_letOwnedTupleGo_enum (s := { s with heap := h', toks := tk + 1 }) ho fun h'' he' sb => ?_⟩
    have hT2 : h''.get? s.heap.objs.size = some { cls := .type "tuple", data := .seq #[.int i tk, u'] } := (sb.2 _ (Nat.ne_of_gt hel)).trans hT
    obtain ⟨ob, hob, hT3, n3, hd3⟩ : ∃ ob : Obj, TupO ob ∧ h''.get? s.heap.objs.size = some ob ∧ ∃ n, ob.data = .seq #[.int i tk, u'] n := ⟨_, ⟨rfl, rfl⟩, hT2, _, rfl⟩
    have new : ObjOk X.prog X.w (upd H s.heap.objs.size (.frz ob (.tup [.int (i : Nat), x]))) h'' s.heap.objs.size (.frz ob (.tup [.int (i : Nat), x])) :=
      ⟨hT3, by show 2 ≤ sizeLine; decide, [.int i tk, u'], .cons ⟨_, rfl⟩ (.cons ru .nil), ⟨ob, hT3, hob.1, n3, hd3⟩⟩
    have I1 : Inv X pins σ (upd H s.heap.objs.size (.frz ob (.tup [.int (i : Nat), x]))) { s with heap := h'', toks := tk + 1 } :=
      I.turnedNew (ch := [e, it]) (fun b ob hb q => (sb.2 b (fun z => hb (by simp [z]))).trans (hk b ob (fun z => hb (by simp [z])) (fun z => hb (by simp [z])) q)) hf (Nat.le_refl _) new
    refine ⟨.ref s.heap.objs.size, _, I1, rfl, ⟨_, x, ⟨ob, hob, rfl, I.hok.fresh (Nat.le_refl _), rfl⟩, fun ys hy => by rw [sq_inj I hy hq]; exact hx⟩, ⟨⟨u', ?_⟩, hst.1.at_ fun o q => (sb.2 it (Ne.symm hne)).trans q, hne, hai, hae⟩, fun b hb => ?_⟩
    · have e1 : ((i + 1 : Nat) : Int) = (i : Int) + 1 := by omega
      rw [e1]; exact he'
    · have hb' : b < s.heap.objs.size := by
        have e' : b = e ∨ b = it := by simpa using hb
        rcases e' with z | z
        · rw [z]; exact hel
        · rw [z]; exact hil
      rw [upd_ne (Nat.ne_of_lt hb')]
      exact (hf b hb).1
  done := by
    intro X hP hw hK hc i pins s σ H E I hf st hg
    subst hP hw hK
    obtain ⟨⟨old, he⟩, hit, hne, hai, hae⟩ := st
    obtain ⟨xs, hq, hx⟩ := hg
    obtain ⟨its, rv, p, _⟩ := sq_is I hq
    obtain ⟨f0, f1, f2, f3, f4, f5⟩ := hf it (by simp)
    have hl := rv.length
    have D := draws (prog := X.prog) (w := X.w) (A := X.A.in1) (I.ok.hd hc) k it a hai its.toArray
    have hi : its.toArray.size = i := by simp; omega
    exact wpAny_pyNext_enum_endD D he (by rw [hi]; exact ⟨hit, p⟩) fun h' eb => ⟨rfl, I.turned (t' := s.toks) (fun b o hb q => eb b o hb q) f0 f1 f3 f4 f5⟩
  self := fun A i s Q E st h => let ⟨⟨_, he⟩, _⟩ := st; wpAny_pyIter_enum he h
def IteT (z : Str) : It :=
  ⟨fun i _ => i < z.cps.size, fun i H v H' => ∃ T c, NewP H v H' T [.int (i : Nat), .str ⟨#[c]⟩] ∧ z.cps[i]? = some c, fun i _ => i = z.cps.size⟩
theorem turn_enumT {P : Program} {w : World} {K : PySem.W.Frag} {elts : List Expr} {kk : Nat} {tpos : Pos} (z : Str) (t : Tok) (e it : Addr) :
    Turn P w K (.Tuple elts kk tpos) (IteT z) [e, it] e (fun i h => (∃ old, IsEnum h e it ((i : Nat) : Int) old) ∧ h.IsStrIter it (strIterType z) z t i ∧ e ≠ it) where
  mem := by simp
  obj := fun i h st b hb => by
    obtain ⟨⟨old, he⟩, hi, _⟩ := st
    have e' : b = e ∨ b = it := by simpa using hb
    rcases e' with z | z
    · rw [z]; exact ⟨_, he, fun v q => nomatch q⟩
    · rw [z]
      obtain ⟨o, h1, _, h3⟩ := hi
      exact ⟨o, h1, fun v q => by rw [h3] at q; cases q⟩
  keep := fun i h h' st q => let ⟨⟨old, he⟩, ⟨o, h1, h2⟩, hne⟩ := st; ⟨⟨old, q e (by simp) _ he⟩, ⟨o, q it (by simp) o h1, h2⟩, hne⟩
  item := by
    intro X hP hw hK hc i pins s σ H E I hf st hg
    subst hP hw hK
    obtain ⟨⟨old, he⟩, hit, hne⟩ := st
    have hi : i < z.cps.size := hg
    have hel : e < s.heap.objs.size := Heap.lt_size he
    have hil : it < s.heap.objs.size := by obtain ⟨_, q, _⟩ := hit; exact Heap.lt_size q
    have D := Draws.text (prog := X.prog) (w := X.w) (A := X.A.in1) (I.ok.hd hc) it z t
    refine wpAny_pyNext_enum_itemD D he hit hi hne (by simp [hne, Ne.symm hne]) fun u' h' tk hP ho hst hT hsz hk => ?_
    obtain ⟨c, tu, hcz, rfl⟩ := hP
    refine ⟨_, rfl, wpAny_letOwnedTupleGo_enum (s := { s with heap := h', toks := tk + 1 }) ho fun h'' he' sb => ?_⟩
    have hT2 : h''.get? s.heap.objs.size = some { cls := .type "tuple", data := .seq #[.int i tk, .str ⟨#[c]⟩ tu] } := (sb.2 _ (Nat.ne_of_gt hel)).trans hT
    obtain ⟨ob, hob, hT3, n3, hd3⟩ : ∃ ob : Obj, TupO ob ∧ h''.get? s.heap.objs.size = some ob ∧ ∃ n, ob.data = .seq #[.int i tk, .str ⟨#[c]⟩ tu] n := ⟨_, ⟨rfl, rfl⟩, hT2, _, rfl⟩
    have new : ObjOk X.prog X.w (upd H s.heap.objs.size (.frz ob (.tup [.int (i : Nat), .str ⟨#[c]⟩]))) h'' s.heap.objs.size (.frz ob (.tup [.int (i : Nat), .str ⟨#[c]⟩])) :=
      ⟨hT3, by show 2 ≤ sizeLine; decide, [.int i tk, .str ⟨#[c]⟩ tu], .cons ⟨_, rfl⟩ (.cons ⟨_, rfl⟩ .nil), ⟨ob, hT3, hob.1, n3, hd3⟩⟩
    have I1 : Inv X pins σ (upd H s.heap.objs.size (.frz ob (.tup [.int (i : Nat), .str ⟨#[c]⟩]))) { s with heap := h'', toks := tk + 1 } :=
      I.turnedNew (ch := [e, it]) (fun b ob hb q => (sb.2 b (fun z => hb (by simp [z]))).trans (hk b ob (fun z => hb (by simp [z])) (fun z => hb (by simp [z])) q)) hf (Nat.le_refl _) new
    refine ⟨.ref s.heap.objs.size, _, I1, rfl, ⟨_, c, ⟨ob, hob, rfl, I.hok.fresh (Nat.le_refl _), rfl⟩, hcz⟩, ⟨⟨.str ⟨#[c]⟩ tu, ?_⟩, ?_, hne⟩, fun b hb => ?_⟩
    · have e1 : ((i + 1 : Nat) : Int) = (i : Int) + 1 := by omega
      rw [e1]; exact he'
    · obtain ⟨o, h1, h2⟩ := hst
      exact ⟨o, (sb.2 it (Ne.symm hne)).trans h1, h2⟩
    · have hb' : b < s.heap.objs.size := by
        have e' : b = e ∨ b = it := by simpa using hb
        rcases e' with z | z
        · rw [z]; exact hel
        · rw [z]; exact hil
      rw [upd_ne (Nat.ne_of_lt hb')]
      exact (hf b hb).1
  done := by
    intro X hP hw hK hc i pins s σ H E I hf st hg
    subst hP hw hK
    obtain ⟨⟨old, he⟩, hit, hne⟩ := st
    obtain ⟨f0, f1, f2, f3, f4, f5⟩ := hf it (by simp)
    have D := Draws.text (prog := X.prog) (w := X.w) (A := X.A.in1) (I.ok.hd hc) it z t
    have hi : z.cps.size = i := Eq.symm hg
    exact wpAny_pyNext_enum_endD D he (by rw [hi]; exact hit) fun h' eb => ⟨rfl, I.turned (t' := s.toks) (fun b o hb q => eb b o hb q) f0 f1 f3 f4 f5⟩
  self := fun A i s Q E st h => let ⟨⟨_, he⟩, _⟩ := st; wpAny_pyIter_enum he h
set_option maxHeartbeats 1000000 in
theorem meets_enum1 {v : Value} {o : Obj} {H : Heap → Prop} (B : Begins v o H) :
    Meets (Builtin.«enumerate.__new__» ⟨[.type "enumerate", v], []⟩) (fun _ R s => H s.heap ∧
      R (.ok (.ret (.ref (s.heap.push o).objs.size))) { s with heap := (s.heap.push o).push { cls := .type "enumerate", data := .fields #[.none, .bool false, .ref s.heap.objs.size, rawInt 0, .none, .none] } }) :=
  .of_wp fun prog w A R s h => by
    obtain ⟨hp, g, d, tk, os⟩ := s; obtain ⟨h1, h⟩ := h
    have hsub := sub_enumerate
    have q1 : ∀ {A' : Around} {E : Value → Shared → Prop} {Q : Value → Shared → Prop}, Q (.ref hp.objs.size) ⟨hp.push o, g, d, tk, os⟩ → wpAny (model prog w) A' (pyIter v) Q E ⟨hp, g, d, tk, os⟩ :=
      fun q => B.iter prog w _ _ ⟨hp, g, d, tk, os⟩ _ h1 q
    wp_walk using q1
    refine wpAny_stack_any fun st => wpAny_pure ?_
    split
    · rename_i c _ _ _ _ _
      cases (c == Value.type "enumerate")
      · wp_walk using q1
        exact ⟨_, rfl, h⟩
      · wp_walk using q1
        exact ⟨_, rfl, h⟩
    · wp_walk using q1
      exact ⟨_, rfl, h⟩
theorem call_enum1 {prog : Program} {w : World} {A : Around} {E : Value → Shared → Prop} {s : Shared} {v : Value} {o : Obj} {H : Heap → Prop} {Q : Value → Shared → Prop} (B : Begins v o H) (h1 : H s.heap)
    (h : ∀ h', IsEnum h' (s.heap.objs.size + 1) s.heap.objs.size 0 .none → h'.get? s.heap.objs.size = some o → h'.objs.size = s.heap.objs.size + 2 →
      (∀ b o, s.heap.get? b = some o → h'.get? b = some o) → Q (.ref (s.heap.objs.size + 1)) { s with heap := h' }) :
    wpAny (model prog w) A (call (.type "enumerate") [v]) Q E s := by
  refine callType_new F.called_enumerate (by decide) (F.typeCall_enumerate_1 _) (F.newCall_enumerate_1 _) (fun obj => F.args_object_init_2 obj _) F.entry_enumerate_new
    (meets_enum1 B) ⟨h1, ?_⟩
  have hz : (s.heap.push o).objs.size = s.heap.objs.size + 1 := Heap.size_push ..
  show _ ∧ _
  rw [hz]
  have he : IsEnum ((s.heap.push o).push { cls := .type "enumerate", data := .fields #[.none, .bool false, .ref s.heap.objs.size, rawInt 0, .none, .none] }) (s.heap.objs.size + 1) s.heap.objs.size 0 .none := by
    have := Heap.get?_push_size (s.heap.push o) (o := { cls := .type "enumerate", data := .fields #[.none, .bool false, .ref s.heap.objs.size, rawInt 0, .none, .none] }) rfl
    rw [hz] at this; exact this
  refine ⟨⟨_, he, rfl⟩, h _ he (Heap.get?_push_of_some _ (Heap.get?_push_size _ B.free)) (by rw [Heap.size_push, hz]) fun b o x => Heap.get?_push_of_some _ (Heap.get?_push_of_some _ x)⟩
def iEnumQ (K : PySem.W.Frag) (te : TE) : TI := fun σ H R => te σ H fun v H1 => ∃ (k : Bool) (a : Addr) (xs : List V), v = .ref a ∧ Sq K k H1 a xs ∧ R (IteQ K k a) H1
theorem pi_enumQ {X : Cx} {e : Expr} {te : TE} {p pos tpos : Pos} {elts : List Expr} {kk : Nat} (hg : Gl X "enumerate") (hm : X.mg "enumerate" = none) (he : PE X e te) (hs : starEach [e] X.env = (false, eval e X.env) :: starEach [] X.env) :
    PI X (.Tuple elts kk tpos) (.Call (.Name "enumerate" p) [e] [] pos) (iEnumQ X.K te) := by
  refine ⟨fun pins s σ H R I h => ?_⟩
  refine Call_ (ld_blt I hg hm boot_enumerate (PyProof.Rows.callWith_type1 (args_cons (thn (he.run pins s σ H _ I h) fun u s1 ⟨v, H1, I1, r1, q1⟩ => args_nil ?_) hs) hs rfl))
  obtain ⟨k, a, xs, rfl, hq, q⟩ := q1
  cases r1
  obtain ⟨its, rv, p', hlt⟩ := sq_is I1 hq
  refine call_enum1 (begins k a its.toArray) p' fun h' he' hit hsz hk => wpAny_pyIter_enum he' ?_
  have I2 : Inv X pins σ H1 { s1 with heap := h' } := I1.kept (t' := s1.toks) hk
  refine ⟨s1.heap.objs.size + 1, [s1.heap.objs.size + 1, s1.heap.objs.size], _, _, H1, rfl, I2, turn_enumQ k a (s1.heap.objs.size + 1) s1.heap.objs.size, ⟨⟨.none, he'⟩, isIt0 hit, Nat.succ_ne_self _, Nat.ne_of_lt hlt, Nat.ne_of_lt (Nat.lt_succ_of_lt hlt)⟩, fun b hb => ?_, q⟩
  have e' : b = s1.heap.objs.size + 1 ∨ b = s1.heap.objs.size := by simpa using hb
  have hle : s1.heap.objs.size ≤ b := by
    rcases e' with z | z
    · rw [z]; exact Nat.le_add_right _ _
    · rw [z]; exact Nat.le_refl _
  exact I1.fpOk hle (I1.hok.fresh hle)
def iEnumT (te : TE) : TI := fun σ H R => te σ H fun v H1 => ∃ (z : Str), v = .str z ∧ R (IteT z) H1
theorem pi_enumT {X : Cx} {e : Expr} {te : TE} {p pos tpos : Pos} {elts : List Expr} {kk : Nat} (hg : Gl X "enumerate") (hm : X.mg "enumerate" = none) (he : PE X e te) (hs : starEach [e] X.env = (false, eval e X.env) :: starEach [] X.env) :
    PI X (.Tuple elts kk tpos) (.Call (.Name "enumerate" p) [e] [] pos) (iEnumT te) := by
  refine ⟨fun pins s σ H R I h => ?_⟩
  refine Call_ (ld_blt I hg hm boot_enumerate (PyProof.Rows.callWith_type1 (args_cons (thn (he.run pins s σ H _ I h) fun u s1 ⟨v, H1, I1, r1, q1⟩ => args_nil ?_) hs) hs rfl))
  obtain ⟨z, rfl, q⟩ := q1
  obtain ⟨t, rfl⟩ := r1
  refine call_enum1 (begins_text z t) trivial fun h' he' hit hsz hk => wpAny_pyIter_enum he' ?_
  have I2 : Inv X pins σ H1 { s1 with heap := h' } := I1.kept (t' := s1.toks) hk
  refine ⟨s1.heap.objs.size + 1, [s1.heap.objs.size + 1, s1.heap.objs.size], _, _, H1, rfl, I2, turn_enumT z t (s1.heap.objs.size + 1) s1.heap.objs.size, ⟨⟨.none, he'⟩, ⟨_, hit, rfl, rfl⟩, Nat.succ_ne_self _⟩, fun b hb => ?_, q⟩
  have e' : b = s1.heap.objs.size + 1 ∨ b = s1.heap.objs.size := by simpa using hb
  have hle : s1.heap.objs.size ≤ b := by
    rcases e' with z | z
    · rw [z]; exact Nat.le_add_right _ _
    · rw [z]; exact Nat.le_refl _
  exact I1.fpOk hle (I1.hok.fresh hle)
theorem walk_enumT {z : Str} : Walk (IteT z) z.cps.size (fun _ => True) (YPairN (fun i => some (.int (i : Nat))) (fun i => z.cps[i]?.map fun c => .str ⟨#[c]⟩)) := by
  refine ⟨fun _ _ hi _ => hi, fun _ _ => rfl, fun i H v H' _ _ y => ?_⟩
  obtain ⟨T, c, h1, h4⟩ := y
  exact ⟨T, .int (i : Nat), .str ⟨#[c]⟩, h1, rfl, by
    show Option.map _ z.cps[i]? = _
    rw [h4]
    rfl⟩
def ItzQ (K : PySem.W.Frag) (k1 k2 : Bool) (a b : Addr) : It :=
  ⟨fun i H => ∃ (xs ys : List V) (x y : V), Sq K k1 H a xs ∧ Sq K k2 H b ys ∧ xs[i]? = some x ∧ ys[i]? = some y,
    fun i H v H' => ∃ T x y, NewP H v H' T [x, y] ∧ (∀ xs, Sq K k1 H a xs → xs[i]? = some x) ∧ ∀ ys, Sq K k2 H b ys → ys[i]? = some y,
    fun i H => ∃ xs ys : List V, Sq K k1 H a xs ∧ Sq K k2 H b ys ∧ i ≤ xs.length ∧ i ≤ ys.length ∧ (i = xs.length ∨ i = ys.length)⟩
theorem turn_zipQ {P : Program} {w : World} {K : PySem.W.Frag} {elts : List Expr} {kk : Nat} {tpos : Pos} (k1 k2 : Bool) {a b z TI TO i1 i2 : Addr} (S : ZipSep2 z TI TO i1 i2 [i1, a] [i2, b]) (n1 : a ≠ i1) (n2 : b ≠ i2) :
    Turn P w K (.Tuple elts kk tpos) (ItzQ K k1 k2 a b) [z, TI, TO, i1, i2] z (fun i h => IsZip h z TI TO .none ∧ IsTupOf2 h TI (.ref i1) (.ref i2) ∧ (∃ x y, IsTupOf2 h TO x y) ∧ IsIt h k1 i1 a i ∧ IsIt h k2 i2 b i) where
  mem := by simp
  obj := fun i h st c hc => by
    obtain ⟨hz, hTI, ⟨x, y, hTO⟩, h1, h2⟩ := st
    have e' : c = z ∨ c = TI ∨ c = TO ∨ c = i1 ∨ c = i2 := by simpa using hc
    rcases e' with q | q | q | q | q
    · rw [q]; exact ⟨_, hz, fun v q => nomatch q⟩
    · rw [q]; exact ⟨_, hTI, fun v q => nomatch q⟩
    · rw [q]; exact ⟨_, hTO, fun v q => nomatch q⟩
    · rw [q]; exact h1.obj
    · rw [q]; exact h2.obj
  keep := fun i h h' st k => by
    obtain ⟨hz, hTI, ⟨x, y, hTO⟩, h1, h2⟩ := st
    exact ⟨k z (by simp) _ hz, k TI (by simp) _ hTI, ⟨x, y, k TO (by simp) _ hTO⟩, h1.at_ fun o q => k i1 (by simp) o q, h2.at_ fun o q => k i2 (by simp) o q⟩
  item := by
    intro X hP hw hK hc i pins s σ H E I hf st hg
    subst hP hw hK
    obtain ⟨hz, hTI, ⟨x0, y0, hTO⟩, h1, h2⟩ := st
    obtain ⟨xs, ys, x, y, hqx, hqy, hx, hy⟩ := hg
    obtain ⟨its, rv, p, _⟩ := sq_is I hqx
    obtain ⟨its2, rv2, p2, _⟩ := sq_is I hqy
    obtain ⟨u, hu, ru⟩ := rv.get hx
    obtain ⟨u2, hu2, ru2⟩ := rv2.get hy
    have hzl : z < s.heap.objs.size := Heap.lt_size hz
    have D1 := draws (prog := X.prog) (w := X.w) (A := X.A.in1) (I.ok.hd hc) k1 i1 a n1 its.toArray
    have D2 := draws (prog := X.prog) (w := X.w) (A := X.A.in1) (I.ok.hd hc) k2 i2 b n2 its2.toArray
    have l1 : i < its.toArray.size := by
      have := (List.getElem?_eq_some_iff.mp hu).1
      simpa using this
    have l2 : i < its2.toArray.size := by
      have := (List.getElem?_eq_some_iff.mp hu2).1
      simpa using this
    refine wpAny_pyNext_zipD2_item S D1 D2 hz hTI hTO ⟨h1, p⟩ ⟨h2, p2⟩ l1 l2 fun v1 v2 h' tk hP1 hP2 z' TO' st1 st2 hT hsz hk => ?_
    obtain rfl : v1 = u := by
      have : its.toArray[i]? = some u := by simpa using hu
      rw [this] at hP1
      exact (Option.some.inj hP1).symm
    obtain rfl : v2 = u2 := by
      have : its2.toArray[i]? = some u2 := by simpa using hu2
      rw [this] at hP2
      exact (Option.some.inj hP2).symm
    refine ⟨_, rfl, wpAny_letOwnedTupleGo_zip (s := { s with heap := h', toks := tk }) z' fun h'' z'' sb => ?_⟩
    have hT2 : h''.get? s.heap.objs.size = some { cls := .type "tuple", data := .seq #[v1, v2] } := (sb.2 _ (Nat.ne_of_gt hzl)).trans hT
    obtain ⟨ob, hob, hT3, n3, hd3⟩ : ∃ ob : Obj, TupO ob ∧ h''.get? s.heap.objs.size = some ob ∧ ∃ n, ob.data = .seq #[v1, v2] n := ⟨_, ⟨rfl, rfl⟩, hT2, _, rfl⟩
    have new : ObjOk X.prog X.w (upd H s.heap.objs.size (.frz ob (.tup [x, y]))) h'' s.heap.objs.size (.frz ob (.tup [x, y])) :=
      ⟨hT3, by show 2 ≤ sizeLine; decide, [v1, v2], .cons ru (.cons ru2 .nil), ⟨ob, hT3, hob.1, n3, hd3⟩⟩
    have I1 : Inv X pins σ (upd H s.heap.objs.size (.frz ob (.tup [x, y]))) { s with heap := h'', toks := tk } :=
      I.turnedNew (t' := tk) (ch := [z, TI, TO, i1, i2]) (fun c o hb q => (sb.2 c (fun q' => hb (by simp [q']))).trans (hk c o (fun q' => hb (by simp [q'])) (fun q' => hb (by simp [q'])) (fun q' => hb (by simp [q'])) (fun q' => hb (by simp [q'])) q)) hf (Nat.le_refl _) new
    refine ⟨.ref s.heap.objs.size, _, I1, rfl, ⟨_, x, y, ⟨ob, hob, rfl, I.hok.fresh (Nat.le_refl _), rfl⟩, fun l hl => by rw [sq_inj I hl hqx]; exact hx, fun l hl => by rw [sq_inj I hl hqy]; exact hy⟩, ⟨z'', ?_, ⟨v1, v2, ?_⟩, ?_, ?_⟩, fun c hcm => ?_⟩
    · exact (sb.2 _ S.TIz).trans (hk _ _ S.TIz S.TITO S.TIi1 S.TIi2 hTI)
    · exact (sb.2 _ S.TOz).trans TO'
    · exact st1.1.at_ fun o q => (sb.2 _ S.zi1.symm).trans q
    · exact st2.1.at_ fun o q => (sb.2 _ S.zi2.symm).trans q
    · have hlt : c < s.heap.objs.size := by
        have e' : c = z ∨ c = TI ∨ c = TO ∨ c = i1 ∨ c = i2 := by simpa using hcm
        rcases e' with q | q | q | q | q
        · rw [q]; exact hzl
        · rw [q]; exact Heap.lt_size hTI
        · rw [q]; exact Heap.lt_size hTO
        · rw [q]; obtain ⟨_, e1, _⟩ := h1.obj; exact Heap.lt_size e1
        · rw [q]; obtain ⟨_, e2, _⟩ := h2.obj; exact Heap.lt_size e2
      rw [upd_ne (Nat.ne_of_lt hlt)]
      exact (hf c hcm).1
  done := by
    intro X hP hw hK hc i pins s σ H E I hf st hg
    subst hP hw hK
    obtain ⟨hz, hTI, ⟨x0, y0, hTO⟩, h1, h2⟩ := st
    obtain ⟨xs, ys, hqx, hqy, l1, l2, hend⟩ := hg
    obtain ⟨its, rv, p, _⟩ := sq_is I hqx
    obtain ⟨its2, rv2, p2, _⟩ := sq_is I hqy
    have e1 := rv.length
    have e2 := rv2.length
    have D1 := draws (prog := X.prog) (w := X.w) (A := X.A.in1) (I.ok.hd hc) k1 i1 a n1 its.toArray
    have D2 := draws (prog := X.prog) (w := X.w) (A := X.A.in1) (I.ok.hd hc) k2 i2 b n2 its2.toArray
    exact wpAny_pyNext_zipD2_end S D1 D2 hz hTI hTO ⟨h1, p⟩ ⟨h2, p2⟩ (by simp; omega) (by simp; omega) (by simp; omega) fun h' tk hk => ⟨rfl, I.turnedL (t' := tk) (ch := [z, TI, TO, i1, i2]) (fun c o hb q =>
      hk c o (fun q' => hb (by simp [q'])) (fun q' => hb (by simp [q'])) (fun q' => hb (by simp [q'])) (fun q' => hb (by simp [q'])) q) hf⟩
  self := fun A i s Q E st h => wpAny_pyIter_zip st.1 h
def iZipQ (K : PySem.W.Frag) (ta : TA) : TI := fun σ H R => ta σ H fun vs H1 => ∃ k1 k2 a b xs ys, vs = [.ref a, .ref b] ∧ Sq K k1 H1 a xs ∧ Sq K k2 H1 b ys ∧ R (ItzQ K k1 k2 a b) H1
theorem pi_zipQ {X : Cx} {e e2 : Expr} {ta : TA} {p pos tpos : Pos} {elts : List Expr} {kk : Nat} (hg : Gl X "zip") (hm : X.mg "zip" = none) (ha : PA X [e, e2] ta)
    (hs : starEach [e, e2] X.env = (false, eval e X.env) :: starEach [e2] X.env) (hpl : (backTo pos (starEach [e2] X.env)).any (·.1) = false) :
    PI X (.Tuple elts kk tpos) (.Call (.Name "zip" p) [e, e2] [] pos) (iZipQ X.K ta) := by
  refine ⟨fun pins s σ H R I h => ?_⟩
  refine Call_ (ld_blt I hg hm PyProof.Rows.boot_zip (PyProof.Rows.callWith_type1 (thn (ha.run pos pins s σ H _ I h) fun us s1 ⟨vs, H1, I1, r1, q1⟩ => ?_) hs hpl))
  obtain ⟨k1, k2, a, b, xs, ys, ex, hqx, hqy, q⟩ := q1
  subst ex
  cases r1 with
  | cons r rr =>
    cases rr with
    | cons r' rr =>
      cases rr
      cases r
      cases r'
      obtain ⟨its, rv, p1, la⟩ := sq_is I1 hqx
      obtain ⟨its2, rv2, p2, lb⟩ := sq_is I1 hqy
      refine zip_begins2 (begins k1 a its.toArray) (begins k2 b its2.toArray) p1 p2 fun h' hz hTI hTO h1 h2 hsz hk => wpAny_pyIter_zip hz ?_
      have I2 : Inv X pins σ H1 { s1 with heap := h' } := I1.kept (t' := s1.toks) hk
      have S : ZipSep2 (s1.heap.objs.size + 4) (s1.heap.objs.size + 2) (s1.heap.objs.size + 3) s1.heap.objs.size (s1.heap.objs.size + 1) [s1.heap.objs.size, a] [s1.heap.objs.size + 1, b] :=
        zip_sep2 (fp1 := [a]) (fp2 := [b]) (fun c hc => by simpa using (by simpa using hc : c = a) ▸ la) (fun c hc => by simpa using (by simpa using hc : c = b) ▸ lb)
      refine ⟨s1.heap.objs.size + 4, [s1.heap.objs.size + 4, s1.heap.objs.size + 2, s1.heap.objs.size + 3, s1.heap.objs.size, s1.heap.objs.size + 1], _, _, H1, rfl, I2, turn_zipQ k1 k2 S (Nat.ne_of_lt la) (Nat.ne_of_lt (Nat.lt_succ_of_lt lb)), ⟨hz, hTI, ⟨_, _, hTO⟩, isIt0 h1, isIt0 h2⟩, fun c hcm => ?_, q⟩
      have e' : c = s1.heap.objs.size + 4 ∨ c = s1.heap.objs.size + 2 ∨ c = s1.heap.objs.size + 3 ∨ c = s1.heap.objs.size ∨ c = s1.heap.objs.size + 1 := by simpa using hcm
      have hle : s1.heap.objs.size ≤ c := by
        rcases e' with z | z | z | z | z
        · rw [z]; exact Nat.le_add_right _ _
        · rw [z]; exact Nat.le_add_right _ _
        · rw [z]; exact Nat.le_add_right _ _
        · rw [z]; exact Nat.le_refl _
        · rw [z]; exact Nat.le_add_right _ _
      exact I1.fpOk hle (I1.hok.fresh hle)
end Mn
namespace Mn
open PySem PySem.Spec PyProof.Rows L2
end Mn
namespace Mn
open PySem PySem.Spec PyProof.Rows RT L2
end Mn
set_option maxHeartbeats 1000000
namespace Mn
open PySem PySem.Spec PyProof.Rows L2
end Mn
set_option maxHeartbeats 4000000
namespace Mr
open PySem PySem.Spec PyProof.Rows RT L2
section
variable {prog : Program} {w : World} {A : Around} {E : Value → Shared → Prop} {s : Shared} {R : Result → Shared → Prop}
variable {I : Addr} {fp wr : List Addr} {G : Array GenState → Array GenState → Prop} {n : Nat} {P : Nat → Value → Prop} {St : Nat → Shared → Prop}
end
section
variable {prog : Program} {w : World} {A : Around} {E : Value → Shared → Prop} {s : Shared}
variable {I : Addr} {fp wr : List Addr} {G : Array GenState → Array GenState → Prop} {n : Nat} {P : Nat → Value → Prop} {St : Nat → Shared → Prop}
end
section
variable {X : Cx} {e : Expr} {te : TE} {p p2 pos pos2 : Pos}
end
end Mr
namespace Mr
open PySem PySem.Spec PyProof.Rows RT L2
def IsRs (h : Heap) (a : Addr) (x : Str) (i : Int) : Prop := ∃ o t, h.get? a = some o ∧ o.cls = .type "reversed" ∧ o.data = .fields #[.str x t, rawInt i]
theorem IsRs.at {h h' : Heap} {a : Addr} {x : Str} {i : Int} (y : IsRs h a x i) (e : ∀ o, h.get? a = some o → h'.get? a = some o) : IsRs h' a x i := by
  obtain ⟨o, t, ho, r⟩ := y
  exact ⟨o, t, e _ ho, r⟩
section
variable {prog : Program} {w : World} {A : Around} {E : Value → Shared → Prop} {s : Shared}
theorem IsRs.typeIs {a : Addr} {x : Str} {i : Int} (y : IsRs s.heap a x i) : s.TypeIs (.ref a) "reversed" := by
  obtain ⟨o, t, ho, hc, _⟩ := y
  exact ⟨o, ho, hc⟩
end
section
variable {X : Cx} {o e : Expr} {to te : TE} {apos p pos pos2 : Pos}
end
end Mr
namespace Mn
open PySem PySem.Spec PyProof.Rows L2
def PlAt (σ : L2.St) (H : Hp) (q : Nat × List Stp) (v : V) : Prop := ∃ r, σ[q.1]? = some (some r) ∧ walkH H r q.2 = some v
def tP (K : PySem.W.Frag) (c : Cl) (p : Pth) : TE := fun σ H Q => ∃ F env q, EnvOk K F H env σ ∧ evP c env p = some q ∧ ∀ v F' H', Ext F H F' H' → PlAt σ H' q v → Q v H'
theorem joinE {env : Ev} {i : Nat} {r : RV} (h : (env[i]?).join = some r) : env[i]? = some (some r) := by
  cases q : env[i]? with
  | none => rw [q] at h; cases h
  | some o => rw [q] at h; exact congrArg some h
theorem rootAt_eq {env : Ev} {i : Nat} {t : OT} (h : rootAt env i = some t) : ∃ pw, env[i]? = some (some (.tr pw t)) := by
  unfold rootAt at h
  obtain ⟨r, h1, h2⟩ := bnd h
  cases r with
  | tr pw t' => cases h2; exact ⟨pw, joinE h1⟩
  | _ => cases h2
theorem EnvOk.place {K : PySem.W.Frag} {F H : Hp} {env : Ev} {σ : L2.St} (ok : EnvOk K F H env σ) {q : Nat × List Stp} {t : OT} (h : treeAt env q.1 q.2 = some t) {v : V} (pl : PlAt σ H q v) : ∃ ps, Tr K F H v t ps ∧ ps.Nodup := by
  unfold treeAt at h
  obtain ⟨t0, h1, h2⟩ := bnd h
  obtain ⟨pw, h3⟩ := rootAt_eq h1
  obtain ⟨r, ps, h4, h5, h6⟩ := ok.tr_.tr _ _ _ h3
  obtain ⟨r', h7, h8⟩ := pl
  rw [h4] at h7
  cases h7
  obtain ⟨x, ps1, ps', ps2, g1, g2, g3, _⟩ := h5.at_ h2
  rw [h8] at g1
  cases g1
  refine ⟨ps', g2, ?_⟩
  subst g3
  exact (List.nodup_append.mp (List.nodup_append.mp h6).1).2.1
theorem EnvOk.place2 {K : PySem.W.Frag} {F H : Hp} {env : Ev} {σ : L2.St} (ok : EnvOk K F H env σ) {q : Nat × List Stp} {t : OT} (h : treeAt env q.1 q.2 = some t) {v : V} (pl : PlAt σ H q v) : ∃ ps, Tr K F H v t ps ∧ ∀ b ∈ ps, OwnAt H env σ q.1 b := by
  unfold treeAt at h
  obtain ⟨t0, h1, h2⟩ := bnd h
  obtain ⟨pw, h3⟩ := rootAt_eq h1
  obtain ⟨r, ps, h4, h5, h6⟩ := ok.tr_.tr _ _ _ h3
  obtain ⟨r', h7, h8⟩ := pl
  rw [h4] at h7
  cases h7
  obtain ⟨x, ps1, ps', ps2, g1, g2, g3, _⟩ := h5.at_ h2
  rw [h8] at g1
  cases g1
  refine ⟨ps', g2, fun b hb => ⟨_, r, h3, h4, (foot_tr h5).mpr ?_⟩⟩
  subst g3
  simp [hb]
theorem Tr.viewF {K : PySem.W.Frag} {F H : Hp} {v : V} {t : OT} {ps : List Addr} {r : RV} (a : Tr K F H v t ps) (h : viewO t = some r) {b : Addr} (f : Foot H r v b) : b ∈ ps := by
  cases a with
  | lf q => cases h; exact f.elim
  | dk _ e q => cases h; cases (show V.ref _ = V.ref b from f); simp
  | ls _ e a =>
    obtain ⟨ds, h1, rfl⟩ := mpd (show (leaves _).map RV.ol = some r from h)
    cases (show V.ref _ = V.ref b from f); simp
  | tp _ _ _ _ => cases h
  | ob _ _ _ _ _ _ => cases h
theorem kidsT_eq {t : OT} {ts : List OT} (h : kidsT t = some ts) : t = .nd .ls ts ∨ t = .nd .tp ts := by
  unfold kidsT at h
  split at h
  · cases h; exact .inl rfl
  · cases h; exact .inr rfl
  · cases h
theorem Tr.tpE {K : PySem.W.Frag} {F H : Hp} {v : V} {ts : List OT} {ps : List Addr} (a : Tr K F H v (.nd .tp ts) ps) : ∃ p o vs ps', v = .ref p ∧ F p = none ∧ H p = some (.frz o (.tup vs)) ∧ TupO o ∧ TrAll K F H vs ts ps' ∧ ps = p :: ps' := by
  cases a with
  | tp f h g a => exact ⟨_, _, _, _, rfl, f, h, g, a, rfl⟩
theorem Tr.lsE {K : PySem.W.Frag} {F H : Hp} {v : V} {ts : List OT} {ps : List Addr} (a : Tr K F H v (.nd .ls ts) ps) : ∃ p vs ps', v = .ref p ∧ F p = none ∧ H p = some (.lst vs) ∧ TrAll K F H vs ts ps' ∧ ps = p :: ps' := by
  cases a with
  | ls f h a => exact ⟨_, _, _, rfl, f, h, a, rfl⟩
theorem Tr.obE {K : PySem.W.Frag} {F H : Hp} {v : V} {nm : Str} {fs : List Str} {ts : List OT} {ps : List Addr} (a : Tr K F H v (.nd (.ob nm fs) ts) ps) : ∃ p C dx fvs ps', v = .ref p ∧ F p = none ∧ F dx = none ∧ H p = some (.ins C dx fvs) ∧ H dx = some (.own p) ∧ ClsAt K nm C ∧ TrAll K F H (fvs.map fun x => x.2) ts ps' ∧ fs = (fvs.map fun x => x.1) ∧ ps = p :: dx :: ps' := by
  generalize e : OT.nd (.ob nm fs) ts = t at a
  cases a with
  | ob f f2 h h2 c a => cases e; exact ⟨_, _, _, _, _, rfl, f, f2, h, h2, c, a, rfl, rfl⟩
  | _ => cases e
theorem leaves_rp {K : PySem.W.Frag} {F H : Hp} : ∀ {vs : List V} {ts : List OT} {ps : List Addr} {ds : List PyData}, TrAll K F H vs ts ps → leaves ts = some ds → RpAll K F vs ds
  | _, _, _, _, .nil, h => by cases h; exact .nil
  | _, _, _, _, .cons (.lf r) s, h => by
    obtain ⟨ds, h1, rfl⟩ := mpd (show (leaves _).map _ = some _ from h)
    exact .cons r (leaves_rp s h1)
  | _, _, _, _, .cons (.dk _ _ _) s, h => by cases h
  | _, _, _, _, .cons (.ls _ _ _) s, h => by cases h
  | _, _, _, _, .cons (.tp _ _ _ _) s, h => by cases h
  | _, _, _, _, .cons (.ob _ _ _ _ _ _) s, h => by cases h
theorem Tr.view {K : PySem.W.Frag} {F H : Hp} {v : V} {t : OT} {ps : List Addr} {r : RV} (a : Tr K F H v t ps) (h : viewO t = some r) : View K F H v r := by
  cases a with
  | lf q => cases h; exact .fz q
  | dk f e q => cases h; exact .own f e (.dK q)
  | ls f e a =>
    obtain ⟨ds, h1, rfl⟩ := mpd (show (leaves _).map RV.ol = some r from h)
    exact .own f e (.lst (leaves_rp a h1))
  | tp _ _ _ _ => cases h
  | ob _ _ _ _ _ _ => cases h
theorem fieldOf_eq {f nm : Str} {t : OT} (h : fieldOf f t = some nm) : ∃ fs ts, t = .nd (.ob nm fs) ts ∧ fs.contains f = true := by
  unfold fieldOf at h
  split at h
  · split at h
    · cases h; exact ⟨_, _, rfl, by assumption⟩
    · cases h
  · cases h
theorem lookup_some {f : Str} : ∀ {fvs : List (Str × V)}, (fvs.map fun x => x.1).contains f = true → ∃ v, fvs.lookup f = some v
  | [], h => by simp at h
  | (g, v) :: r, h => by
    cases e : f == g with
    | true => exact ⟨v, by rw [List.lookup_cons, e]⟩
    | false =>
      rw [List.map_cons, List.contains_cons, e, Bool.false_or] at h
      obtain ⟨w, h1⟩ := lookup_some h
      exact ⟨w, by rw [List.lookup_cons, e]; exact h1⟩
theorem plainT_P {p : Pth} {s : Sx} {e : Expr} (h : chkP p s e = true) : plainT e = true := by
  cases e with
  | Name _ _ => rfl
  | Subscript _ _ _ => rfl
  | Attribute _ _ _ => rfl
  | _ => cases p <;> simp [chkP, chkV] at h
theorem intAt_eq {env : Ev} {i : Nat} {n : Int} (h : intAt env i = some n) : env[i]? = some (some (.fz (.int n))) := by
  unfold intAt at h
  obtain ⟨r, h1, h2⟩ := bnd h
  obtain rfl := asInt_eq h2
  exact joinE h1
theorem EnvOk.int {K : PySem.W.Frag} {F H : Hp} {env : Ev} {σ : L2.St} (ok : EnvOk K F H env σ) {i : Nat} {n : Int} (h : intAt env i = some n) : σ[i]? = some (some (.int n)) := by
  obtain ⟨v, h1, w⟩ := ok.at_ i _ (intAt_eq h) rfl
  obtain rfl := w.int
  exact h1
theorem chkV_ok {X : Cx} {s : Sx} {c : Cl} (C : CO X s c) {i : Nat} {e : Expr} (h : chkV s i e = true) : PE X e (tVar i) ∧ PlainIx e := by
  unfold chkV at h
  split at h
  · simp only [Bool.and_eq_true, decide_eq_true_eq] at h
    obtain ⟨⟨h1, h2⟩, h3⟩ := h
    exact ⟨pe_var (i := i) (by rw [C.N]; exact h1) (C.vis h2) (okN1 h3).1 (okN1 h3).2, ix_of rfl⟩
  · cases h
theorem step_at {K : PySem.W.Frag} {F H : Hp} {env : Ev} {σ : L2.St} (ok : EnvOk K F H env σ) {q0 q : Nat × List Stp} {n : Int} (h : stepP env q0 n = some q) {v : V} (pl : PlAt σ H q0 v) :
    ∃ a xs x, v = .ref a ∧ (SqL K H a xs ∨ SqT K H a xs) ∧ L2.atI xs n = some x ∧ PlAt σ H q x := by
  unfold stepP at h
  obtain ⟨ts, h5, h⟩ := bnd h
  obtain ⟨j, h6, h7⟩ := mpd h
  subst h7
  obtain ⟨t0, h8, h9⟩ := bnd h5
  rcases kidsT_eq h9 with rfl | rfl
  · obtain ⟨ps, tr, _⟩ := ok.place h8 pl
    obtain ⟨a0, vs, ps', rfl, f, e, ta, _⟩ := tr.lsE
    have hl := ta.length
    have hj : j < vs.length := by rw [hl]; exact (ixN_seq h6).2.1
    refine ⟨a0, vs, vs[j], rfl, .inl (SqL.of e), ?_, ?_⟩
    · unfold L2.atI
      rw [hl, h6]
      exact List.getElem?_eq_getElem hj
    · obtain ⟨r, g1, g2⟩ := pl
      refine ⟨r, g1, ?_⟩
      show walkH H r (q0.2 ++ [.ix j]) = _
      rw [walkH_append, g2]
      show (stepH H (.ref a0) (.ix j)).bind _ = _
      have : stepH H (.ref a0) (.ix j) = vs[j]? := by
        show (match H a0 with | some (.lst vs) => vs[j]? | some (.frz _ (.tup vs)) => vs[j]? | _ => none) = _
        rw [e]
      rw [this, List.getElem?_eq_getElem hj]
      rfl
  · obtain ⟨ps, tr, _⟩ := ok.place h8 pl
    obtain ⟨a0, o, vs, ps', rfl, f, e, g, ta, _⟩ := tr.tpE
    have hl := ta.length
    have hj : j < vs.length := by rw [hl]; exact (ixN_seq h6).2.1
    refine ⟨a0, vs, vs[j], rfl, .inr (.inl (.inr ⟨o, e⟩)), ?_, ?_⟩
    · unfold L2.atI
      rw [hl, h6]
      exact List.getElem?_eq_getElem hj
    · obtain ⟨r, g1, g2⟩ := pl
      refine ⟨r, g1, ?_⟩
      show walkH H r (q0.2 ++ [.ix j]) = _
      rw [walkH_append, g2]
      show (stepH H (.ref a0) (.ix j)).bind _ = _
      have : stepH H (.ref a0) (.ix j) = vs[j]? := by
        show (match H a0 with | some (.lst vs) => vs[j]? | some (.frz _ (.tup vs)) => vs[j]? | _ => none) = _
        rw [e]
      rw [this, List.getElem?_eq_getElem hj]
      rfl
def rIxLT (K : PySem.W.Frag) : R2 := fun x y H Q => ∃ (p : Addr) (vs : List V) (n : Int) (w : V), x = .ref p ∧ y = .int n ∧ (SqL K H p vs ∨ SqT K H p vs) ∧ L2.atI vs n = some w ∧ Q w H
theorem ix_lt {X : Cx} : IxR X (rIxLT X.K) := by
  intro a b pins s σ H x y v u Q I rx ry ⟨p, vs, n, w, e1, e2, h, hw, q⟩
  rcases h with h | h
  · exact ix_list a b pins s σ H _ _ v u Q I rx ry ⟨p, vs, n, w, e1, e2, h, hw, q⟩
  · exact ix_tup a b pins s σ H _ _ v u Q I rx ry ⟨p, vs, n, w, e1, e2, h, hw, q⟩
theorem sndPth : ∀ (p : Pth) {X : Cx} {s : Sx} {c : Cl}, CO X s c → ∀ {e : Expr}, chkP p s e = true → PE X e (tP X.K c p)
  | .nm i, X, s, c, C, e, h => by
    refine PE.imp (chkV_ok C (show chkV s i e = true from h)).1 fun σ H Q ⟨F, env, q, ok, h, k⟩ => ?_
    obtain ⟨r, h4, h5⟩ := bnd (show ((env[i]?).join).bind _ = some q from h)
    have h6 := joinE h4
    cases r with
    | tr pw t =>
      cases h5
      obtain ⟨v, ps, g1, g2, g3⟩ := ok.tr_.tr _ _ _ h6
      exact ⟨v, g1, k v F H (.refl ok.sub) ⟨v, g1, rfl⟩⟩
    | al j w =>
      obtain ⟨t, h7, h8⟩ := mpd (show (rootAt env j).map _ = some q from h5)
      subst h8
      obtain ⟨pw, h9⟩ := rootAt_eq h7
      obtain ⟨v, x, u, g1, g2, g3, g4, g5⟩ := ok.tr_.al _ _ _ _ _ h6 h9
      exact ⟨x, g2, k x F H (.refl ok.sub) ⟨v, g1, g5⟩⟩
    | _ => cases h5
  | .iv p i, X, s, c, C, e, h => by
    unfold chkP at h
    split at h
    · simp only [Bool.and_eq_true] at h
      obtain ⟨p1, p2⟩ := chkV_ok C h.2
      refine PE.imp (pe_ix ix_lt (sndPth p C h.1) p1 p2) fun σ H Q ⟨F, env, q, ok, h, k⟩ => ?_
      obtain ⟨q0, h1, h⟩ := bnd (show (evP c env p).bind _ = some q from h)
      obtain ⟨n, h2, h⟩ := bnd h
      refine ⟨F, env, q0, ok, h1, fun v F1 H1 x1 pl => ?_⟩
      obtain ⟨a0, xs, x, rfl, e, hx, hp⟩ := step_at (ok.ext x1) h pl
      exact ⟨_, ok.int h2, a0, xs, n, x, rfl, rfl, e, hx, k x F1 H1 x1 hp⟩
    · cases h
  | .ic p n, X, s, c, C, e, h => by
    unfold chkP at h
    split at h
    · simp only [Bool.and_eq_true, decide_eq_true_eq] at h
      obtain ⟨h1, rfl⟩ := h
      refine PE.imp (pe_ix ix_lt (sndPth p C h1) pe_int (ix_of rfl)) fun σ H Q ⟨F, env, q, ok, h, k⟩ => ?_
      obtain ⟨q0, h1, h⟩ := bnd (show (evP c env p).bind _ = some q from h)
      refine ⟨F, env, q0, ok, h1, fun v F1 H1 x1 pl => ?_⟩
      obtain ⟨a0, xs, x, rfl, e, hx, hp⟩ := step_at (ok.ext x1) h pl
      exact ⟨a0, xs, _, x, rfl, rfl, e, hx, k x F1 H1 x1 hp⟩
    · cases h
  | .ia p i m, X, s, c, C, e, h => by
    unfold chkP at h
    split at h
    · simp only [Bool.and_eq_true, decide_eq_true_eq] at h
      obtain ⟨⟨h1, h2⟩, rfl⟩ := h
      refine PE.imp (pe_ix ix_lt (sndPth p C h1) (pe_op op_add (chkV_ok C h2).1 pe_int) (ix_of rfl)) fun σ H Q ⟨F, env, q, ok, h, k⟩ => ?_
      obtain ⟨q0, h1, h⟩ := bnd (show (evP c env p).bind _ = some q from h)
      obtain ⟨n, h2, h⟩ := bnd h
      refine ⟨F, env, q0, ok, h1, fun v F1 H1 x1 pl => ?_⟩
      obtain ⟨a0, xs, x, rfl, e, hx, hp⟩ := step_at (ok.ext x1) h pl
      exact ⟨_, ok.int h2, n, _, rfl, rfl, a0, xs, _, x, rfl, rfl, e, hx, k x F1 H1 x1 hp⟩
    · cases h
  | .fl p f, X, s, c, C, e, h => by
    unfold chkP at h
    split at h
    · rename_i o f' pos
      simp only [Bool.and_eq_true, decide_eq_true_eq] at h
      obtain ⟨⟨h1, h2⟩, h3⟩ := h
      subst h1
      refine PE.imp (pe_fld (sndPth p C h3) (base_of h2 _ _ _)) fun σ H Q ⟨F, env, q, ok, h, k⟩ => ?_
      obtain ⟨q0, h1, h⟩ := bnd (show (evP c env p).bind _ = some q from h)
      obtain ⟨nm, h4, h⟩ := bnd h
      obtain ⟨t0, h5, h6⟩ := bnd h4
      obtain ⟨fs, ts, rfl, h7⟩ := fieldOf_eq h6
      obtain ⟨hof, rfl⟩ := itd h
      refine ⟨F, env, q0, ok, h1, fun v F1 H1 x1 pl => ?_⟩
      obtain ⟨ps, tr, _⟩ := (ok.ext x1).place h5 pl
      obtain ⟨a0, C0, dx, fvs, ps', rfl, f1, f2, e1, e2, ca, ta, rfl, _⟩ := tr.obE
      obtain ⟨v, l⟩ := lookup_some h7
      obtain ⟨c1, c2⟩ := C.ofs _ _ (List.contains_iff_mem.mp hof) C0 ca
      refine ⟨a0, C0, dx, fvs, v, rfl, e1, c1, c2, l, k v F1 H1 x1 ?_⟩
      obtain ⟨r, g1, g2⟩ := pl
      refine ⟨r, g1, ?_⟩
      show walkH H1 r (q0.2 ++ [.fl f']) = _
      rw [walkH_append, g2]
      show (stepH H1 (.ref a0) (.fl f')).bind _ = _
      have : stepH H1 (.ref a0) (.fl f') = some v := by
        show (match H1 a0 with | some (.ins _ _ fs) => fs.lookup f' | _ => none) = _
        rw [e1]; exact l
      rw [this]
      rfl
    · cases h
mutual
theorem Tr.noTup {K : PySem.W.Frag} {F H : Hp} : ∀ {v : V} {t : OT} {ps : List Addr}, Tr K F H v t ps → t.noOb = true → t.noTp = true → ∀ b ∈ ps, ∀ o, H b = some o → ∀ ob xs, o ≠ .frz ob (.tup xs)
  | _, _, _, .lf _, _, _, b, hb => absurd hb (by simp)
  | _, _, _, .dk f h r, _, _, b, hb => fun o e ob xs z => by
    rw [List.mem_singleton] at hb
    subst hb
    rw [h] at e
    cases e
    cases z
  | _, _, _, .ls f h a, n, n', b, hb => fun o e ob xs z => by
    rcases List.mem_cons.mp hb with rfl | hb
    · rw [h] at e
      cases e
      cases z
    · simp only [OT.noOb, OT.noTp, Bool.and_eq_true] at n n'
      exact TrAll.noTup a n.2 n'.2 b hb o e ob xs z
  | _, _, _, .tp f h g a, _, n, b, hb => by simp [OT.noTp] at n
  | _, _, _, .ob _ _ _ _ _ _, n, _, b, hb => by simp [OT.noOb, Kd.isOb] at n
theorem TrAll.noTup {K : PySem.W.Frag} {F H : Hp} : ∀ {vs : List V} {ts : List OT} {ps : List Addr}, TrAll K F H vs ts ps → OT.noObs ts = true → OT.noTps ts = true → ∀ b ∈ ps, ∀ o, H b = some o → ∀ ob xs, o ≠ .frz ob (.tup xs)
  | _, _, _, .nil, _, _, b, hb => absurd hb (by simp)
  | _, _, _, .cons r s, n, n', b, hb => by
    simp only [OT.noObs, OT.noTps, Bool.and_eq_true] at n n'
    rcases List.mem_append.mp hb with hb | hb
    · exact Tr.noTup r n.1 n'.1 b hb
    · exact TrAll.noTup s n.2 n'.2 b hb
end
theorem Tr.lendP {K : PySem.W.Frag} {F F1 H : Hp} {v : V} {t : OT} {ps : List Addr} (a : Tr K F H v t ps) {Z : Prop} (n1 : t.noOb = true) (n2 : Z → t.noTp = true) (s1 : Same F F1) (s2 : Same F1 H) (n : Z → NoTu F F1) : ∃ F2, Same F1 F2 ∧ Same F2 H ∧ (Z → NoTu F F2) ∧ Rp K F2 v t.d := by
  classical
  let P : Addr → Prop := fun b => b ∈ ps
  have fr : Same F1 (coldF F1 H P) := fun b o e => by
    unfold coldF
    split
    · exact s2 _ _ e
    · exact e
  refine ⟨coldF F1 H P, fr, fun b o e => ?_, fun hz b o e => ?_, a.lend (s1.trans fr) n1 fun b hb => if_pos hb⟩
  · unfold coldF at e
    split at e
    · exact e
    · exact s2 _ _ e
  · unfold coldF at e
    split at e
    · rename_i hb
      exact .inr (a.noTup n1 (n2 hz) b hb o e)
    · exact n hz b o e
end Mn
namespace Mn
open PySem PySem.Spec PyProof.Rows L2
section
variable {X : Cx} {tk tv : TE}
def tDT1 (K : PySem.W.Frag) (tk tv : TE) : TE := fun σ H Q => ∀ p o, H p = none → tk σ (upd H p (dtO p o [])) fun x H1 => tv σ H1 fun y H2 => H2 p = some (dtO p o []) ∧ ∃ b k, x = V.ref b ∧ TupN K H2 b (k.map V.int) ∧ ∀ o', Q (.ref p) (upd H2 p (dtO p o' [(k, b, y)]))
theorem pe_dT1 {ek ev : Expr} {pos : Pos} (hu : X.A.units + 1 < cLine) (hk : PE X ek tk) (hv : PE X ev tv) : PE X (.Dict [some ek] [ev] pos) (tDT1 X.K tk tv) := by
  refine ⟨fun pins s σ H Q I h => ?_⟩
  have hn := I.hok.fresh (Nat.le_refl s.heap.objs.size)
  have hs : (s.heap.objs.size == sysModules) = false := beq_eq_false_iff_ne.mpr (Ne.symm (Nat.ne_of_lt I.big))
  have I1 := I.laid (a := s.heap.objs.size) (o := dtO s.heap.objs.size { cls := .type "dict", data := .dict #[] } []) (h' := s.heap.push { cls := .type "dict", data := .dict #[] }) (t' := s.toks) (fun _ _ q => Heap.get?_push_of_some _ q) (Nat.le_refl _)
    (dtO_ok hs (Nat.zero_le _) (Heap.get?_push_size _ rfl) ⟨⟨rfl, rfl, rfl⟩, #[], 0, [], rfl, .nil, rfl, List.nodup_nil⟩)
  have hsh := zip_pairTrees [some ek] [ev] X.env pos rfl rfl
  rw [arm_eval_Dict, hsh, dictDisplay_pairs _ (by simp [pairTrees]) (by simp [pairTrees])]
  refine wpAny_bind (wpAny_standAt (wpAny_bind ?_))
  unfold subDict
  refine wpAny_bind (wpAny_alloc ?_)
  refine wpAny_bind (wpAny_holding ?_)
  rw [if_pos (by simp [pairTrees])]
  refine wpAny_bind ?_
  refine pairTrees_cons_walk (thn (hk.run pins _ σ _ _ I1 (h _ _ hn)) fun u s1 ⟨x, H1, I2, rx, q1⟩ => thn (hv.run pins s1 σ H1 _ I2 q1) fun w2 s2 ⟨y, H2, I3, ry, q2⟩ => pairTrees_nil_walk ?_)
  obtain ⟨e, b, k, ex, tb, q⟩ := q2
  subst ex
  cases rx
  refine wpAny_holding ?_
  obtain ⟨hm, hz, xs, r, dd⟩ := dt_H I3 e (fun x hx => by simp at hx)
  cases r
  rw [List.forIn_cons]
  refine wpAny_bind (wpAny_bind (wpAny_bind (wpAny_dictSet_heap (hsz := by simp) (show X.A.units < cLine by omega) (keyN_is I3 tb) dd fun h' dd' hs' => wpAny_pure ?_)))
  show wpAny _ _ (forIn [] PUnit.unit _) _ _ _
  rw [List.forIn_nil]
  refine wpAny_pure (wpAny_pure (wpAny_pure (wpAny_pure ?_)))
  obtain ⟨o', es, ep, ho', hx, hd, he, _, nd⟩ := dd'
  refine ⟨.ref s.heap.objs.size, _, ?_, rfl, q o'⟩
  refine I3.write (x := s.heap.objs.size) (e := s.heap.objs.size) (by rw [e]; exact True.intro) (.inl rfl) (fun c w hc z => (hs'.2 c hc).trans z) ⟨o', ho'⟩ ?_
  exact dtO_ok hm (by rw [sizeLine_eq]; simp) ho' ⟨hx, es, ep, _, hd, KVx.put (kvs := []) .nil k b ry, he, nd⟩
end
end Mn
namespace Mn
open PySem PySem.Spec PyProof.Rows L2
section
variable {K : PySem.W.Frag} {F H : Hp} {v : V} {r : RV} {nm f : Str}
theorem inm_eq (h : inm r = some nm) : ∃ fs ds, r = .fz (.dict [(.bool true, .list [.str nm, .list fs, .list ds])]) := by
  unfold inm at h
  split at h
  · cases h; exact ⟨_, _, rfl⟩
  · cases h
theorem Rp.insE {fs ds : List PyData} (h : Rp K F v (.dict [(.bool true, .list [.str nm, .list fs, .list ds])])) : ∃ a C dx fvs, v = .ref a ∧ F a = some (.ins C dx fvs) ∧ F dx = some (.own a) ∧ ClsAt K nm C ∧ fs = (fvs.map fun x => x.1).map PyData.str ∧ RpAll K F (fvs.map fun x => x.2) ds := by
  cases h with
  | ins h g q r => exact ⟨_, _, _, _, rfl, h, g, q, rfl, r⟩
theorem lkF_at : ∀ {fvs : List (Str × V)} {ds : List PyData} {d : PyData}, RpAll K F (fvs.map fun x => x.2) ds → lkF ((fvs.map fun x => x.1).map PyData.str) ds f = some d → ∃ v, fvs.lookup f = some v ∧ Rp K F v d
  | [], _, _, _, h => by simp [lkF] at h
  | (g, x) :: r, _, d, .cons a t, h => by
    rw [List.map_cons, List.map_cons] at h
    unfold lkF at h
    rw [List.lookup_cons]
    by_cases e : f = g
    · rw [if_pos e] at h
      cases h
      subst e
      exact ⟨x, by rw [beq_self_eq_true], a⟩
    · rw [if_neg e] at h
      have e2 : (f == g) = false := by
        cases q : f == g with
        | false => rfl
        | true => exact absurd (eq_of_beq q) e
      rw [e2]
      exact lkF_at t h
theorem noF_at : ∀ {fvs : List (Str × V)}, noF f ((fvs.map fun x => x.1).map PyData.str) = true → fvs.lookup f = none
  | [], _ => rfl
  | (g, x) :: r, h => by
    rw [List.map_cons, List.map_cons] at h
    unfold noF at h
    simp only [Bool.and_eq_true, decide_eq_true_eq] at h
    rw [List.lookup_cons]
    have e2 : (f == g) = false := by
      cases q : f == g with
      | false => rfl
      | true => exact absurd (eq_of_beq q) h.1
    rw [e2]
    exact noF_at h.2
theorem lfsD_at : ∀ {vs : List V} {ts : List OT} {ps : List Addr} {ds : List PyData}, TrAll K F H vs ts ps → lfsD ts = some ds → ps = [] ∧ RpAll K F vs ds
  | _, _, _, _, .nil, h => by cases h; exact ⟨rfl, .nil⟩
  | _, t :: ts, _, ds, .cons a b, h => by
    cases t with
    | lf d =>
      obtain ⟨es, h1, rfl⟩ := Option.map_eq_some_iff.mp (show (lfsD ts).map _ = some ds from h)
      obtain ⟨e, r⟩ := lfsD_at b h1
      cases a with
      | lf q => exact ⟨by rw [e]; rfl, .cons q r⟩
    | _ => cases h
theorem mkjD_eq {z : RV × OT} (h : mkjD z = some r) : ∃ nm fs ts ds, z = (.fz .none, .nd (.ob nm fs) ts) ∧ lfsD ts = some ds ∧ r = .fz (insD nm fs ds) := by
  unfold mkjD at h
  split at h
  · obtain ⟨ds, h1, rfl⟩ := Option.map_eq_some_iff.mp h
    exact ⟨_, _, _, ds, rfl, h1, rfl⟩
  · cases h
theorem dT1D_eq {kd d : PyData} (h : dT1D kd d = some r) : ∃ ks, kd = .tuple (ks.map PyData.int) ∧ r = .od (dtD [ks] [d]) := by
  unfold dT1D at h
  split at h
  · rename_i ds d
    obtain ⟨ks, h1, rfl⟩ := Option.map_eq_some_iff.mp h
    obtain rfl := intsOf_eq h1
    exact ⟨ks, rfl, rfl⟩
  · cases h
end
theorem meth_htG {env : Env} {o : Expr} {m : Str} {apos pos : Pos} {es : List Expr} (hbo : baseOk o = true) (hl : (apos.endLine == pos.line) = true) (hn : es.length < 30) (hp : ∀ e ∈ es, plainX e = true) : eval (.Call (.Attribute o m apos) es [] pos) env = (do
      let ov ← eval o env
      standAt apos.atName
      let (f, first) ← holding [ov] (getMethod ov m (do return (← importBound o env).getD true))
      callWith pos f first (backTo pos (starEach es env)) (backToKw pos (keywordEach [] env))) := by
  have pa : ∀ {es : List Expr}, (∀ e ∈ es, plainX e = true) → (backTo pos (starEach es env)).all (fun x => !x.1) = true := fun {es} h => by
    induction es with
    | nil => rfl
    | cons e es ih =>
      rw [star_of (h e (by simp)) es env]
      show (!false && (backTo pos (starEach es env)).all (fun x => !x.1)) = true
      rw [ih fun x hx => h x (List.mem_cons_of_mem _ hx)]
      rfl
  have hf : methodCallForm (es.length + ([] : List Keyword).length) (backTo pos (starEach es env)) (backToKw pos (keywordEach [] env)) = true := by
    unfold methodCallForm
    rw [pa hp]
    have : (backToKw pos (keywordEach [] env)) = [] := rfl
    rw [this]
    simp [hn]
  rw [arm_eval_Call, base_of hbo]
  show (do
    let ov ← eval o env
    standAt apos.atName
    methodCall o m apos pos env ov (es.length + ([] : List Keyword).length) (backTo pos (starEach es env)) (backToKw pos (keywordEach [] env))) = _
  unfold methodCall methodCallPos calleeOf
  rw [hf]
  simp only [hl, Bool.not_true, Bool.false_or, if_true, pure_bind]
section
variable {X : Cx}
def tMthI (X : Cx) (m : Str) (ta : TE) (t : TA) : TE := fun σ H Q => ta σ H fun x H1 => ∃ a C dx fs g, x = .ref a ∧ H1 a = some (.ins C dx fs) ∧ L2.Cls X.K C ∧ L2.Meth X.K C m g ∧ fs.lookup m = none ∧
  ∃ (CX : CXT) (k : Nat) (fd : FuncData) (ps : List Str) (sp : Sp), Room k X.A ∧ Binds X.K fd ps [] ∧ FnOk X.prog X.w X.K X.mg X.base CX k g fd ps sp ∧ (∀ outer H s e s', CX outer H s E0 e s' → False) ∧ t σ H1 fun vs H2 => sp (x :: vs) H2 Q E0
theorem pe_mthI {o : Expr} {m : Str} {apos pos : Pos} {es : List Expr} {ta : TE} {t : TA} (he : PE X o ta) (hbo : baseOk o = true) (hl : (apos.endLine == pos.line) = true) (hn : es.length < 30) (hp : ∀ e ∈ es, plainX e = true) (ha : PA X es t) (h0 : es = [] → ∀ σ H Q, t σ H Q → Q [] H) :
    PE X (.Call (.Attribute o m apos) es [] pos) (tMthI X m ta t) := by
  have ht := meth_htG (env := X.env) (o := o) (m := m) hbo hl hn hp
  refine ⟨fun pins s σ H Q I h => ?_⟩
  cases es with
  | nil =>
    refine PySem.W.methodCall_KW (thn (he.run pins s σ H _ I h) fun u s1 ⟨x, H1, I1, rx, a, C, dx, fs, g, ex, ea, cl, hm, l, CX, k, fd, ps, sp, hr, hb, F, hx, q⟩ => ?_) ht
    subst ex
    obtain rfl : u = Value.ref a := rx
    refine getmeth_ok I1 ea cl hm l ?_
    exact PySem.W.callWith_K0 (first := [.ref a]) I1.kIn hm.kp (run_fn (us := [.ref a]) (vs := [.ref a]) (dvs := []) (ds := []) F hr hb .nil (fun _ _ _ _ _ _ _ h => (hx _ _ _ _ _ h).elim) I1 (.cons rfl .nil) (h0 rfl σ H1 _ q))
  | cons e es =>
    refine PySem.W.methodCall_KW (thn (he.run pins s σ H _ I h) fun u s1 ⟨x, H1, I1, rx, a, C, dx, fs, g, ex, ea, cl, hm, l, CX, k, fd, ps, sp, hr, hb, F, hx, q⟩ => ?_) ht
    subst ex
    obtain rfl : u = Value.ref a := rx
    refine getmeth_ok I1 ea cl hm l ?_
    refine PySem.W.callWith_K (first := [.ref a]) (h₀ := X.base) I1.ok.mod.kin hm.kp (thn (ha.run pos pins s1 σ H1 _ I1 q) fun us s2 ⟨vs, H2, I2, r, q2⟩ => ⟨I2.kIn, ?_⟩) (star_of (hp e (by simp)) es X.env) (plain_any fun x hx => hp x (List.mem_cons_of_mem _ hx))
    exact run_fn (us := .ref a :: us) (vs := .ref a :: vs) (dvs := []) (ds := []) F hr hb .nil (fun _ _ _ _ _ _ _ h => (hx _ _ _ _ _ h).elim) I2 (.cons rfl r) (by rw [List.append_nil]; exact q2)
def rIsj (K : PySem.W.Frag) : List V → Hp → VK → Prop := fun xs H Q => ∃ a C dx fs E b, xs = [V.ref a, .ref E] ∧ H a = some (.ins C dx fs) ∧ IsJ K C E b ∧ Q (.bl b) H
theorem call_isj : CallR X (.builtin "isinstance") (rIsj X.K) := by
  intro pins s σ H xs us Q I r h
  obtain ⟨a, C, dx, fs, E, b, rfl, ea, J, q⟩ := h
  obtain ⟨u1, u2, rfl, r1, r2⟩ := vals2 r
  obtain rfl : u2 = Value.ref E := r2
  exact isinst_ok I r1 (.ins ea J.cl J.ha J.hn J.htk J.hm) J.one fun tk => ⟨.bl b, H, I.tok tk, rfl, q⟩
end
end Mn
namespace Mn
open PySem PySem.Spec PyProof.Rows L2
section
variable {X : Cx} {s : Sx} {c : Cl}
theorem CO.gl (C : CO X s c) {x y : Str} (h : x = y) (g : s.glo x = true) (m : y ∈ bnames) : Gl X y ∧ X.mg y = none := by
  subst h
  exact ⟨C.glo g, C.bn _ m⟩
theorem tst_val {K : PySem.W.Frag} {c : Cl} {e : Ex} {σ : L2.St} {H : Hp} {Q : Bool → Hp → Prop} (h : tT K c e σ H Q) : tB (tE K c e) σ H Q := by
  obtain ⟨F, env, b, ok, h, k⟩ := h
  exact ⟨F, env, _, ok, h, fun v F' H' x w _ => by
    obtain rfl := w.bool
    exact ⟨b, rfl, k F' H' x⟩⟩
theorem pe_callS (C : CO X s c) {f : Nat} {x : Str} {es : Exs} {xs : List Expr} {p pos : Pos} (hf : s.fns[f]? = some x) (hg : s.glo x = true) (hk : okN x = true) (hp : ∀ e ∈ xs, plainX e = true) (ha : PA X xs (tAb X.K c es)) (hl : xs = [] → es = .nil) :
    PE X (.Call (.Name x p) xs [] pos) (tE X.K c (.call f es)) := by
  obtain ⟨np, hnp, ⟨CX, k, fa, fd, ps, hr, hm, hkp, hb, hF, hx⟩⟩ := C.fns f x hf
  have key : ∀ (t : TA), (∀ σ H Q, tAb X.K c es σ H Q → t σ H Q) → ∀ σ H Q, tE X.K c (.call f es) σ H Q →
      tCall (fun vs H Q _ => ∃ F ds r, Same F H ∧ RpAll X.K F vs ds ∧ ds.length = np ∧ c.call f ds = some r ∧ ∀ v F' H', Ext F H F' H' → View X.K F' H' v r → New r v H H' → Q v H') [] E0 t σ H Q := by
    intro t ht σ H Q ⟨F, env, r, ok, h, q⟩
    obtain ⟨⟨ds, b⟩, h1, h2⟩ := bnd (show (evb c env es).bind (fun p => callD (c.call f p.1) p.2 (tpE env es)) = some r from h)
    obtain ⟨h3, h4⟩ := callD_eq h2
    refine ht σ H _ ⟨F, env, ds, b, ok, h1, fun vs F' H' xt w1 w2 => ?_⟩
    simp only [List.append_nil]
    cases b with
    | false =>
      exact ⟨F', ds, r, xt.sub, w2 rfl, hnp ds r h3, h3, fun v F2 H2 x2 w n => q v F2 H2 (xt.trans x2) w fun _ => fun p hp => xt.same.free (n p hp)⟩
    | true =>
      obtain ⟨d, rfl, hs, htp⟩ := h4 rfl
      obtain ⟨F1, s1, s2, nt, w1⟩ := w1
      refine ⟨F1, ds, .fz d, s2, w1, hnp ds _ h3, h3, fun v F2 H2 x2 w n => ?_⟩
      rcases htp with htp | htp
      · obtain ⟨F3, x3, r3⟩ := flat_back xt s1 (nt htp) x2 w.rpF hs
        exact q v F3 H2 x3 (.fz r3) fun _ => newFz
      · obtain ⟨F3, x3, r3⟩ := scal_back xt s1 x2 w.rpF htp
        exact q v F3 H2 x3 (.fz r3) fun _ => newFz
  cases xs with
  | nil =>
    exact PE.imp (pe_call0 (dvs := []) (ds := []) (E := E0) hF hr (C.glo hg) hm hkp hb .nil (fun _ _ _ _ _ _ _ h => (hx _ _ _ _ _ h).elim) (okN1 hk).1) (key tNil fun σ H Q h => by
      obtain ⟨F, env, ds, b, ok, h, k⟩ := h
      obtain rfl := hl rfl
      cases h
      exact k [] F H (.refl ok.sub) ⟨F, Same.refl _, ok.sub, fun _ => NoTu.refl _, .nil⟩ fun _ => .nil)
  | cons e xs =>
    exact PE.imp (pe_call (dvs := []) (ds := []) (E := E0) hF hr (C.glo hg) hm hkp hb .nil (fun _ _ _ _ _ _ _ h => (hx _ _ _ _ _ h).elim) ha (okN1 hk).1 (star_of (hp e (by simp)) xs _) (plain_any fun x hx => hp x (List.mem_cons_of_mem _ hx))) (key _ fun σ H Q h => h)
theorem chks_nil {es : Exs} {s : Sx} (h : chkEs es s [] = true) : es = .nil := by
  cases es with
  | nil => rfl
  | cons _ _ => simp [chkEs] at h
theorem new_back {r : RV} {v : V} {H H' H2 : Hp} (x : Same H H') (n : New r v H' H2) : New r v H H2 := fun p h => x.free (n p h)
theorem two {K : PySem.W.Frag} {a b : Ex} {f : RV → RV → Option RV} {σ : L2.St} {H : Hp} {Q : VK} {F : Hp} {env : Ev} {r : RV} (ok : EnvOk K F H env σ) (h : ((ev c env a).bind fun x => (ev c env b).bind fun y => f x y) = some r)
    (k : ∀ v F' H', Ext F H F' H' → View K F' H' v r → New r v H H' → Q v H') : tOp (r2S K f) (tE K c a) (tE K c b) σ H Q := by
  obtain ⟨x, h1, h⟩ := bnd h
  obtain ⟨y, h2, h⟩ := bnd h
  exact ⟨F, env, x, ok, h1, fun v F1 H1 x1 w1 _ => ⟨F1, env, y, ok.ext x1, h2, fun u F2 H2 x2 w2 _ => ⟨F2, x, y, r, x2.sub, w1.ext x2, w2, h, fun v F3 H3 x3 w3 n => k v F3 H3 (x1.trans (x2.trans x3)) w3 (new_back (x1.trans x2).same n)⟩⟩⟩
theorem cmps {K : PySem.W.Frag} {o : Co} {a b : Ex} {σ : L2.St} {H : Hp} {Q : VK} {F : Hp} {env : Ev} {r : RV} (ok : EnvOk K F H env σ) (h : ((ev c env a).bind fun x => (ev c env b).bind fun y => (cmpD o x.d y.d).map fun k => RV.fz (.bool k)) = some r)
    (k : ∀ v F' H', Ext F H F' H' → View K F' H' v r → New r v H H' → Q v H') : tOp (r2C K (cmpD o)) (tE K c a) (tE K c b) σ H Q := by
  obtain ⟨x, h1, h⟩ := bnd h
  obtain ⟨y, h2, h⟩ := bnd h
  obtain ⟨z, h3, rfl⟩ := mpd h
  exact ⟨F, env, x, ok, h1, fun v F1 H1 x1 w1 _ => ⟨F1, env, y, ok.ext x1, h2, fun u F2 H2 x2 w2 _ => ⟨x.d, y.d, z, (w1.ext x2).rp x2.sub, w2.rp x2.sub, h3, k _ F2 H2 (x1.trans x2) (.fz (.bl z)) newFz⟩⟩⟩
theorem handed {K : PySem.W.Frag} {b : Ex} {σ : L2.St} {H : Hp} {Q : VK} {F : Hp} {env : Ev} {r' : RV} {d : PyData} (ok : EnvOk K F H env σ) (h : ev c env b = some r') (ho : ownD b r' = some d)
    (k : ∀ v F' H', Ext F H F' H' → View K F' H' v (.fz d) → Q v H') : tE K c b σ H Q :=
  ⟨F, env, r', ok, h, fun v F1 H1 x1 w1 n1 => by
    obtain ⟨rfl, F2, x2, w2⟩ := own_rp ho x1 w1 n1
    exact k v F2 H1 x2 (.fz w2)⟩
section
variable {X : Cx} {e₁ e₂ e₃ e₄ : Expr} {ta tb tc td : TE} {pos : Pos}
end
def tO (K : PySem.W.Frag) (c : Cl) (e : Ex) : TO := fun σ H Q => ∃ F env o, EnvOk K F H env σ ∧ evo c env e = some o ∧ ∀ F' H', Ext F H F' H' → Q o H'
theorem few1 {v : Expr} {cpos : Pos} (h : plainX v = true) (env : Env) : ((backTo cpos (starEach [v] env)).all (fun x => !x.1) && (backToKw cpos (keywordEach [] env)).all (fun x => x.1.isSome)
      && decide ([v].length + ([] : List Keyword).length + (if ([] : List Keyword).isEmpty then 0 else 1) < 30)) = true := by
  rw [star_of h [] env]
  rfl
def tTs (K : PySem.W.Frag) (c : Cl) (e : Ex) : TT := fun σ H Q => ∃ F env b, EnvOk K F H env σ ∧ evt c env e = some b ∧ ∀ F' H', Ext F H F' H' → Q b H'
theorem ownN_map (s : Sx) : ∀ own : List Nat, (ownN s own).map (·.2) = own
  | [] => rfl
  | i :: r => congrArg (i :: ·) (ownN_map s r)
theorem chkI_plain {it : Itr} {s : Sx} {tg e : Expr} (h : chkI it s tg e = true) : plainX e = true := by
  cases it with
  | ex a => unfold chkI at h; exact chk_plain h
  | _ => unfold chkI at h; first | (cases h; done) | (split at h <;> first | rfl | cases h)
theorem Ext.write {F H F' H' : Hp} {p : Addr} {o : HO} (x : Ext F H F' H') (n : H p = none) (f : F' p = none) : Ext F H F' (upd H' p o) :=
  ⟨x.fr, fun b u e => by
    rw [upd_ne (ne_of_none e f)]
    exact x.sub _ _ e, fun b u e => by
    rw [upd_ne (ne_of_none e n)]
    exact x.same _ _ e, x.new⟩
theorem Ext.out {F H F' H' : Hp} {p : Addr} {o : HO} (x : Ext F H F' H') (f : F p = none) (h : H p = some o) : F' p = none := by
  cases e : F' p with
  | none => rfl
  | some u =>
    rcases x.new _ _ e with z | z
    · rw [f] at z; cases z
    · rw [h] at z; cases z
theorem compL_snoc {f : PyData → Option (Option PyData)} {x : PyData} {o : Option PyData} (hx : f x = some o) : ∀ {xs ds : List PyData}, compL f xs = some ds → compL f (xs ++ [x]) = some (ds ++ o.toList)
  | [], ds, h => by
    cases h
    simp only [List.nil_append, compL, hx, Option.bind_some]
    cases o <;> rfl
  | y :: ys, ds, h => by
    obtain ⟨o', h1, h⟩ := bnd (show (f y).bind _ = some ds from h)
    obtain ⟨r, h2, h⟩ := bnd h
    have ih := compL_snoc hx h2
    have e : compL f (y :: ys ++ [x]) = (f y).bind fun o => (compL f (ys ++ [x])).bind fun r => some (match o with | some y => y :: r | none => r) := rfl
    rw [e, h1, Option.bind_some, ih, Option.bind_some]
    cases h
    cases o' <;> rfl
theorem compL_all {f : PyData → Option (Option PyData)} : ∀ {xs ds : List PyData}, compL f xs = some ds → ∀ (i : Nat) x, xs[i]? = some x → (∃ o, f x = some o) ∧ ∃ es, compL f (xs.take i) = some es
  | [], ds, h, i, x, hx => by simp at hx
  | y :: ys, ds, h, 0, x, hx => by
    obtain ⟨o', h1, h⟩ := bnd (show (f y).bind _ = some ds from h)
    simp at hx
    subst hx
    exact ⟨⟨o', h1⟩, [], rfl⟩
  | y :: ys, ds, h, i + 1, x, hx => by
    obtain ⟨o', h1, h⟩ := bnd (show (f y).bind _ = some ds from h)
    obtain ⟨r, h2, h⟩ := bnd h
    obtain ⟨q1, es, q2⟩ := compL_all h2 i x (by simpa using hx)
    have e : compL f ((y :: ys).take (i + 1)) = (f y).bind fun o => (compL f (ys.take i)).bind fun r => some (match o with | some y => y :: r | none => r) := rfl
    rw [h1, Option.bind_some, q2, Option.bind_some] at e
    exact ⟨q1, _, e⟩
theorem wipe_idem {own : List Nat} {σ : L2.St} : ∀ {vs : List Nat}, (∀ v ∈ vs, v ∈ own) → wipe (wipe σ vs) own = wipe σ own
  | [], _ => rfl
  | v :: vs, h => by
    show wipe ((wipe σ vs).set v none) own = _
    rw [wipe_set (by simpa using h v (by simp))]
    exact wipe_idem fun w hw => h w (List.mem_cons_of_mem _ hw)
structure SndP (X : Cx) (c : Cl) (a : Ex) (e : Expr) : Prop where
  pe : PE X e (tE X.K c a)
  pt : PT X e (tT X.K c a)
  pw : ∀ op vs pos, e = .BoolOp op vs pos → PW X e (tT X.K c a)
theorem mkP {a : Ex} {e : Expr} (h : PE X e (tE X.K c a)) (p : plainT e = true) : SndP X c a e :=
  ⟨h, PT.imp (pt_val h (true_of p _)) fun _ _ _ q => tst_val q, fun op vs pos z => by subst z; cases p⟩
theorem rd_bool {a : Ex} {r : RV} {b : Bool} (h : ownD a r = some (.bool b)) : r = .fz (.bool b) := by
  unfold ownD at h
  split at h
  · cases h
  · cases r <;> simp [RV.d] at h
    subst h
    rfl
theorem tgo {K : PySem.W.Frag} {b : Ex} {σ : L2.St} {H : Hp} {Q : Bool → Hp → Prop} {F : Hp} {env : Ev} {k : Bool} (ok : EnvOk K F H env σ) (h : ((ev c env b).bind fun r => (ownD b r).map RV.fz) = some (.fz (.bool k)))
    (q : ∀ F' H', Ext F H F' H' → Q k H') : tT K c b σ H Q := by
  obtain ⟨r, h1, h2⟩ := bnd h
  obtain ⟨d, h3, h4⟩ := mpd h2
  cases h4
  obtain rfl := rd_bool h3
  exact ⟨F, env, k, ok, h1, q⟩
theorem comp_ok {K : PySem.W.Frag} {a t : Ex} {tg : Tg} {it : Itr} {own : List Nat} {σ : L2.St} {H : Hp} {Q : VK} (ht : tgIn tg own = true) (h : tE K c (.comp a tg it t own) σ H Q) : tLc (tI K c it) (gS K tg) (tTs K c t) (tE K c a) own σ H Q := by
  obtain ⟨F, env, r, ok, h, k⟩ := h
  obtain ⟨items, h1, h⟩ := bnd (show (evi c env it).bind _ = some r by simpa only [ev] using h)
  obtain ⟨ds, h2, h⟩ := bnd h
  obtain ⟨hl, rfl⟩ := itd h
  refine ⟨F, env, items, ok, h1, fun J F1 H1 x1 wd _ D nD => ?_⟩
  let f : PyData → Option (Option PyData) := fun x => (bindT tg (wipeE env own) x).bind fun env' => (evt c env' t).bind fun k => if k then (ev c env' a).bind fun r => (ownD a r).map some else some none
  have h2 : compL f items = some ds := h2
  let Pv : Nat → Hp → Prop := fun i Hc => ∃ Fc acc es, Ext F1 H1 Fc Hc ∧ Hc D = some (.lst acc) ∧ Fc D = none ∧ RpAll K Fc acc es ∧ compL f (items.take i) = some es ∧ es.length ≤ i
  refine ⟨fun i m Hc => m = items.length - i ∧ i ≤ items.length ∧ Pv i Hc, ⟨items.length, by simp, Nat.zero_le _, F1, [], [], Ext.lay0 x1.sub nD, upd_same, x1.sub.free nD, .nil, rfl, Nat.le_refl _⟩, ?_⟩
  rintro i m Hc ⟨rfl, hi, Fc, acc, es, xc, hD, fD, ra, hc, hes⟩
  obtain ⟨w1, w2⟩ := wd Hc Fc xc.same xc.fr xc.sub
  by_cases hlt : i < items.length
  · obtain ⟨go, yl⟩ := w2 i items[i] (by simp [hlt])
    refine .inr ⟨go, Pv (i + 1), fun H' p => ⟨items.length - (i + 1), by omega, rfl, hlt, p⟩, fun x H' y => ?_⟩
    obtain ⟨F3, x3, rp⟩ := yl x H' y
    obtain ⟨⟨o, ho⟩, _⟩ := compL_all h2 i items[i] (by simp [hlt])
    have hsn := compL_snoc ho hc
    have tk : items.take (i + 1) = items.take i ++ [items[i]] := by rw [List.take_add_one, List.getElem?_eq_getElem hlt]; rfl
    rw [← tk] at hsn
    obtain ⟨env', b1, ho⟩ := bnd (show (bindT tg (wipeE env own) items[i]).bind _ = some o from ho)
    obtain ⟨b, b2, ho⟩ := bnd ho
    refine ⟨F3, wipeE env own, items[i], env', (((ok.ext x1).ext xc).ext x3).wipe own, rp, b1, fun σ' hw ok' _ _ => ⟨by rw [hw own ht]; exact wipe_idem (fun _ h => h), F3, env', b, ok', b2, fun F4 H4 x4 => ?_⟩⟩
    have D4 : H4 D = some (.lst acc) := x4.same _ _ (x3.same _ _ hD)
    have f4 : F4 D = none := x4.out (x3.out fD hD) (x3.same _ _ hD)
    cases b with
    | false =>
      cases ho
      refine iteF ⟨F4, acc, es, xc.trans (x3.trans x4), D4, f4, ra.mono (x3.fr.trans x4.fr), ?_, by omega⟩
      rw [hsn]
      simp
    | true =>
      obtain ⟨r', b3, ho⟩ := bnd (show (ev c env' a).bind _ = some o from ho)
      obtain ⟨d, b4, rfl⟩ := mpd ho
      refine iteT ⟨F4, env', r', ok'.ext x4, b3, fun v F5 H5 x5 w5 n5 => ?_⟩
      obtain ⟨_, F6, x6, w6⟩ := own_rp b4 x5 w5 n5
      have D5 : H5 D = some (.lst acc) := x5.same _ _ D4
      have f6 : F6 D = none := x6.out f4 D4
      refine ⟨acc, D5, ?_, F6, acc ++ [v], es ++ [d], ?_, upd_same, f6, (ra.mono ((x3.fr.trans x4.fr).trans x6.fr)).append (.cons w6 .nil), ?_, ?_⟩
      · rw [ra.length]
        exact LIM_lt (by omega)
      · exact (xc.trans (x3.trans (x4.trans x6))).write nD f6
      · rw [hsn]
        rfl
      · rw [List.length_append, List.length_singleton]
        omega
  · have e : i = items.length := by omega
    subst e
    rw [List.take_length, h2] at hc
    cases hc
    exact .inl ⟨w1, k _ Fc Hc (x1.trans xc) (.own fD hD (.lst ra)) fun _ => newOl (x1.same.free nD)⟩
theorem items_cases {r : RV} {items : List PyData} (h : itemsOf r = some items) : (∃ z : Str, r = .fz (.str z) ∧ items = z.cps.toList.map fun c => .str ⟨#[c]⟩) ∨ r.seq = some items := by
  unfold itemsOf at h
  split at h
  · cases h; exact .inl ⟨_, rfl, rfl⟩
  · exact .inr h
theorem seqv2 {K : PySem.W.Frag} {F H F1 H1 : Hp} {e : Ex} {r : RV} {v : V} {ds : List PyData} (x : Ext F H F1 H1) (w : View K F1 H1 v r) (n : isVar e = false → New r v H H1) (hs : r.seq = some ds) :
    ∃ (k : Bool) (a : Addr) (vs : List V), v = .ref a ∧ Sq K k H1 a vs ∧ RpAll K F1 vs ds ∧ ((isVar e && r.isOwn) = false → ∃ F2, Ext F H F2 H1 ∧ Sq K k F2 a vs ∧ RpAll K F2 vs ds) ∧ (k = false → ∃ ds, r = .fz (.tuple ds)) := by
  cases w with
  | fz q =>
    cases q with
    | lst hF ra => cases hs; exact ⟨true, _, _, rfl, SqL.of (x.sub _ _ hF), ra, fun _ => ⟨F1, x, SqL.of hF, ra⟩, fun z => by cases z⟩
    | tup hF ra => cases hs; exact ⟨false, _, _, rfl, Same.sqT x.sub hF.sqT, ra, fun _ => ⟨F1, x, hF.sqT, ra⟩, fun _ => ⟨_, rfl⟩⟩
    | scr hF => cases hs; exact ⟨true, _, _, rfl, x.sub.seq hF, .ofInts _, fun _ => ⟨F1, x, hF, .ofInts _⟩, fun z => by cases z⟩
    | _ => simp [RV.seq] at hs
  | own f h2 q =>
    cases q <;> cases hs
    rename_i p vs ra
    refine ⟨true, _, _, rfl, SqL.of h2, ra, fun hb => ?_, fun z => by cases z⟩
    have hv : isVar e = false := by simpa [RV.isOwn] using hb
    have e2 := n hv _ rfl
    exact ⟨_, x.freeze e2 f h2, SqL.of upd_same, ra.mono (Same.upd f)⟩
theorem wd_of {K : PySem.W.Frag} {F Fg : Hp} {J : It} {n : Nat} {G : Hp → Prop} {Y : Nat → Hp → V → Hp → Prop} {items : List PyData} (W : Walk J n G Y) (hn : n = items.length) (hG : ∀ H2, Same Fg H2 → G H2)
    (hY : ∀ (i : Nat) x H2 F2 H3 d, Same F F2 → Same F2 H2 → Y i H2 x H3 → items[i]? = some d → ∃ F3, Ext F2 H2 F3 H3 ∧ Rp K F3 x d) : WalkD K F Fg J items := by
  intro H2 F2 s1 s2 s3
  subst hn
  refine ⟨W.stops H2 (hG H2 s1), fun i d hd => ?_⟩
  have hi : i < items.length := (List.getElem?_eq_some_iff.mp hd).1
  exact ⟨W.goes i H2 hi (hG H2 s1), fun x H3 y => hY i x H2 F2 H3 d s2 s3 (W.yields i H2 x H3 hi (hG H2 s1) y) hd⟩
theorem wd_list {K : PySem.W.Frag} {F Fg : Hp} {a : Addr} {vs : List V} {ds : List PyData} (g : ∀ H2, Same Fg H2 → SqL K H2 a vs) (ra : RpAll K F vs ds) : WalkD K F Fg (Itl K a) ds :=
  wd_of walk_list ra.length g fun i x H2 F2 H3 d s2 s3 y hd => by
    obtain ⟨rfl, hx⟩ := y
    obtain ⟨d', h1, h2⟩ := ra.get hx
    rw [hd] at h1
    cases h1
    exact ⟨F2, .refl s3, h2.mono s2⟩
theorem wd_tup {K : PySem.W.Frag} {F Fg : Hp} {a : Addr} {vs : List V} {ds : List PyData} (g : ∀ H2, Same Fg H2 → SqT K H2 a vs) (ra : RpAll K F vs ds) : WalkD K F Fg (Itt K a) ds :=
  wd_of walk_tup ra.length g fun i x H2 F2 H3 d s2 s3 y hd => by
    obtain ⟨rfl, hx⟩ := y
    obtain ⟨d', h1, h2⟩ := ra.get hx
    rw [hd] at h1
    cases h1
    exact ⟨F2, .refl s3, h2.mono s2⟩
theorem rp_ints {K : PySem.W.Frag} {F : Hp} : ∀ kvs : List (Int × V), RpAll K F (kvs.map fun x => V.int x.1) ((kvs.map fun x => x.1).map PyData.int)
  | [] => .nil
  | _ :: r => .cons (.int _) (rp_ints r)
theorem rp_keys {K : PySem.W.Frag} {F : Hp} : ∀ {kvs : TK}, KeysN K F kvs → RpAll K F (kvs.map fun x => V.ref x.2.1) ((kvs.map fun x => x.1).map keyT)
  | [], _ => .nil
  | p :: r, h => .cons (.tup (h p (by simp)) (RpAll.ofInts p.1)) (rp_keys fun x hx => h x (by simp [hx]))
theorem zip_fst {α β : Type} : ∀ {xs : List α} {ys : List β}, xs.length = ys.length → (xs.zip ys).map (fun p => p.1) = xs
  | [], [], _ => rfl
  | x :: xs, y :: ys, h => by rw [List.zip_cons_cons, List.map_cons, zip_fst (by simpa using h)]
theorem zip_snd {α β : Type} : ∀ {xs : List α} {ys : List β}, xs.length = ys.length → (xs.zip ys).map (fun p => p.2) = ys
  | [], [], _ => rfl
  | x :: xs, y :: ys, h => by rw [List.zip_cons_cons, List.map_cons, zip_snd (by simpa using h)]
theorem rows_dic {r : RV} {kvs : List (PyData × PyData)} (h : r.rows = some kvs) : ∃ b, r.dic = some ((.none, .bool b) :: kvs) := by
  obtain ⟨d, h1, h2⟩ := bnd h
  unfold dRows at h2
  split at h2
  · rename_i b rest e
    cases h2
    cases e
    exact ⟨b, h1⟩
  · cases h2
theorem View.dx {K : PySem.W.Frag} {F H : Hp} {v : V} {r : RV} {kvs : List (PyData × PyData)} (s : Same F H) (h : View K F H v r) (e : r.rows = some kvs) : ∃ a o ks vs, v = .ref a ∧ DxAt a o ks vs H ∧ RpAll K F ks (kvs.map fun p => p.1) ∧ RpAll K F vs (kvs.map fun p => p.2) ∧ ((r.isOwn = false → DxAt a o ks vs F) ∧ IsDX a H) := by
  obtain ⟨b, hd⟩ := rows_dic e
  cases h with
  | fz q =>
    cases q with
    | dK ha ra =>
      cases hd
      have l := ra.length
      rw [List.length_map] at l
      exact ⟨_, _, _, _, rfl, .inl ⟨_, s _ _ ha, rfl, rfl⟩, by rw [zip_fst (by simpa using l)]; exact rp_ints _, by rw [zip_snd (by simpa using l)]; exact ra, fun _ => .inl ⟨_, ha, rfl, rfl⟩, .inl ⟨_, _, s _ _ ha⟩⟩
    | dT ha kn ra =>
      cases hd
      have l := ra.length
      rw [List.length_map] at l
      exact ⟨_, _, _, _, rfl, .inr ⟨_, s _ _ ha, rfl, rfl⟩, by rw [zip_fst (by simpa using l)]; exact rp_keys kn, by rw [zip_snd (by simpa using l)]; exact ra, fun _ => .inr ⟨_, ha, rfl, rfl⟩, .inr ⟨_, _, s _ _ ha⟩⟩
    | _ => cases hd
  | own f ha q =>
    cases q with
    | dK ra =>
      cases hd
      have l := ra.length
      rw [List.length_map] at l
      exact ⟨_, _, _, _, rfl, .inl ⟨_, ha, rfl, rfl⟩, by rw [zip_fst (by simpa using l)]; exact rp_ints _, by rw [zip_snd (by simpa using l)]; exact ra, fun z => (by cases z), .inl ⟨_, _, ha⟩⟩
    | dT kn ra =>
      cases hd
      have l := ra.length
      rw [List.length_map] at l
      exact ⟨_, _, _, _, rfl, .inr ⟨_, ha, rfl, rfl⟩, by rw [zip_fst (by simpa using l)]; exact rp_keys kn, by rw [zip_snd (by simpa using l)]; exact ra, fun z => (by cases z), .inr ⟨_, _, ha⟩⟩
    | _ => cases hd
theorem dx_all {K : PySem.W.Frag} {F H F1 H1 : Hp} {e : Ex} {r : RV} {v : V} {kvs : List (PyData × PyData)} (x : Ext F H F1 H1) (w : View K F1 H1 v r) (n : isVar e = false → New r v H H1) (hs : r.rows = some kvs) :
    ∃ a o ks vs, v = .ref a ∧ DxAt a o ks vs H1 ∧ RpAll K F1 ks (kvs.map fun p => p.1) ∧ RpAll K F1 vs (kvs.map fun p => p.2) ∧
      ((isVar e && r.isOwn) = false → ∃ F2, Ext F H F2 H1 ∧ DxAt a o ks vs F2 ∧ RpAll K F2 ks (kvs.map fun p => p.1) ∧ RpAll K F2 vs (kvs.map fun p => p.2)) := by
  obtain ⟨a, o, ks, vs, e1, h1, h2, h3, h4, _⟩ := w.dx x.sub hs
  refine ⟨a, o, ks, vs, e1, h1, h2, h3, fun hb => ?_⟩
  by_cases ho : r.isOwn = true
  · have hv : isVar e = false := by
      cases hv : isVar e with
      | false => rfl
      | true => rw [hv, ho] at hb; cases hb
    cases w with
    | fz q => cases ho
    | own f ha q =>
      cases e1
      have e2 : H a = none := n hv a (by
        cases q with
        | on _ _ _ => obtain ⟨b, hd⟩ := rows_dic hs; cases hd
        | _ => exact (rfl : V.ref _ = V.ref _))
      refine ⟨_, x.freeze e2 f ha, h1.same fun u z => ?_, h2.mono (Same.upd f), h3.mono (Same.upd f)⟩
      rw [ha] at z
      rw [upd_same]
      exact z
  · exact ⟨F1, x, h4 (by simpa using ho), h2, h3⟩
theorem wd_x {K : PySem.W.Frag} {F Fg : Hp} {d : Addr} {o : Obj} {vs : List V} {ds : List PyData} (g : ∀ H2, Same Fg H2 → AtO d o H2) (ra : RpAll K F vs ds) : WalkD K F Fg (ItX d o vs) ds :=
  wd_of walk_x ra.length g fun i x H2 F2 H3 d s2 s3 y hd => by
    obtain ⟨rfl, hx⟩ := y
    obtain ⟨d', h1, h2⟩ := ra.get hx
    rw [hd] at h1
    cases h1
    exact ⟨F2, .refl s3, h2.mono s2⟩
theorem wd_str {K : PySem.W.Frag} {F Fg : Hp} (z : Str) : WalkD K F Fg (Its z) (z.cps.toList.map fun c => .str ⟨#[c]⟩) :=
  wd_of walk_str (by simp) (fun _ _ => trivial) fun i x H2 F2 H3 d s2 s3 y hd => by
    obtain ⟨rfl, c, hc, rfl⟩ := y
    rw [List.getElem?_map] at hd
    have : z.cps.toList[i]? = some c := by simpa using hc
    rw [this] at hd
    cases hd
    exact ⟨F2, .refl s3, .str _⟩
theorem range_get {n i j : Nat} (h : (List.range n)[i]? = some j) : j = i := by
  obtain ⟨hi, e⟩ := List.getElem?_eq_some_iff.mp h
  rw [List.getElem_range] at e
  exact e.symm
theorem wd_rng {K : PySem.W.Frag} {F Fg : Hp} (lo : Int) (n : Nat) : WalkD K F Fg (L2.Itr lo n) (rngD lo n) :=
  wd_of walk_range (by simp [rngD]) (fun _ _ => trivial) fun i x H2 F2 H3 d s2 s3 y hd => by
    obtain ⟨rfl, rfl⟩ := y
    unfold rngD at hd
    rw [List.getElem?_map] at hd
    obtain ⟨j, hj, rfl⟩ := mpd hd
    obtain rfl := range_get hj
    exact ⟨F2, .refl s3, .int _⟩
theorem pair_lay {K : PySem.W.Frag} {F2 H2 : Hp} {T : Addr} {ob : Obj} {x y : V} {d e : PyData} (s3 : Same F2 H2) (q : TupO ob) (n : H2 T = none) (r1 : Rp K F2 x d) (r2 : Rp K F2 y e) : ∃ F3, Ext F2 H2 F3 (upd H2 T (.frz ob (.tup [x, y]))) ∧ Rp K F3 (.ref T) (.tuple [d, e]) :=
  ⟨_, Ext.lay s3 n, .tup (TupN.of q upd_same) (RpAll.mono (Same.upd (s3.free n)) (.cons r1 (.cons r2 .nil)))⟩
theorem walk_zipQ {K : PySem.W.Frag} {k1 k2 : Bool} {a b : Addr} {xs ys : List V} : Walk (ItzQ K k1 k2 a b) (min xs.length ys.length) (fun H => Sq K k1 H a xs ∧ Sq K k2 H b ys) (YPairN (fun i => xs[i]?) (fun i => ys[i]?)) := by
  refine ⟨fun i _ hi q => ?_, fun _ q => ⟨xs, ys, q.1, q.2, by omega, by omega, by omega⟩, fun i H v H' _ q y => ?_⟩
  · have h1 : i < xs.length := by omega
    have h2 : i < ys.length := by omega
    exact ⟨xs, ys, xs[i], ys[i], q.1, q.2, by simp [h1], by simp [h2]⟩
  · obtain ⟨T, x, z, h1, h4, h5⟩ := y
    exact ⟨T, x, z, h1, h4 xs q.1, h5 ys q.2⟩
theorem wd_zip {K : PySem.W.Frag} {F Fg : Hp} {k1 k2 : Bool} {a b : Addr} {vs ws : List V} {ds es : List PyData} (g : ∀ H2, Same Fg H2 → Sq K k1 H2 a vs ∧ Sq K k2 H2 b ws) (ra : RpAll K F vs ds) (rb : RpAll K F ws es) : WalkD K F Fg (ItzQ K k1 k2 a b) (zipD ds es) :=
  wd_of walk_zipQ (by simp [zipD, ra.length, rb.length]) g fun i x H2 F2 H3 d s2 s3 y hd => by
    obtain ⟨T, x1, x2, ⟨ob, hob, rfl, n, rfl⟩, h1, h2⟩ := y
    obtain ⟨d1, q1, r1⟩ := ra.get h1
    obtain ⟨d2, q2, r2⟩ := rb.get h2
    unfold zipD at hd
    rw [List.getElem?_zipWith, q1, q2] at hd
    cases hd
    exact pair_lay s3 hob n (r1.mono s2) (r2.mono s2)
theorem enD_get : ∀ (xs : List PyData) (k i : Nat), (enD k xs)[i]? = xs[i]?.map fun x => .tuple [.int ((k + i : Nat) : Int), x]
  | [], k, i => by simp [enD]
  | x :: r, k, 0 => by simp [enD]
  | x :: r, k, i + 1 => by
    simp only [enD, List.getElem?_cons_succ]
    rw [enD_get r (k + 1) i]
    congr 1
    funext y
    rw [show k + 1 + i = k + (i + 1) by omega]
theorem enD_len : ∀ (xs : List PyData) (k : Nat), (enD k xs).length = xs.length
  | [], k => rfl
  | x :: r, k => congrArg (· + 1) (enD_len r (k + 1))
theorem walk_enumQ {K : PySem.W.Frag} {k : Bool} {a : Addr} {xs : List V} : Walk (IteQ K k a) xs.length (fun H => Sq K k H a xs) (YPairN (fun i => some (.int (i : Nat))) (fun i => xs[i]?)) := by
  refine ⟨fun i _ hi q => ⟨xs, xs[i], q, by simp [hi]⟩, fun _ q => ⟨xs, q, rfl⟩, fun i H v H' _ q y => ?_⟩
  obtain ⟨T, x, h1, h4⟩ := y
  exact ⟨T, .int (i : Nat), x, h1, rfl, h4 xs q⟩
theorem wd_enum {K : PySem.W.Frag} {F Fg : Hp} {k : Bool} {a : Addr} {vs : List V} {ds : List PyData} (g : ∀ H2, Same Fg H2 → Sq K k H2 a vs) (ra : RpAll K F vs ds) : WalkD K F Fg (IteQ K k a) (enD 0 ds) :=
  wd_of walk_enumQ (by rw [enD_len]; exact ra.length) g fun i x H2 F2 H3 d s2 s3 y hd => by
    obtain ⟨T, x1, x2, ⟨ob, hob, rfl, n, rfl⟩, h1, h2⟩ := y
    cases h1
    obtain ⟨d2, q2, r2⟩ := ra.get h2
    rw [enD_get, q2] at hd
    cases hd
    rw [Nat.zero_add]
    exact pair_lay s3 hob n (.int _) (r2.mono s2)
theorem items_eq {r : RV} {ds : List PyData} (h : itemsOf r = some ds) : r.seq = some ds ∨ ∃ z, r = .fz (.str z) ∧ ds = z.cps.toList.map fun c => .str ⟨#[c]⟩ := by
  unfold itemsOf at h
  split at h
  · cases h
    exact .inr ⟨_, rfl, rfl⟩
  · exact .inl h
theorem wd_enumT {K : PySem.W.Frag} {F Fg : Hp} (z : Str) : WalkD K F Fg (IteT z) (enD 0 (z.cps.toList.map fun c => .str ⟨#[c]⟩)) :=
  wd_of walk_enumT (by rw [enD_len, List.length_map, Array.length_toList]) (fun _ _ => trivial) fun i x H2 F2 H3 d s2 s3 y hd => by
    obtain ⟨T, x1, x2, ⟨ob, hob, rfl, n, rfl⟩, h1, h2⟩ := y
    cases h1
    have h2 : Option.map _ z.cps[i]? = some x2 := h2
    rw [enD_get, List.getElem?_map, Array.getElem?_toList] at hd
    cases e : z.cps[i]? with
    | none => rw [e] at h2; cases h2
    | some c =>
      rw [e] at h2 hd
      cases h2
      cases hd
      rw [Nat.zero_add]
      exact pair_lay s3 hob n (.int _) (.str _)
theorem Same.sq {K : PySem.W.Frag} {H H' : Hp} {k : Bool} {a : Addr} {xs : List V} (e : Same H H') (h : Sq K k H a xs) : Sq K k H' a xs := by
  cases k
  · exact Same.sqT e h
  · exact e.seq h
theorem InAll.len {K : PySem.W.Frag} {F H : Hp} : ∀ {qs : List Addr} {dss : List (List PyData)}, InAll K F H qs dss → qs.length = dss.length
  | _, _, .nil => rfl
  | _, _, .cons _ _ _ t => congrArg (· + 1) (InAll.len t)
theorem InAll.nth {K : PySem.W.Frag} {F H : Hp} : ∀ {qs : List Addr} {dss : List (List PyData)} {j : Nat} {ds : List PyData}, InAll K F H qs dss → dss[j]? = some ds → ∃ q vs, qs[j]? = some q ∧ F q = none ∧ H q = some (.lst vs) ∧ RpAll K F vs ds
  | _, _, j, ds, .nil, h => by simp at h
  | _, _, 0, ds, .cons f e ra _, h => by simp at h; subst h; exact ⟨_, _, rfl, f, e, ra⟩
  | _, _, j + 1, ds, .cons _ _ _ t, h => by
    obtain ⟨q, vs, h1, h2⟩ := InAll.nth (j := j) t (by simpa using h)
    exact ⟨q, vs, by simpa using h1, h2⟩
theorem InAll.at_ {K : PySem.W.Frag} {F H : Hp} {qs : List Addr} {dss : List (List PyData)} {n : Int} {ds : List PyData} (a : InAll K F H qs dss) (h : atI dss n = some ds) : ∃ q vs, atI (qs.map V.ref) n = some (.ref q) ∧ H q = some (.lst vs) ∧ RpAll K F vs ds := by
  unfold atI at h ⊢
  rw [List.length_map, a.len]
  obtain ⟨j, h1, h2⟩ := bnd h
  obtain ⟨q, vs, h3, h4, h5, h6⟩ := a.nth h2
  refine ⟨q, vs, ?_, h5, h6⟩
  rw [h1]
  show (qs.map V.ref)[j]? = _
  rw [List.getElem?_map, h3]
  rfl
theorem tpE_none {env : Ev} {a : Ex} {as : Exs} (hl : lndOf a = none) (h : tpE env (.cons a as) = false) : tpE env as = false := by
  unfold tpE at h
  rw [hl] at h
  exact h
theorem tpE_lnd {env : Ev} {i : Nat} {as : Exs} {t : OT} (h1 : rootAt env i = some t) (h : tpE env (.cons (.lnd i) as) = false) : t.noTp = true ∧ tpE env as = false := by
  unfold tpE at h
  rw [show lndOf (.lnd i) = some i from rfl] at h
  dsimp only at h
  rw [h1] at h
  simp only [Bool.or_eq_false_iff, Bool.not_eq_false'] at h
  exact h
theorem sndL {X : Cx} {s : Sx} {c : Cl} (C : CO X s c) {a : Ex} {as : Exs} {e : Expr} {es : List Expr} (P : PE X e (tE X.K c a)) (R2 : PA X es (tAb X.K c as)) (hc : chkE a s e = true) (st : starEach (e :: es) X.env = (false, eval e X.env) :: starEach es X.env) : PA X (e :: es) (tAb X.K c (.cons a as)) := by
  cases hl : lndOf a with
  | none =>
    refine PA.imp (pa_cons P R2 st) fun σ H Q ⟨F, env, ds, b, ok, h, k⟩ => ?_
    simp only [evb] at h
    rw [hl] at h
    obtain ⟨r, h1, h⟩ := bnd (show (ev c env a).bind _ = some (ds, b) from h)
    obtain ⟨⟨dr, b'⟩, h3, h⟩ := bnd h
    cases h
    refine ⟨F, env, r, ok, h1, fun v F1 H1 x1 w1 n1 => ?_⟩
    by_cases hb : (isVar a && r.isOwn) = true
    · refine ⟨F1, env, dr, b', ok.ext x1, h3, fun vs F3 H3 x3 w3 w4 => k (v :: vs) F3 H3 (x1.trans x3) (by
        obtain ⟨G1, s1, s2, nt, w3⟩ := w3
        obtain ⟨G2, ⟨s3, _⟩, s4, nt2, w5⟩ := (w1.ext x3).lendZ s1 s2 nt
        exact ⟨G2, s1.trans s3, s4, fun e => nt2 (tpE_none hl e), .cons w5 (w3.mono s3)⟩) fun e => ?_⟩
      rw [hb] at e
      cases e
    · have ho : ownD a r = some r.d := by unfold ownD; rw [if_neg hb]
      obtain ⟨_, F2, x2, w2⟩ := own_rp ho x1 w1 n1
      exact ⟨F2, env, dr, b', ok.ext x2, h3, fun vs F3 H3 x3 w3 w4 => k (v :: vs) F3 H3 (x2.trans x3) (by
        obtain ⟨G1, s1, s2, nt, w3⟩ := w3
        exact ⟨G1, s1, s2, fun e => nt (tpE_none hl e), .cons ((w2.mono x3.fr).mono s1) w3⟩) fun e => by
        have hb' : (isVar a && r.isOwn) = false := by simpa using hb
        rw [hb', Bool.false_or] at e
        exact .cons (w2.mono x3.fr) (w4 e)⟩
  | some i =>
    have ea : a = .lnd i := by
      unfold lndOf at hl
      split at hl
      · cases hl; rfl
      · cases hl
    subst ea
    refine PA.imp (pa_cons (chkV_ok C (show chkV s i e = true by simpa only [chkE] using hc)).1 R2 st) fun σ H Q ⟨F, env, ds, b, ok, h, k⟩ => ?_
    obtain ⟨t, h1, h⟩ := bnd (show (rootAt env i).bind (fun t => if t.noOb then (evb c env as).bind fun p => some (t.d :: p.1, true) else none) = some (ds, b) by simpa only [evb, lndOf] using h)
    obtain ⟨h2, h⟩ := itd' h
    obtain ⟨⟨dr, b'⟩, h3, h⟩ := bnd h
    cases h
    obtain ⟨pw, h4⟩ := rootAt_eq h1
    obtain ⟨v, ps, g1, g2, g3⟩ := ok.tr_.tr _ _ _ h4
    refine ⟨v, g1, F, env, dr, b', ok, h3, fun vs F3 H3 x3 w3 w4 => k (v :: vs) F3 H3 x3 ?_ fun e => by cases e⟩
    obtain ⟨G1, s1, s2, nt, w3⟩ := w3
    obtain ⟨G2, s3, s4, nt2, w5⟩ := (g2.ext x3).lendP (Z := tpE env (.cons (.lnd i) as) = false) h2 (fun e => (tpE_lnd h1 e).1) s1 s2 fun e => nt (tpE_lnd h1 e).2
    exact ⟨G2, s1.trans s3, s4, nt2, .cons w5 (w3.mono s3)⟩
mutual
theorem sndP : ∀ (a : Ex) {X : Cx} {s : Sx} {c : Cl}, CO X s c → ∀ {e : Expr}, chkE a s e = true → SndP X c a e
  | .var i, X, s, c, C, e, h => by
    unfold chkE at h
    split at h
    · refine mkP ?_ rfl
      simp only [Bool.and_eq_true, decide_eq_true_eq] at h
      obtain ⟨⟨h1, h2⟩, h3⟩ := h
      refine PE.imp (pe_var (i := i) (by rw [C.N]; exact h1) (C.vis h2) (okN1 h3).1 (okN1 h3).2) fun σ H Q ⟨F, env, r, ok, h, k⟩ => ?_
      obtain ⟨r', h4, h5⟩ := bnd (show ((env[i]?).join).bind plO = some r by simpa only [ev] using h)
      obtain ⟨rfl, h6⟩ := plO_eq h5
      have h' : env[i]? = some (some r) := by
        cases q : env[i]? with
        | none => rw [q] at h4; cases h4
        | some o => rw [q] at h4; exact congrArg some h4
      obtain ⟨v, h1, h2⟩ := ok.at_ i r h' h6
      exact ⟨v, h1, k v F H (.refl ok.sub) h2 fun z => by cases z⟩
    · cases h
  | .int i, X, s, c, C, e, h => by
    unfold chkE at h
    split at h
    · refine mkP ?_ rfl
      obtain rfl := of_decide_eq_true h
      exact PE.imp pe_int fun σ H Q ⟨F, env, r, ok, h, k⟩ => by cases h; exact k _ F H (.refl ok.sub) (.fz (.int _)) fun _ => newFz
    · cases h
  | .str i, X, s, c, C, e, h => by
    unfold chkE at h
    split at h
    · refine mkP ?_ rfl
      obtain rfl := of_decide_eq_true h
      exact PE.imp pe_str fun σ H Q ⟨F, env, r, ok, h, k⟩ => by cases h; exact k _ F H (.refl ok.sub) (.fz (.str _)) fun _ => newFz
    · cases h
  | .bl i, X, s, c, C, e, h => by
    unfold chkE at h
    split at h
    · refine mkP ?_ rfl
      obtain rfl := of_decide_eq_true h
      exact PE.imp pe_bl fun σ H Q ⟨F, env, r, ok, h, k⟩ => by cases h; exact k _ F H (.refl ok.sub) (.fz (.bl _)) fun _ => newFz
    · cases h
  | .non, X, s, c, C, e, h => by
    unfold chkE at h
    split at h
    · refine mkP ?_ rfl
      exact PE.imp pe_non fun σ H Q ⟨F, env, r, ok, h, k⟩ => by cases h; exact k _ F H (.refl ok.sub) (.fz .non) fun _ => newFz
    · cases h
  | .glb g, X, s, c, C, e, h => by unfold chkE at h; cases h
  | .bin o a b, X, s, c, C, e, h => by
    unfold chkE at h
    split at h
    · refine mkP ?_ rfl
      simp only [Bool.and_eq_true] at h
      obtain ⟨⟨h1, h2⟩, h3⟩ := h
      obtain rfl := boEq h1
      refine PE.imp (pe_op (r_bin o) (sndP a C h2).pe (sndP b C h3).pe) fun σ H Q ⟨F, env, r, ok, h, k⟩ => ?_
      exact two ok (by simpa only [ev] using h) fun v F' H' x w n => k v F' H' x w fun _ => n
    · cases h
  | .neg a, X, s, c, C, e, h => by unfold chkE at h; cases h
  | .not a, X, s, c, C, e, h => by
    unfold chkE at h
    split at h
    · have P := sndP a C h
      refine ⟨PE.imp (pe_not P.pe) fun σ H Q ⟨F, env, r, ok, h, k⟩ => ?_, PT.imp (pt_not P.pt) fun σ H Q ⟨F, env, b, ok, h, k⟩ => ?_, fun _ _ _ z => nomatch z⟩
      · obtain ⟨i, h1, rfl⟩ := mpd (show ((ev c env a).bind asBool).map (fun b => RV.fz (.bool (!b))) = some r by simpa only [ev] using h)
        obtain ⟨x, h1, h2⟩ := bnd h1
        obtain rfl := asBool_eq h2
        exact ⟨F, env, _, ok, h1, fun v F1 H1 x1 w1 _ => ⟨i, w1.bool, k _ F1 H1 x1 (.fz (.bl _)) fun _ => newFz⟩⟩
      · obtain ⟨i, h1, h2⟩ := mpd (show ((ev c env a).bind asBool).map (fun b => RV.fz (.bool (!b))) = some _ by simpa only [ev] using h)
        cases h2
        obtain ⟨x, h1, h2⟩ := bnd h1
        obtain rfl := asBool_eq h2
        exact ⟨F, env, _, ok, h1, k⟩
    · cases h
  | .one a, X, s, c, C, e, h => by
    unfold chkE at h
    split at h
    · have P := sndP a C h
      have pw : ∀ op x pos, (∃ q : PT X x (tT X.K c a), True) → PW X (.BoolOp op [x] pos) (tT X.K c (.one a)) := fun op x pos ⟨q, _⟩ => by
        have ti : ∀ σ H Q, tT X.K c (.one a) σ H Q → tT X.K c a σ H Q := fun σ H Q ⟨F, env, b, ok, h, k⟩ => tgo ok (by simpa only [ev] using h) k
        cases op
        · exact PW.imp (pw_and1 q) ti
        · exact PW.imp (pw_or1 q) ti
      refine ⟨PE.imp (pe_one P.pe) fun σ H Q ⟨F, env, r, ok, h, k⟩ => ?_, (pw _ _ _ ⟨P.pt, trivial⟩).pt, fun op vs pos z => by cases z; exact pw _ _ _ ⟨P.pt, trivial⟩⟩
      obtain ⟨r', h3, h4⟩ := bnd (show (ev c env a).bind _ = some r by simpa only [ev] using h)
      obtain ⟨d, h5, rfl⟩ := mpd h4
      exact handed ok h3 h5 fun v F2 H2 x2 w2 => k v F2 H2 x2 w2 fun _ => newFz
    · cases h
  | .and a b, X, s, c, C, e, h => by
    unfold chkE at h
    split at h
    · simp only [Bool.and_eq_true] at h
      have P := sndP a C h.1
      have R := sndP b C h.2
      have pw := PW.imp (t' := tT X.K c (.and a b)) (pw_and P.pt (R.pw _ _ _ rfl)) fun σ H Q ⟨F, env, k1, ok, h, k⟩ => by
        obtain ⟨b1, h1, h⟩ := bnd (show ((ev c env a).bind asBool).bind _ = some _ by simpa only [ev] using h)
        obtain ⟨x, h1, h2⟩ := bnd h1
        obtain rfl := asBool_eq h2
        refine ⟨F, env, b1, ok, h1, fun F1 H1 x1 => ?_⟩
        cases b1 with
        | false => cases h; exact iteF (k F1 H1 x1)
        | true => exact iteT (tgo (ok.ext x1) h fun F2 H2 x2 => k F2 H2 (x1.trans x2))
      refine ⟨PE.imp (pe_and P.pe R.pe) fun σ H Q ⟨F, env, r, ok, h, k⟩ => ?_, pw.pt, fun op vs pos z => by cases z; exact pw⟩
      obtain ⟨b1, h1, h⟩ := bnd (show ((ev c env a).bind asBool).bind _ = some r by simpa only [ev] using h)
      obtain ⟨x, h1, h2⟩ := bnd h1
      obtain rfl := asBool_eq h2
      refine ⟨F, env, _, ok, h1, fun v F1 H1 x1 w1 _ => ⟨b1, w1.bool, ?_⟩⟩
      cases b1 with
      | false =>
        cases h
        exact iteF (k _ F1 H1 x1 (.fz (.bl _)) fun _ => newFz)
      | true =>
        obtain ⟨r', h3, h4⟩ := bnd (show (ev c env b).bind _ = some r from h)
        obtain ⟨d, h5, rfl⟩ := mpd h4
        exact iteT (handed (ok.ext x1) h3 h5 fun v F2 H2 x2 w2 => k v F2 H2 (x1.trans x2) w2 fun _ => newFz)
    · cases h
  | .or a b, X, s, c, C, e, h => by
    unfold chkE at h
    split at h
    · simp only [Bool.and_eq_true] at h
      have P := sndP a C h.1
      have R := sndP b C h.2
      have pw := PW.imp (t' := tT X.K c (.or a b)) (pw_or P.pt (R.pw _ _ _ rfl)) fun σ H Q ⟨F, env, k1, ok, h, k⟩ => by
        obtain ⟨b1, h1, h⟩ := bnd (show ((ev c env a).bind asBool).bind _ = some _ by simpa only [ev] using h)
        obtain ⟨x, h1, h2⟩ := bnd h1
        obtain rfl := asBool_eq h2
        refine ⟨F, env, b1, ok, h1, fun F1 H1 x1 => ?_⟩
        cases b1 with
        | true => cases h; exact iteT (k F1 H1 x1)
        | false => exact iteF (tgo (ok.ext x1) h fun F2 H2 x2 => k F2 H2 (x1.trans x2))
      refine ⟨PE.imp (pe_or P.pe R.pe) fun σ H Q ⟨F, env, r, ok, h, k⟩ => ?_, pw.pt, fun op vs pos z => by cases z; exact pw⟩
      obtain ⟨b1, h1, h⟩ := bnd (show ((ev c env a).bind asBool).bind _ = some r by simpa only [ev] using h)
      obtain ⟨x, h1, h2⟩ := bnd h1
      obtain rfl := asBool_eq h2
      refine ⟨F, env, _, ok, h1, fun v F1 H1 x1 w1 _ => ⟨b1, w1.bool, ?_⟩⟩
      cases b1 with
      | true =>
        cases h
        exact iteT (k _ F1 H1 x1 (.fz (.bl _)) fun _ => newFz)
      | false =>
        obtain ⟨r', h3, h4⟩ := bnd (show (ev c env b).bind _ = some r from h)
        obtain ⟨d, h5, rfl⟩ := mpd h4
        exact iteF (handed (ok.ext x1) h3 h5 fun v F2 H2 x2 w2 => k v F2 H2 (x1.trans x2) w2 fun _ => newFz)
    · cases h
  | .cmp o a b, X, s, c, C, e, h => by
    unfold chkE at h
    split at h
    · simp only [Bool.and_eq_true, Bool.not_eq_true'] at h
      obtain ⟨⟨⟨h1, h2⟩, h3⟩, h4⟩ := h
      obtain rfl := cmpIs h1
      have hr := r_cmp (X := X) (by have := C.un; omega) o
      have P := (sndP a C h2).pe
      have R := (sndP b C h3).pe
      refine ⟨PE.imp (pe_cmpR hr P R h4) fun σ H Q ⟨F, env, r, ok, h, k⟩ => ?_, PT.imp (pt_cmpR hr P R h4) fun σ H Q ⟨F, env, b, ok, h, k⟩ => ?_, fun _ _ _ z => nomatch z⟩
      · exact cmps ok (by simpa only [ev] using h) fun v F' H' x w n => k v F' H' x w fun _ => n
      · exact cmps ok (by simpa only [ev] using h) fun v F' H' x w n => ⟨b, w.bool, k F' H' x⟩
    · cases h
  | .chn o o' a b d, X, s, c, C, e, h => by unfold chkE at h; cases h
  | .chn3 o o' o2 a b d d2, X, s, c, C, e, h => by unfold chkE at h; cases h
  | .dsx kvs q, X, s, c, C, e, h => by unfold chkE at h; cases h
  | .dsv k1 k2 a b q, X, s, c, C, e, h => by unfold chkE at h; cases h
  | .isx a D, X, s, c, C, e, h => by unfold chkE at h; cases h
  | .fld a f, X, s, c, C, e, h => by unfold chkE at h; cases h
  | .mkx C1 a, X, s, c, C, e, h => by unfold chkE at h; cases h
  | .gdx g q, X, s, c, C, e, h => by unfold chkE at h; cases h
  | .gin g q neg, X, s, c, C, e, h => by unfold chkE at h; cases h
  | .pth p, X, s, c, C, e, h => by
    have h : chkP p s e = true := by simpa only [chkE] using h
    refine mkP (PE.imp (sndPth p C h) fun σ H Q ⟨F, env, r, ok, h, k⟩ => ?_) (plainT_P h)
    obtain ⟨q, h1, h⟩ := bnd (show (evP c env p).bind _ = some r by simpa only [ev] using h)
    obtain ⟨t, h2, h3⟩ := bnd h
    refine ⟨F, env, q, ok, h1, fun v F1 H1 x1 pl => ?_⟩
    obtain ⟨ps, tr, _⟩ := (ok.ext x1).place h2 pl
    exact k v F1 H1 x1 (tr.view h3) fun z => by cases z
  | .lnd i, X, s, c, C, e, h => by
    unfold chkE at h
    exact mkP (PE.imp (chkV_ok C h).1 fun σ H Q ⟨F, env, r, ok, h, k⟩ => by cases (show (none : Option RV) = some r by simpa only [ev] using h)) (by
      unfold chkV at h
      split at h
      · rfl
      · cases h)
  | .lenP p, X, s, c, C, e, h => by unfold chkE at h; cases h
  | .lenD i, X, s, c, C, e, h => by unfold chkE at h; cases h
  | .lenI i q, X, s, c, C, e, h => by unfold chkE at h; cases h
  | .rvt a, X, s, c, C, e, h => by unfold chkE at h; cases h
  | .jrv a b, X, s, c, C, e, h => by unfold chkE at h; cases h
  | .rvl a, X, s, c, C, e, h => by unfold chkE at h; cases h
  | .sls a lo stp, X, s, c, C, e, h => by unfold chkE at h; cases h
  | .ite t a b, X, s, c, C, e, h => by unfold chkE at h; cases h
  | .tup es, X, s, c, C, e, h => by
    unfold chkE at h
    split at h
    · refine mkP ?_ rfl
      refine PE.imp (pe_tupN (sndEs es C h).1) fun σ H Q ⟨F, env, r, ok, h, k⟩ => ?_
      obtain ⟨ds, h1, h2⟩ := bnd (show (evs c env es).bind _ = some r by simpa only [ev] using h)
      obtain ⟨hl, rfl⟩ := itd h2
      refine ⟨F, env, ds, ok, h1, fun vs F1 H1 x1 w1 => ⟨by rw [w1.length]; exact LIM_ok hl, fun p ob hob n => ?_⟩⟩
      obtain ⟨x2, w2⟩ := viewTup (K := X.K) x1.sub hob n w1
      exact k _ _ _ (x1.trans x2) w2 fun _ => newFz
    · cases h
  | .lst es, X, s, c, C, e, h => by
    unfold chkE at h
    split at h
    · refine mkP ?_ rfl
      refine PE.imp (pe_lst (sndEs es C h).1) fun σ H Q ⟨F, env, r, ok, h, k⟩ => ?_
      obtain ⟨ds, h1, h2⟩ := bnd (show (evs c env es).bind _ = some r by simpa only [ev] using h)
      obtain ⟨hl, rfl⟩ := itd h2
      refine ⟨F, env, ds, ok, h1, fun vs F1 H1 x1 w1 => ⟨by rw [w1.length]; exact LIM_ok hl, fun p n => ?_⟩⟩
      obtain ⟨x2, w2⟩ := viewNew (K := X.K) x1.sub n w1
      exact k _ _ _ (x1.trans x2) w2 fun _ => newOl (x1.same.free n)
    · cases h
  | .call f es, X, s, c, C, e, h => by
    unfold chkE at h
    split at h
    · refine mkP ?_ rfl
      simp only [Bool.and_eq_true, decide_eq_true_eq] at h
      obtain ⟨⟨⟨h1, h2⟩, h3⟩, h4⟩ := h
      exact pe_callS C h1 h2 h3 (chks_plain h4) (sndEs es C h4).2.1 fun e => by subst e; exact chks_nil h4
    · cases h
  | .bi b es, X, s, c, C, e, h => by
    unfold chkE at h
    split at h
    · refine mkP ?_ rfl
      simp only [Bool.and_eq_true, decide_eq_true_eq] at h
      obtain ⟨⟨h1, h2⟩, h3⟩ := h
      cases hb : isIsI b with
      | true =>
        rw [hb, if_pos rfl] at h3
        cases b with
        | isI t =>
          split at h3
          · simp only [Bool.and_eq_true, decide_eq_true_eq] at h3
            obtain ⟨⟨h4, h5⟩, h6⟩ := h3
            obtain ⟨g1, g2⟩ := C.gl h1 h2 (bi_mem (.isI t))
            obtain ⟨g3, g4⟩ := C.gl h4 h5 (ty_mem t)
            subst h1 h4
            obtain ⟨m1, m2⟩ := biN_ok (.isI t)
            obtain ⟨m3, m4⟩ := tyS_ok t
            cases es with
            | nil => simp [chkEs] at h6
            | cons a es =>
              simp only [chkEs, Bool.and_eq_true] at h6
              cases es with
              | cons _ _ => simp [chkEs] at h6
              | nil =>
                refine PE.imp (pe_callB (r_isI t) g1 g2 (by show bootBuiltins "isinstance" = _; decide +kernel) (pa_cons (sndP a C h6.1).pe (pa_cons (pe_bltn g3 g4 (ty_boot t) (v := .ty (tyN t)) rfl m3 m4) pa_nil (by rfl)) (star_of (chk_plain h6.1) _ _)) m1 m2 (star_of (chk_plain h6.1) _ _) (by rfl)) fun σ H Q ⟨F, env, r, ok, h, k⟩ => ?_
                obtain ⟨rs, h1, h2⟩ := bnd (show (evr c env (.cons a .nil)).bind _ = some r by simpa only [ev] using h)
                simp only [evr] at h1
                obtain ⟨x, h3, h4⟩ := bnd h1
                cases h4
                obtain ⟨h5, rfl⟩ := itd (show (if notScr x.d = true then some (RV.fz (.bool (isD t x.d))) else none) = some r from h2)
                exact ⟨F, env, x, ok, h3, fun v F1 H1 x1 w1 _ => ⟨v, x.d, rfl, w1.rp x1.sub, h5, k _ F1 H1 x1 (.fz (.bl _)) fun _ => newFz⟩⟩
          · cases h3
        | _ => cases hb
      | false =>
        rw [hb, if_neg Bool.false_ne_true] at h3
        simp only [Bool.and_eq_true, Bool.not_eq_true'] at h3
        obtain ⟨h3, h4⟩ := h3
        obtain ⟨g1, g2⟩ := C.gl h1 h2 (bi_mem b)
        subst h1
        obtain ⟨m1, m2⟩ := biN_ok b
        rename_i xs _
        cases xs with
        | nil => cases h3
        | cons y ys =>
          have ha := (sndEs es C h4).2.2
          have hp := chks_plain h4
          have st := star_of (hp y (by simp)) ys X.env
          have hr := r_bi (X := X) C.calm b hb
          have fin : ∀ σ H Q, tE X.K c (.bi b es) σ H Q → tCB (rnS X.K (biD b)) (tA X.K c es) σ H Q := fun σ H Q ⟨F, env, r, ok, h, k⟩ => by
            obtain ⟨rs, h1, h2⟩ := bnd (show (evr c env es).bind _ = some r by simpa only [ev] using h)
            exact ⟨F, env, rs, ok, h1, fun vs F1 H1 x1 w1 => ⟨F1, rs, r, x1.sub, w1, h2, fun v F2 H2 x2 w2 n => k v F2 H2 (x1.trans x2) w2 fun _ => new_back x1.same n⟩⟩
          rcases biB b hb with ⟨id, e1, e2⟩ | ⟨T, e1, e2⟩
          · rw [e1] at hr
            exact PE.imp (pe_callB hr g1 g2 e2 ha m1 m2 st (plain_any fun x hx => hp x (List.mem_cons_of_mem _ hx))) fin
          · rw [e1] at hr
            exact PE.imp (pe_callTy hr g1 g2 e2 ha m1 m2 st (plain_any fun x hx => hp x (List.mem_cons_of_mem _ hx))) fin
    · cases h
  | .mt m a es, X, s, c, C, e, h => by unfold chkE at h; cases h
  | .idx a i, X, s, c, C, e, h => by
    unfold chkE at h
    split at h
    · refine mkP ?_ rfl
      simp only [Bool.and_eq_true] at h
      have un := C.un
      refine PE.imp (pe_ix (r_ix (by omega)) (sndP a C h.1).pe (sndP i C h.2).pe (ix_of (chk_plain h.2))) fun σ H Q ⟨F, env, r, ok, h, k⟩ => ?_
      exact two ok (by simpa only [ev] using h) fun v F' H' x w n => k v F' H' x w fun _ => n
    · cases h
  | .slc a lo hi, X, s, c, C, e, h => by
    unfold chkE at h
    split at h
    · refine mkP ?_ rfl
      simp only [Bool.and_eq_true] at h
      obtain ⟨⟨h1, h2⟩, h3⟩ := h
      refine PE.imp (pe_slice r_sl (sndP a C h1).pe (sndO lo C h2) (sndO hi C h3)) fun σ H Q ⟨F, env, r, ok, h, k⟩ => ?_
      obtain ⟨x, h4, h⟩ := bnd (show (ev c env a).bind _ = some r by simpa only [ev] using h)
      obtain ⟨l, h5, h⟩ := bnd h
      obtain ⟨u, h6, h⟩ := bnd h
      exact ⟨F, env, x, ok, h4, fun v F1 H1 x1 w1 _ => ⟨F1, env, l, ok.ext x1, h5, fun F2 H2 x2 => ⟨F2, env, u, (ok.ext x1).ext x2, h6, fun F3 H3 x3 =>
        ⟨F3, x, r, x3.sub, (w1.ext x2).ext x3, h, fun v F4 H4 x4 w4 n => k v F4 H4 (x1.trans (x2.trans (x3.trans x4))) w4 fun _ => new_back (x1.trans (x2.trans x3)).same n⟩⟩⟩⟩
    · cases h
  | .emp, X, s, c, C, e, h => by unfold chkE at h; cases h
  | .dnK, X, s, c, C, e, h => by unfold chkE at h; cases h
  | .dnT, X, s, c, C, e, h => by unfold chkE at h; cases h
  | .isj a D, X, s, c, C, e, h => by
    unfold chkE at h
    split at h
    · refine mkP ?_ rfl
      simp only [Bool.and_eq_true, decide_eq_true_eq] at h
      obtain ⟨⟨⟨⟨⟨h1, h2⟩, h3⟩, h4⟩, h5⟩, h6⟩ := h
      obtain ⟨g1, g2⟩ := C.gl h1 h2 (bi_mem (.isI .int))
      subst h1 h3
      rename_i D _ _
      have st := star_of (chk_plain h6)
      have bt : bootBuiltins "isinstance" = some (.builtin "isinstance") := by decide +kernel
      have m12 := biN_ok (.isI .int)
      by_cases hx : ∃ nm b, c.jas.lookup (nm, D) = some b
      · obtain ⟨nm0, b0, hb0⟩ := hx
        obtain ⟨E, d1, _⟩ := C.ja _ _ _ hb0
        refine PE.imp (pe_callB call_isj g1 g2 bt (pa_cons (sndP a C h6).pe (pa_cons (pe_glob (C.glo h4) d1 (v := .ref E) rfl (okN1 h5).1) pa_nil (by rfl)) (st _ _)) m12.1 m12.2 (st _ _) (by rfl)) fun σ H Q ⟨F, env, r, ok, h, k⟩ => ?_
        obtain ⟨r0, e1, h⟩ := bnd (show (ev c env a).bind _ = some r by simpa only [ev] using h)
        obtain ⟨nm, e2, h⟩ := bnd h
        obtain ⟨b, e3, rfl⟩ := mpd h
        refine ⟨F, env, r0, ok, e1, fun v F1 H1 x1 w1 _ => ?_⟩
        obtain ⟨fs, ds, rfl⟩ := inm_eq e2
        cases w1 with
        | own _ _ q => cases q
        | fz rp =>
          obtain ⟨a1, C1, dx, fvs, rfl, q1, q2, q3, q4, q5⟩ := rp.insE
          obtain ⟨E', d2, d3⟩ := C.ja _ _ _ e3
          rw [d1] at d2
          cases d2
          exact ⟨a1, C1, dx, fvs, E, b, rfl, x1.sub _ _ q1, d3 C1 q3, k _ F1 H1 x1 (.fz (.bl _)) fun _ => newFz⟩
      · refine ⟨fun pins s' σ H Q I ⟨F, env, r, ok, h, k⟩ => ?_⟩
        obtain ⟨r0, e1, h⟩ := bnd (show (ev c env a).bind _ = some r by simpa only [ev] using h)
        obtain ⟨nm, e2, h⟩ := bnd h
        obtain ⟨b, e3, _⟩ := mpd h
        exact absurd ⟨nm, b, e3⟩ hx
    · cases h
  | .fjd a f, X, s, c, C, e, h => by
    unfold chkE at h
    split at h
    · refine mkP ?_ rfl
      simp only [Bool.and_eq_true, decide_eq_true_eq] at h
      obtain ⟨⟨h1, h2⟩, h3⟩ := h
      subst h1
      refine PE.imp (L2.pe_fld (sndP a C h3).pe (base_of h2 _ _ _)) fun σ H Q ⟨F, env, r, ok, h, k⟩ => ?_
      obtain ⟨r0, e1, h⟩ := bnd (show (ev c env a).bind _ = some r by simpa only [ev] using h)
      obtain ⟨nm, e2, h⟩ := bnd h
      obtain ⟨e3, h⟩ := itd' h
      obtain ⟨d, e4, rfl⟩ := mpd h
      refine ⟨F, env, r0, ok, e1, fun v F1 H1 x1 w1 _ => ?_⟩
      obtain ⟨fs, ds, rfl⟩ := inm_eq e2
      cases w1 with
      | own _ _ q => cases q
      | fz rp =>
        obtain ⟨a1, C1, dx, fvs, rfl, q1, q2, q3, q4, q5⟩ := rp.insE
        subst q4
        obtain ⟨y, y1, y2⟩ := lkF_at q5 e4
        obtain ⟨cl, na⟩ := C.ofs _ _ (List.contains_iff_mem.mp e3) C1 q3
        exact ⟨a1, C1, dx, fvs, y, rfl, x1.sub _ _ q1, cl, na, y1, k _ F1 H1 x1 (.fz y2) fun _ => newFz⟩
    · cases h
  | .mtj a m es, X, s, c, C, e, h => by
    unfold chkE at h
    split at h
    · refine mkP ?_ rfl
      simp only [Bool.and_eq_true, decide_eq_true_eq] at h
      obtain ⟨⟨⟨⟨⟨h1, h2⟩, h3⟩, h4⟩, h5⟩, h6⟩ := h
      subst h1
      refine PE.imp (pe_mthI (sndP a C h5).pe h4 h2 h3 (chks_plain h6) (sndEs es C h6).1 fun e σ H Q ⟨F, env, ds, ok, h, k⟩ => ?_) fun σ H Q ⟨F, env, r, ok, h, k⟩ => ?_
      · subst e
        obtain rfl := chks_nil h6
        cases h
        exact k [] F H (.refl ok.sub) .nil
      obtain ⟨r0, e1, h⟩ := bnd (show (ev c env a).bind _ = some r by simpa only [ev] using h)
      obtain ⟨nm, e2, h⟩ := bnd h
      obtain ⟨ds, e3, h⟩ := bnd h
      obtain ⟨e4, h⟩ := itd' h
      obtain ⟨sm, e5, h⟩ := bnd h
      refine ⟨F, env, r0, ok, e1, fun v F1 H1 x1 w1 _ => ?_⟩
      obtain ⟨fs, gs, rfl⟩ := inm_eq e2
      cases w1 with
      | own _ _ q => cases q
      | fz rp =>
        obtain ⟨a1, C1, dx, fvs, rfl, q1, q2, q3, q4, q5⟩ := rp.insE
        subst q4
        obtain ⟨CX, kk, g, fd, ps, np, hr, hk, hb, hcl, hnp, hF, hx⟩ := (C.im _ _ _ e5).ex
        obtain ⟨cl, mt⟩ := hcl C1 q3
        refine ⟨a1, C1, dx, fvs, g, rfl, x1.sub _ _ q1, cl, mt, noF_at e4, CX, kk, fd, ps, _, hr, hb, hF, hx, F1, env, ds, ok.ext x1, e3, fun vs F2 H2 x2 w2 => ?_⟩
        exact ⟨F2, _ :: ds, r, x2.sub, .cons (rp.mono x2.fr) w2, hnp _ _ h, h, fun v F3 H3 x3 w3 n => k v F3 H3 (x1.trans (x2.trans x3)) w3 fun _ => new_back (x1.trans x2).same n⟩
    · cases h
  | .mkj f es, X, s, c, C, e, h => by
    unfold chkE at h
    split at h
    · refine mkP ?_ rfl
      simp only [Bool.and_eq_true, decide_eq_true_eq] at h
      obtain ⟨⟨⟨h3, h4⟩, h5⟩, h6⟩ := h
      rename_i y py xs pc
      obtain ⟨ht, np, hnp, ⟨k0, C0, fa, fd, ps, hr, hm, hC, M, hb, F⟩⟩ := C.mkc f y h3
      have hx : Passes (L2.CX X.prog X.w) X (fun _ _ _ => False) := fun pins σ H s e s' I c => passAt (X := X) (W := fun _ _ _ _ => False) (fun _ _ ⟨_, _, _, _, _, _, _, _, _, _, _, _, _, _, _, _, h⟩ => h.elim) σ pins H s e s' I c
      have key : ∀ (t : TA), (∀ σ H Q, tAs X.K c es σ H Q → t σ H Q) → ∀ σ H Q, tE X.K c (.mkj f es) σ H Q → tMake C0 (spT X.K 0 np (fitC (some (y, ("__init__" : Str)))) (c.callt f)) [] (fun _ _ _ => False) t σ H Q := fun t ht' σ H Q ⟨Fh, env, r, ok, h, k⟩ => by
        obtain ⟨ds, g1, h⟩ := bnd (show (evs c env es).bind _ = some r by simpa only [ev] using h)
        obtain ⟨nm, g2, h⟩ := bnd h
        rw [ht] at g2
        cases g2
        obtain ⟨z, g3, h⟩ := bnd h
        obtain ⟨nm2, fs2, ts2, ds2, rfl, l2, rfl⟩ := mkjD_eq h
        refine ht' σ H _ ⟨Fh, env, ds, ok, g1, fun vs F1 H1 x1 w1 => fun a dx na' nd' ne => ?_⟩
        rw [List.append_nil]
        have fa1 := x1.sub.free na'
        have fd1 := x1.sub.free nd'
        have e2 : ∀ b o, F1 b = some o → (L2.upd (L2.upd H1 dx (.own a)) a (.ins C0 dx [])) b = some o := fun b o hb => by
          rw [upd_ne (ne_of_none hb fa1), upd_ne (ne_of_none hb fd1)]
          exact x1.sub _ _ hb
        have er : restT (L2.upd (L2.upd H1 dx (.own a)) a (.ins C0 dx [])) [a, dx] = H1 := by
          funext b
          by_cases hb : b ∈ [a, dx]
          · unfold restT
            rw [if_pos hb]
            simp only [List.mem_cons, List.not_mem_nil, or_false] at hb
            rcases hb with rfl | rfl
            · exact na'.symm
            · exact nd'.symm
          · unfold restT
            rw [if_neg hb]
            simp only [List.mem_cons, List.not_mem_nil, or_false, not_or] at hb
            rw [upd_ne hb.1, upd_ne hb.2]
        have fre : ∀ b, (b ∈ [a, dx] ∨ (L2.upd (L2.upd H1 dx (.own a)) a (.ins C0 dx [])) b = none) → H1 b = none := fun b z => by
          rw [← er]
          unfold restT
          rcases z with z | z
          · rw [if_pos z]
          · split
            · rfl
            · exact z
        refine ⟨F1, .ref a, .nd (.ob y []) [], [a, dx], [], [], [], vs, ds, .fz .none, _, rfl, rfl, e2, ?_, ?_, rfl, ?_, fun n w hw => by simp at hw, w1, hnp _ _ _ _ g3, g3, fun rv F2 H2 qs yx w tu nq hq hp ft => ?_, fun d e => by cases e⟩
        · exact .ob (fvs := []) fa1 fd1 upd_same (by rw [upd_ne ne]; exact upd_same) hC .nil
        · simp only [List.nodup_cons, List.mem_singleton, List.not_mem_nil, not_false_eq_true, List.nodup_nil, and_true]
          exact fun e => ne e.symm
        · show (decide (y = y) && !([] : List Str).contains "__init__") = true
          simp
        · rw [er] at yx
          refine ⟨by cases w.rpF; rfl, ?_⟩
          cases tu with
          | @ob p C' dx' nm fvs ts ps f1 f2 h1 h2 cA tt =>
            obtain ⟨rfl, rp⟩ := lfsD_at tt l2
            have n1 : H1 a = none := fre a (hq a (by simp))
            have n2 : H1 dx' = none := fre dx' (hq dx' (by simp))
            have ne2 : dx' ≠ a := fun e => by rw [e, h1] at h2; cases h2
            have y1 := yx.freeze n1 f1 h1
            have y2 := y1.freeze n2 (by rw [upd_ne ne2]; exact f2) h2
            refine k _ _ H2 (x1.trans y2) (.fz (Rp.ins (by rw [upd_ne (Ne.symm ne2)]; exact upd_same) upd_same cA (rp.mono (Same.trans (Same.upd f1) (Same.upd (by rw [upd_ne ne2]; exact f2)))))) fun _ => newFz
      cases xs with
      | nil =>
        have : es = .nil := chks_nil h6
        subst this
        exact PE.imp (pe_make0 (dvs := []) (ds := []) (E := fun _ _ _ => False) M F hr (C.glo h4) hm hb .nil hx (okN1 h5).1) (key tNil fun σ H Q ⟨F, env, ds, ok, g, k⟩ => by
          cases g
          exact k [] F H (.refl ok.sub) .nil)
      | cons e xs =>
        have hp := chks_plain h6
        exact PE.imp (pe_make (dvs := []) (ds := []) (E := fun _ _ _ => False) M F hr (C.glo h4) hm hb .nil hx (sndEs es C h6).1 (okN1 h5).1 (star_of (hp e (by simp)) xs _) (plain_any fun x hx => hp x (List.mem_cons_of_mem _ hx))) (key _ fun σ H Q h => h)
    · cases h
  | .dT1 q v, X, s, c, C, e, h => by
    unfold chkE at h
    split at h
    · refine mkP ?_ rfl
      simp only [Bool.and_eq_true] at h
      have un := C.un
      refine PE.imp (pe_dT1 (by omega) (sndP q C h.1).pe (sndP v C h.2).pe) fun σ H Q ⟨F, env, r, ok, h, k⟩ p o n => ?_
      obtain ⟨x, e1, h⟩ := bnd (show (ev c env q).bind _ = some r by simpa only [ev] using h)
      obtain ⟨kd, e2, h⟩ := bnd h
      obtain ⟨y, e3, h⟩ := bnd h
      obtain ⟨d, e4, h⟩ := bnd h
      have x0 : Ext F H F (upd H p (dtO p o [])) := Ext.lay0 ok.sub n
      have ok1 := ok.ext x0
      refine handed ok1 e1 e2 fun v1 F1 H1 x1 w1 => handed (ok1.ext x1) e3 e4 fun v2 F2 H2 x2 w2 => ?_
      obtain ⟨ks, rfl, rfl⟩ := dT1D_eq h
      cases w1 with
      | own _ _ q => cases q
      | fz rp =>
        cases w2 with
        | own _ _ q => cases q
        | fz rp2 =>
          cases rp with
          | @tup b _ _ ta rt =>
            obtain rfl := rt.ints
            have x3 := x1.trans x2
            have f2 : F2 p = none := x3.away (ok.sub.free n) upd_same
            refine ⟨x3.same _ _ upd_same, b, ks, rfl, Same.tupN x2.sub (Same.tupN x2.fr ta), fun o' => ?_⟩
            refine k _ F2 _ ⟨x3.fr, fun c oo hc => ?_, fun c oo hc => ?_, fun c oo hc => ?_⟩ (.own f2 upd_same (.dT (kvs := [(ks, b, v2)]) (fun z hz => ?_) (.cons rp2 .nil))) fun _ c hc => ?_
            · rw [upd_ne (ne_of_none hc f2)]; exact x3.sub _ _ hc
            · rw [upd_ne (ne_of_none hc n)]; exact x3.same _ _ (by rw [upd_ne (ne_of_none hc n)]; exact hc)
            · rcases x3.new c oo hc with z | z
              · exact .inl z
              · exact .inr (by
                  rw [upd_ne (fun e => by subst e; rw [upd_same] at z; cases z)] at z
                  exact z)
            · simp only [List.mem_singleton] at hz
              subst hz
              exact Same.tupN x2.fr ta
            · cases (show V.ref p = V.ref c from hc); exact n
    · cases h
  | .sumv a, X, s, c, C, e, h => by unfold chkE at h; cases h
  | .dzp a b, X, s, c, C, e, h => by unfold chkE at h; cases h
  | .comp a tg it t own, X, s, c, C, e, h => by
    unfold chkE at h
    split at h
    · refine mkP ?_ rfl
      simp only [Bool.and_eq_true, decide_eq_true_eq] at h
      obtain ⟨⟨⟨⟨⟨⟨h0, h1⟩, h2⟩, h3⟩, h4⟩, h5⟩, h6⟩ := h
      subst h0
      refine PE.imp (pe_lc (g := gS X.K tg) (tt := tTs X.K c t) (te := tE X.K c a) C.calm C.nd (sndI it C h3) (blkOk_by (own := ownN s own) (by rw [C.N, C.sc]; exact h1)) (fun s1 H A cl fp => pg_tg C.blk h4) (fun s1 H A cl fp => sndTs t C.blk h6) (fun s1 H A cl fp => (sndP a C.blk h5).pe) (set_of (chkI_plain h3) _)) fun σ H Q h => ?_
      rw [ownN_map]
      exact comp_ok h2 h
    · cases h
theorem sndO : ∀ (a : Ex) {X : Cx} {s : Sx} {c : Cl}, CO X s c → ∀ {e : Option Expr}, chkO a s e = true → PO X e (tO X.K c a)
  | .emp, X, s, c, C, e, h => by
    unfold chkO at h
    split at h
    · exact ⟨fun pins s' σ H Q I ⟨F, env, o, ok, h, k⟩ => by
        cases h
        exact po_none.run pins s' σ H Q I (k F H (.refl ok.sub))⟩
    · cases h
  | .one a, X, s, c, C, e, h => by
    unfold chkO at h
    split at h
    · have q := po_some (sndP a C h).pe
      exact ⟨fun pins s' σ H Q I ⟨F, env, o, ok, h, k⟩ => by
        obtain ⟨i, h1, rfl⟩ := mpd h
        obtain ⟨r, h1, h2⟩ := bnd h1
        obtain rfl := asInt_eq h2
        exact q.run pins s' σ H Q I ⟨F, env, _, ok, h1, fun v F1 H1 x1 w1 _ => ⟨i, w1.int, k F1 H1 x1⟩⟩⟩
    · cases h
  | .var _, _, _, _, _, _, h | .int _, _, _, _, _, _, h | .str _, _, _, _, _, _, h | .bl _, _, _, _, _, _, h | .non, _, _, _, _, _, h | .glb _, _, _, _, _, _, h | .bin _ _ _, _, _, _, _, _, h | .neg _, _, _, _, _, _, h | .not _, _, _, _, _, _, h
  | .and _ _, _, _, _, _, _, h | .or _ _, _, _, _, _, _, h | .cmp _ _ _, _, _, _, _, _, h | .chn _ _ _ _ _, _, _, _, _, _, h | .chn3 _ _ _ _ _ _ _, _, _, _, _, _, h | .dsx _ _, _, _, _, _, _, h | .dsv _ _ _ _ _, _, _, _, _, _, h | .isx _ _, _, _, _, _, _, h | .fld _ _, _, _, _, _, _, h | .mkx _ _, _, _, _, _, _, h | .gdx _ _, _, _, _, _, _, h | .gin _ _ _, _, _, _, _, _, h | .lenD _, _, _, _, _, _, h | .lenI _ _, _, _, _, _, _, h | .rvt _, _, _, _, _, _, h | .jrv _ _, _, _, _, _, _, h | .rvl _, _, _, _, _, _, h | .sls _ _ _, _, _, _, _, _, h | .ite _ _ _, _, _, _, _, _, h | .tup _, _, _, _, _, _, h | .lst _, _, _, _, _, _, h | .call _ _, _, _, _, _, _, h
  | .bi _ _, _, _, _, _, _, h | .mt _ _ _, _, _, _, _, _, h | .idx _ _, _, _, _, _, _, h | .slc _ _ _, _, _, _, _, _, h | .comp _ _ _ _ _, _, _, _, _, _, h | .dnK, _, _, _, _, _, h | .dnT, _, _, _, _, _, h | .pth _, _, _, _, _, _, h | .lenP _, _, _, _, _, _, h | .lnd _, _, _, _, _, _, h | .sumv _, _, _, _, _, _, h | .dzp _ _, _, _, _, _, _, h | .isj _ _, _, _, _, _, _, h | .fjd _ _, _, _, _, _, _, h | .mtj _ _ _, _, _, _, _, _, h | .mkj _ _, _, _, _, _, _, h | .dT1 _ _, _, _, _, _, _, h => by unfold chkO at h; cases h
theorem sndTs : ∀ (a : Ex) {X : Cx} {s : Sx} {c : Cl}, CO X s c → ∀ {e : List Expr}, chkT a s e = true → PTs X e (tTs X.K c a)
  | .emp, X, s, c, C, e, h => by
    unfold chkT at h
    split at h
    · exact ⟨fun pins s' σ H Q I ⟨F, env, o, ok, h, k⟩ => by
        cases h
        exact pts_nil.run pins s' σ H Q I (k F H (.refl ok.sub))⟩
    · cases h
  | .one a, X, s, c, C, e, h => by
    unfold chkT at h
    split at h
    · have q := pts_one (sndP a C h).pt
      exact ⟨fun pins s' σ H Q I ⟨F, env, o, ok, h, k⟩ => by
        obtain ⟨r, h1, h2⟩ := bnd h
        obtain rfl := asBool_eq h2
        exact q.run pins s' σ H Q I ⟨F, env, _, ok, h1, k⟩⟩
    · cases h
  | .var _, _, _, _, _, _, h | .int _, _, _, _, _, _, h | .str _, _, _, _, _, _, h | .bl _, _, _, _, _, _, h | .non, _, _, _, _, _, h | .glb _, _, _, _, _, _, h | .bin _ _ _, _, _, _, _, _, h | .neg _, _, _, _, _, _, h | .not _, _, _, _, _, _, h
  | .and _ _, _, _, _, _, _, h | .or _ _, _, _, _, _, _, h | .cmp _ _ _, _, _, _, _, _, h | .chn _ _ _ _ _, _, _, _, _, _, h | .chn3 _ _ _ _ _ _ _, _, _, _, _, _, h | .dsx _ _, _, _, _, _, _, h | .dsv _ _ _ _ _, _, _, _, _, _, h | .isx _ _, _, _, _, _, _, h | .fld _ _, _, _, _, _, _, h | .mkx _ _, _, _, _, _, _, h | .gdx _ _, _, _, _, _, _, h | .gin _ _ _, _, _, _, _, _, h | .lenD _, _, _, _, _, _, h | .lenI _ _, _, _, _, _, _, h | .rvt _, _, _, _, _, _, h | .jrv _ _, _, _, _, _, _, h | .rvl _, _, _, _, _, _, h | .sls _ _ _, _, _, _, _, _, h | .ite _ _ _, _, _, _, _, _, h | .tup _, _, _, _, _, _, h | .lst _, _, _, _, _, _, h | .call _ _, _, _, _, _, _, h
  | .bi _ _, _, _, _, _, _, h | .mt _ _ _, _, _, _, _, _, h | .idx _ _, _, _, _, _, _, h | .slc _ _ _, _, _, _, _, _, h | .comp _ _ _ _ _, _, _, _, _, _, h | .dnK, _, _, _, _, _, h | .dnT, _, _, _, _, _, h | .pth _, _, _, _, _, _, h | .lenP _, _, _, _, _, _, h | .lnd _, _, _, _, _, _, h | .sumv _, _, _, _, _, _, h | .dzp _ _, _, _, _, _, _, h | .isj _ _, _, _, _, _, _, h | .fjd _ _, _, _, _, _, _, h | .mtj _ _ _, _, _, _, _, _, h | .mkj _ _, _, _, _, _, _, h | .dT1 _ _, _, _, _, _, _, h => by unfold chkT at h; cases h
theorem sndEs : ∀ (as : Exs) {X : Cx} {s : Sx} {c : Cl}, CO X s c → ∀ {es : List Expr}, chkEs as s es = true → PA X es (tAs X.K c as) ∧ PA X es (tAb X.K c as) ∧ PA X es (tA X.K c as)
  | .nil, X, s, c, C, es, h => by
    unfold chkEs at h
    split at h
    · refine ⟨PA.imp pa_nil fun σ H Q ⟨F, env, ds, ok, h, k⟩ => ?_, PA.imp pa_nil fun σ H Q ⟨F, env, ds, b, ok, h, k⟩ => ?_, PA.imp pa_nil fun σ H Q ⟨F, env, ds, ok, h, k⟩ => ?_⟩
      · cases h; exact k [] F H (.refl ok.sub) .nil
      · cases h; exact k [] F H (.refl ok.sub) ⟨F, Same.refl _, ok.sub, fun _ => NoTu.refl _, .nil⟩ fun _ => .nil
      · cases h; exact k [] F H (.refl ok.sub) .nil
    · cases h
  | .cons a as, X, s, c, C, es, h => by
    unfold chkEs at h
    split at h
    · simp only [Bool.and_eq_true] at h
      have P := (sndP a C h.1).pe
      obtain ⟨R1, R2, R3⟩ := sndEs as C h.2
      have st := fun xs => star_of (chk_plain h.1) xs X.env
      refine ⟨PA.imp (pa_cons P R1 (st _)) fun σ H Q ⟨F, env, ds, ok, h, k⟩ => ?_, sndL C P R2 h.1 (st _), PA.imp (pa_cons P R3 (st _)) fun σ H Q ⟨F, env, ds, ok, h, k⟩ => ?_⟩
      · obtain ⟨r, h1, h⟩ := bnd (show (ev c env a).bind _ = some ds by simpa only [evs] using h)
        obtain ⟨d, h2, h⟩ := bnd h
        obtain ⟨dr, h3, h⟩ := bnd h
        cases h
        refine ⟨F, env, r, ok, h1, fun v F1 H1 x1 w1 n1 => ?_⟩
        obtain ⟨_, F2, x2, w2⟩ := own_rp h2 x1 w1 n1
        exact ⟨F2, env, dr, ok.ext x2, h3, fun vs F3 H3 x3 w3 => k (v :: vs) F3 H3 (x2.trans x3) (.cons (w2.mono x3.fr) w3)⟩
      · obtain ⟨r, h1, h⟩ := bnd (show (ev c env a).bind _ = some ds by simpa only [evr] using h)
        obtain ⟨dr, h3, h⟩ := bnd h
        cases h
        exact ⟨F, env, r, ok, h1, fun v F1 H1 x1 w1 n1 => ⟨F1, env, dr, ok.ext x1, h3, fun vs F3 H3 x3 w3 => k (v :: vs) F3 H3 (x1.trans x3) (.cons (w1.ext x3) w3)⟩⟩
    · cases h
theorem sndI : ∀ (it : Itr) {X : Cx} {s : Sx} {c : Cl}, CO X s c → ∀ {tg e : Expr}, chkI it s tg e = true → PI X tg e (tI X.K c it)
  | .ex a, X, s, c, C, tg, e, h => by
    unfold chkI at h
    have P := (sndP a C h).pe
    refine PI.imp (PI.or (pi_keysX P) (PI.or (pi_list P) (PI.or (pi_tup P) (pi_str P)))) fun σ H R ⟨F, env, items, ok, h, k⟩ => ?_
    obtain ⟨r, h1, h2⟩ := bnd (show (ev c env a).bind itemsX = some items by simpa only [evi] using h)
    have hb : borI c env (.ex a) = false → (isVar a && r.isOwn) = false := fun e => by
      simpa [borI, h1] using e
    unfold itemsX at h2
    split at h2
    · rename_i kvs hr
      cases h2
      refine .inl ⟨F, env, r, ok, h1, fun v F1 H1 x1 w1 n1 => ?_⟩
      obtain ⟨d, o, ks, vs, rfl, g1, g2, g3, g4⟩ := dx_all x1 w1 n1 hr
      refine ⟨d, o, ks, vs, rfl, g1, k _ F1 H1 x1 (wd_x (fun H2 q => (g1.same fun u z => q _ _ z).atO) g2) fun e => ?_⟩
      obtain ⟨F2, x2, y1, y2, y3⟩ := g4 (hb e)
      exact ⟨F2, x2, wd_x (fun H2 q => (y1.same fun u z => q _ _ z).atO) y2⟩
    refine .inr ?_
    rcases items_cases h2 with ⟨z, rfl, rfl⟩ | hs
    · exact .inr (.inr ⟨F, env, _, ok, h1, fun v F1 H1 x1 w1 _ => ⟨z, w1.str, k _ F1 H1 x1 (wd_str z) fun _ => ⟨F1, x1, wd_str z⟩⟩⟩)
    · by_cases ht : ∃ ds, r = .fz (.tuple ds)
      · obtain ⟨ds, rfl⟩ := ht
        refine .inr (.inl ⟨F, env, _, ok, h1, fun v F1 H1 x1 w1 n1 => ?_⟩)
        cases w1.rpF with
        | tup ta ra =>
          cases hs
          exact ⟨_, rfl, ⟨_, Same.sqT x1.sub ta.sqT⟩, k _ F1 H1 x1 (wd_tup (fun H2 q => Same.sqT q (Same.sqT x1.sub ta.sqT)) ra) fun _ => ⟨F1, x1, wd_tup (fun H2 q => Same.sqT q ta.sqT) ra⟩⟩
      · refine .inl ⟨F, env, r, ok, h1, fun v F1 H1 x1 w1 n1 => ?_⟩
        obtain ⟨kd, p, vs, rfl, q1, q2, q3, q4⟩ := seqv2 x1 w1 n1 hs
        cases kd with
        | false => exact absurd (q4 rfl) ht
        | true => exact ⟨p, rfl, ⟨vs, q1⟩, k _ F1 H1 x1 (wd_list (fun H2 q => q.seq q1) q2) fun e => by
            obtain ⟨F2, x2, z1, z2⟩ := q3 (hb e)
            exact ⟨F2, x2, wd_list (fun H2 q => q.seq z1) z2⟩⟩
  | .its a, X, s, c, C, tg, e, h => by unfold chkI at h; cases h
  | .vals a, X, s, c, C, tg, e, h => by unfold chkI at h; cases h
  | .exD i k, X, s, c, C, tg, e, h => by unfold chkI at h; cases h
  | .zipD i k j l, X, s, c, C, tg, e, h => by unfold chkI at h; cases h
  | .r1 a, X, s, c, C, tg, e, h => by
    unfold chkI at h
    split at h
    · simp only [Bool.and_eq_true, decide_eq_true_eq] at h
      obtain ⟨⟨h1, h2⟩, h3⟩ := h
      obtain ⟨g1, g2⟩ := C.gl h1 h2 (by decide +kernel)
      subst h1
      have st := star_of (chk_plain h3) [] X.env
      refine PI.imp (pi_range1 g1 g2 (pa_cons (sndP a C h3).pe pa_nil st) (by rw [st]; rfl)) fun σ H R ⟨F, env, items, ok, h, k⟩ => ?_
      obtain ⟨n, h4, h5⟩ := bnd (show ((ev c env a).bind asInt).bind _ = some items by simpa only [evi] using h)
      obtain ⟨r, h6, h7⟩ := bnd h4
      obtain rfl := asInt_eq h7
      obtain ⟨⟨b1, b2⟩, rfl⟩ := itd h5
      exact ⟨F, env, _, ok, h6, fun v F1 H1 x1 w1 _ => ⟨n, by rw [w1.int], by omega, by omega, k _ F1 H1 x1 (wd_rng 0 _) fun _ => ⟨F1, x1, wd_rng 0 _⟩⟩⟩
    · cases h
  | .r2 a b, X, s, c, C, tg, e, h => by
    unfold chkI at h
    split at h
    · simp only [Bool.and_eq_true, decide_eq_true_eq] at h
      obtain ⟨⟨⟨h1, h2⟩, h3⟩, h3'⟩ := h
      obtain ⟨g1, g2⟩ := C.gl h1 h2 (by decide +kernel)
      subst h1
      have st' := star_of (chk_plain h3') [] X.env
      have st := star_of (chk_plain h3)
      refine PI.imp (pi_range2 g1 g2 (pa_cons (sndP a C h3).pe (pa_cons (sndP b C h3').pe pa_nil st') (st _ _)) (by rw [st, st']; rfl) (by rw [st']; rfl)) fun σ H R ⟨F, env, items, ok, h, k⟩ => ?_
      obtain ⟨m, h4, h5⟩ := bnd (show ((ev c env a).bind asInt).bind _ = some items by simpa only [evi] using h)
      obtain ⟨r, h6, h7⟩ := bnd h4
      obtain rfl := asInt_eq h7
      obtain ⟨n, h8, h5⟩ := bnd h5
      obtain ⟨r, h9, h7⟩ := bnd h8
      obtain rfl := asInt_eq h7
      obtain ⟨⟨b1, b2, b3, b4⟩, rfl⟩ := itd h5
      exact ⟨F, env, _, ok, h6, fun v F1 H1 x1 w1 _ => ⟨F1, env, _, ok.ext x1, h9, fun u F2 H2 x2 w2 _ => ⟨m, n, by rw [w1.int, w2.int], ⟨by omega, by omega, by omega, by omega⟩, k _ F2 H2 (x1.trans x2) (wd_rng m _) fun _ => ⟨F2, x1.trans x2, wd_rng m _⟩⟩⟩⟩
    · cases h
  | .r3 a b d, X, s, c, C, tg, e, h => by unfold chkI at h; cases h
  | .zip a b, X, s, c, C, tg, e, h => by
    unfold chkI at h
    split at h
    · simp only [Bool.and_eq_true, decide_eq_true_eq] at h
      obtain ⟨⟨⟨⟨h1, h2⟩, ht⟩, h3⟩, h3'⟩ := h
      obtain ⟨g1, g2⟩ := C.gl h1 h2 (by decide +kernel)
      subst h1
      have st' := star_of (chk_plain h3') [] X.env
      have st := star_of (chk_plain h3)
      cases tg with
      | Tuple es kk tp =>
        refine PI.imp (pi_zipQ g1 g2 (pa_cons (sndP a C h3).pe (pa_cons (sndP b C h3').pe pa_nil st') (st _ _)) (st _ _) (by rw [st']; rfl)) fun σ H R ⟨F, env, items, ok, h, k⟩ => ?_
        obtain ⟨r1, h4, h5⟩ := bnd (show (ev c env a).bind _ = some items by simpa only [evi] using h)
        obtain ⟨r2, h6, h7⟩ := bnd h5
        obtain ⟨ds, h8, h9⟩ := bnd h7
        obtain ⟨es, h10, h11⟩ := bnd h9
        cases h11
        have hb1 : ∀ e, borI c env (.zip a b) = e → ((isVar a && r1.isOwn) || (isVar b && r2.isOwn)) = e := fun e z => by
          simpa [borI, h4, h6] using z
        refine ⟨F, env, r1, ok, h4, fun v F1 H1 x1 w1 n1 => ?_⟩
        -- the first one is frozen, where it may be
        obtain ⟨k1, a1, vs, rfl, p1, p2, p3, _⟩ := seqv2 x1 w1 n1 h8
        by_cases f1 : (isVar a && r1.isOwn) = true
        · refine ⟨F1, env, r2, ok.ext x1, h6, fun u F2 H2 x2 w2 n2 => ?_⟩
          obtain ⟨k2, a2, ws, rfl, q1, q2, q3, _⟩ := seqv2 x2 w2 n2 h10
          refine ⟨k1, k2, a1, a2, vs, ws, rfl, Same.sq x2.same p1, q1, k _ F2 H2 (x1.trans x2) (wd_zip (fun H3 s3 => ⟨Same.sq s3 (Same.sq x2.same p1), Same.sq s3 q1⟩) (p2.mono x2.fr) q2) fun e => ?_⟩
          have := hb1 _ e
          rw [f1] at this
          cases this
        · obtain ⟨F1', x1', p4, p5⟩ := p3 (by simpa using f1)
          refine ⟨F1', env, r2, ok.ext x1', h6, fun u F2 H2 x2 w2 n2 => ?_⟩
          obtain ⟨k2, a2, ws, rfl, q1, q2, q3, _⟩ := seqv2 x2 w2 n2 h10
          refine ⟨k1, k2, a1, a2, vs, ws, rfl, Same.sq x2.same p1, q1, k _ F2 H2 (x1'.trans x2) (wd_zip (fun H3 s3 => ⟨Same.sq s3 (Same.sq x2.same p1), Same.sq s3 q1⟩) (p5.mono x2.fr) q2) fun e => ?_⟩
          have hb2 := hb1 _ e
          simp only [Bool.or_eq_false_iff] at hb2
          obtain ⟨F2', x2', q4, q5⟩ := q3 hb2.2
          exact ⟨F2', x1'.trans x2', wd_zip (fun H3 s3 => ⟨Same.sq s3 (Same.sq x2'.fr p4), Same.sq s3 q4⟩) (p5.mono x2'.fr) q5⟩
      | _ => cases ht
    · cases h
  | .zip3 a b a3, X, s, c, C, tg, e, h => by unfold chkI at h; cases h
  | .en a, X, s, c, C, tg, e, h => by
    unfold chkI at h
    split at h
    · simp only [Bool.and_eq_true, decide_eq_true_eq] at h
      obtain ⟨⟨⟨h1, h2⟩, ht⟩, h3⟩ := h
      obtain ⟨g1, g2⟩ := C.gl h1 h2 (by decide +kernel)
      subst h1
      have st := star_of (chk_plain h3) [] X.env
      cases tg with
      | Tuple es kk tp =>
        refine PI.imp (PI.or (pi_enumQ g1 g2 (sndP a C h3).pe st) (pi_enumT g1 g2 (sndP a C h3).pe st)) fun σ H R ⟨F, env, items, ok, h, k⟩ => ?_
        obtain ⟨r1, h4, h5⟩ := bnd (show (ev c env a).bind _ = some items by simpa only [evi] using h)
        obtain ⟨ds, h6, rfl⟩ := mpd h5
        have hb1 : borI c env (.en a) = false → (isVar a && r1.isOwn) = false := fun z => by
          simpa [borI, h4] using z
        rcases items_eq h6 with h6 | ⟨z, rfl, rfl⟩
        · refine .inl ⟨F, env, r1, ok, h4, fun v F1 H1 x1 w1 n1 => ?_⟩
          obtain ⟨k1, a1, vs, rfl, p1, p2, p3, _⟩ := seqv2 x1 w1 n1 h6
          refine ⟨k1, a1, vs, rfl, p1, k _ F1 H1 x1 (wd_enum (fun H3 s3 => Same.sq s3 p1) p2) fun e => ?_⟩
          obtain ⟨F2, x2, q1, q2⟩ := p3 (hb1 e)
          exact ⟨F2, x2, wd_enum (fun H3 s3 => Same.sq s3 q1) q2⟩
        · exact .inr ⟨F, env, _, ok, h4, fun v F1 H1 x1 w1 n1 => ⟨z, w1.str, k _ F1 H1 x1 (wd_enumT z) fun _ => ⟨F1, x1, wd_enumT z⟩⟩⟩
      | _ => cases ht
    · cases h
  | .rv a, X, s, c, C, tg, e, h => by unfold chkI at h; cases h
end
end
end Mn
namespace Mn
open PySem PySem.Spec PyProof.Rows L2
mutual
def chkS : Sm → Sx → Stmt → Bool
  | .asg i e, s, st => match st with
    | .Assign [.Name x _] v _ => decide (s.N[i]? = some x) && s.loc x && chkE e s v
    | _ => false
  | .par i j k l, s, st => false
  | .parE i j a b, s, st => match st with
    | .Assign [.Tuple [.Name x px, .Name y py] _ _] (.Tuple [u, v] _ _) _ => decide (s.N[i]? = some x) && decide (s.N[j]? = some y) && decide (s.sc.names.lookup x = some .local) && decide (s.sc.names.lookup y = some .local) && decide (x ≠ y) && decide (py.line = px.line) && decide (s.sc.kind = .function) && !foldedForSure 8 u && !constantsAlone 8 u && chkEs (.cons a (.cons b .nil)) s [u, v]
    | _ => false
  | .unp is e, s, st => match st with
    | .Assign [.Tuple ts k pos] v _ => chkNs s is ts && chkE e s v && !isTup v
    | _ => false
  | .app i e, s, st => match st with
    | .Expr (.Call (.Attribute (.Name x _) nm apos) [v] [] cpos) _ => decide (nm = "append") && (apos.endLine == cpos.line) && decide (s.N[i]? = some x) && s.vis x && okN x && chkE e s v
    | _ => false
  | .ext i e, s, st => match st with
    | .Expr (.Call (.Attribute (.Name x _) nm apos) [v] [] cpos) _ => decide (nm = "extend") && (apos.endLine == cpos.line) && decide (s.N[i]? = some x) && s.vis x && okN x && chkE e s v
    | _ => false
  | .ins i k e, s, st => false
  | .pop j i e, s, st => match st with
    | .Assign [.Name y _] (.Call (.Attribute (.Name x _) nm apos) [v] [] cpos) _ => decide (nm = "pop") && (apos.endLine == cpos.line) && decide (s.N[i]? = some x) && s.vis x && okN x && chkE e s v && decide (s.N[j]? = some y) && s.loc y
    | _ => false
  | .sti i k e, s, st => match st with
    | .Assign [.Subscript (.Name x _) ix _] v _ => decide (s.N[i]? = some x) && s.vis x && okN x && chkE k s ix && chkE e s v
    | _ => false
  | .stk i k e, s, st => match st with
    | .Assign [.Subscript (.Name x _) ix _] v _ => decide (s.N[i]? = some x) && s.vis x && okN x && chkE k s ix && chkE e s v
    | _ => false
  | .clr i, s, st => false
  | .revO i, s, st => false
  | .rem i e, s, st => false
  | .tryB b D j n, s, st => false
  | .ifs t a b, s, st => match st with
    | .If x y z _ => chkE t s x && chkSs a s y && chkSs b s z
    | _ => false
  | .ifT t a b, s, st => false
  | .rtTt _ t, s, st => false
  | .for_ tg it b, s, st => match st with
    | .For x y z [] _ => chkI it s x y && chkTg s tg x && chkSs b s z
    | _ => false
  | .asgD i e tg it own, s, st => false
  | .unpD is e tg it own, s, st => false
  | .tryEl i f es D1 D2 k el, s, st => false
  | .asgL i e, s, st => false
  | .appD i e, s, st => false
  | .appI i k e, s, st => false
  | .popI i k, s, st => false
  | .popO i, s, st => false
  | .popD i, s, st => false
  | .stJ i k q e, s, st => false
  | .retX e k, s, st => false
  | .stiD i k e, s, st => false
  | .forR j i b, s, st => false
  | .tryL b e, s, st => false
  | .tryN b, s, st => false
  | .whl t b, s, st => false
  | .ret e, s, st => match st with
    | .Return (some x) _ => chkE e s x
    | _ => false
  | .retN, s, st => false
  | .drp e, s, st => false
  | .rse C m, s, st => false
  | .rs1 C e, s, st => false
  | .asgC i f es, s, st => false
  | .retC f es, s, st => false
  | .retCf f es, s, st => false
  | .retC2 o f es g fs, s, st => false
  | .trse C m, s, st => false
  | .trs1 C e, s, st => false
  | .tasC i f es, s, st => false
  | .trtC f es, s, st => false
  | .tdrC f es, s, st => false
  | .rtcX g i es f fs, s, st => false
  | .tryT i f a D j n, s, st => false
  | .rtcT g i h a, s, st => false
  | .rtsC f fs, s, st => false
  | .drpC f es, s, st => false
  | .tryC i f es D j n, s, st => false
  | .tryE f es D j n, s, st => false
  | .tryM f es hs, s, st => false
  | .nop, s, st => false
  | .tnw i, s, st => false
  | .tal j p, s, st => false
  | .tap p e, s, st => false
  | .tapD p e tg it own, s, st => false
  | .tapV p j, s, st => false
  | .tst p k e, s, st => false
  | .tfl p f e, s, st => match st with
    | .Assign [.Attribute o nm _] v _ => decide (nm = f) && baseOk o && chkP p s o && chkE e s v
    | _ => false
  | .tcl p, s, st => false
  | .tfr j p b, s, st => false
  | .tcd f a, s, st => false
  | .tca j f a, s, st => false
  | .rtc f a, s, st => false
  | .asC j f es, s, st => false
  | .unC is f es, s, st => false
  | .asT i f es, s, st => false
  | .retT e, s, st => false
  | .retF e, s, st => false
  | .tryTd f a D j n, s, st => false
  | .tryTf f a D j n fd, s, st => false
  | .rtNT, s, st => false
  | .rtV i, s, st => false
  | .rtP ps, s, st => false
  | .rtE e, s, st => false
  | .rtD e tg it own, s, st => false
  | .tas i e, s, st => false
  | .tasD i e tg it own, s, st => false
  | .nev, s, st => true
  | .cont, s, st => false
  | .brk, s, st => false
def chkSs : Sms → Sx → List Stmt → Bool
  | .nil, s, st => match st with
    | [] => true
    | _ => false
  | .cons a r, s, st => match st with
    | x :: xs => chkS a s x && chkSs r s xs
    | _ => false
  | .frz i r, s, st => chkSs r s st
  | .del i r, s, st => chkSs r s st
end
abbrev Pl := Nat → List V
def Pins (pl : Pl) (H : Hp) (env : Ev) (σ : L2.St) : Prop := ∀ (i : Nat) pw t, env[i]? = some (some (.tr pw t)) → ∃ v, σ[i]? = some (some v) ∧ ∀ (n : Nat) w, pw[n]? = some w → ∃ a u, (pl i)[n]? = some a ∧ t.sub w = some u ∧ u.isNd = true ∧ walkH H v w = some a
theorem Pins.keeps {pl : Pl} {H : Hp} {env env' : Ev} {σ σ' : L2.St} (p : Pins pl H env σ) (k : Keeps env env' σ σ') : Pins pl H env' σ' := fun i pw t h => by
  obtain ⟨h1, h2⟩ := k i _ h rfl
  rw [h2]
  exact p i pw t h1
theorem Pins.mono {pl : Pl} {H H' : Hp} {env : Ev} {σ : L2.St} (p : Pins pl H env σ) (e : Same H H') : Pins pl H' env σ := fun i pw t h => by
  obtain ⟨v, h1, h2⟩ := p i pw t h
  refine ⟨v, h1, fun n w hw => ?_⟩
  obtain ⟨a, u, h3, h4, h5, h6⟩ := h2 n w hw
  exact ⟨a, u, h3, h4, h5, walkH_mono e h6⟩
theorem Tr.walk_other {K : PySem.W.Frag} {F H H' : Hp} {v x : V} {t u : OT} {ps : List Addr} {w : List Stp} (a : Tr K F H v t ps) (h : t.sub w = some u) (ke : ∀ b ∈ ps, H' b = H b) (hw : walkH H v w = some x) : walkH H' v w = some x := by
  obtain ⟨y, ps1, ps', ps2, g1, g2, g3, g4⟩ := a.at_ h
  rw [hw] at g1
  cases g1
  refine (g4 H' u ps' (fun b hb => ke b (by rw [g3]; simp at hb ⊢; rcases hb with z | z <;> simp [z])) ?_).2
  exact g2.other (ps := ps) ke fun b hb => by rw [g3]; simp [hb]
theorem TrOk.write {K : PySem.W.Frag} {F H H' : Hp} {env : Ev} {σ : L2.St} (ok : TrOk K F H env σ) (aw : ∀ (i : Nat) b, OwnAt H env σ i b → (∃ pw t, env[i]? = some (some (.tr pw t))) → H' b = H b) : TrOk K F H' env σ where
  tr := fun i pw t h => by
    obtain ⟨v, ps, h1, h2, h3⟩ := ok.tr i pw t h
    exact ⟨v, ps, h1, h2.other (ps := ps) (fun b hb => aw i b ⟨_, v, h, h1, (foot_tr h2).mpr hb⟩ ⟨pw, t, h⟩) fun b hb => hb, h3⟩
  al := fun j i w pw t h h' => by
    obtain ⟨v, x, u, h1, h2, h3, h4, h5⟩ := ok.al j i w pw t h h'
    obtain ⟨v', ps, g1, g2, _⟩ := ok.tr i pw t h'
    rw [h1] at g1
    cases g1
    exact ⟨v, x, u, h1, h2, h3, h4, g2.walk_other h3 (fun b hb => aw i b ⟨_, v, h', h1, (foot_tr g2).mpr hb⟩ ⟨pw, t, h'⟩) h5⟩
theorem Pins.write {K : PySem.W.Frag} {pl : Pl} {F H H' : Hp} {env : Ev} {σ : L2.St} (p : Pins pl H env σ) (ok : TrOk K F H env σ) (aw : ∀ (i : Nat) b, OwnAt H env σ i b → (∃ pw t, env[i]? = some (some (.tr pw t))) → H' b = H b) : Pins pl H' env σ := fun i pw t h => by
  obtain ⟨v, h1, h2⟩ := p i pw t h
  obtain ⟨v', ps, g1, g2, _⟩ := ok.tr i pw t h
  rw [h1] at g1
  cases g1
  refine ⟨v, h1, fun n w hw => ?_⟩
  obtain ⟨a, u, h3, h4, h5, h6⟩ := h2 n w hw
  exact ⟨a, u, h3, h4, h5, g2.walk_other h4 (fun b hb => aw i b ⟨_, v, h, h1, (foot_tr g2).mpr hb⟩ ⟨pw, t, h⟩) h6⟩
theorem TrOk.cold {K : PySem.W.Frag} {F F' H : Hp} {env : Ev} {σ : L2.St} (ok : TrOk K F H env σ) (fr : Same F F') (aw : ∀ (i : Nat) b, OwnAt H env σ i b → F' b = none) : TrOk K F' H env σ where
  tr := fun i pw t h => by
    obtain ⟨v, ps, h1, h2, h3⟩ := ok.tr i pw t h
    exact ⟨v, ps, h1, h2.cold fr fun b hb => aw i b ⟨_, v, h, h1, (foot_tr h2).mpr hb⟩, h3⟩
  al := ok.al
structure StOk (K : PySem.W.Frag) (pl : Pl) (F0 H0 F H : Hp) (env : Ev) (σ : L2.St) : Prop where
  ext : Ext F0 H0 F H
  ok : EnvOk K F H env σ
  own : ∀ i p, OwnAt H env σ i p → H0 p = none
  sep : ∀ i j p, OwnAt H env σ i p → OwnAt H env σ j p → i = j
  pin : Pins pl H env σ
section
variable {K : PySem.W.Frag} {pl : Pl} {F0 H0 F H F' H' : Hp} {env : Ev} {σ : L2.St}
theorem OwnAt.there (ok : EnvOk K F H env σ) {i : Nat} {p : Addr} (h : OwnAt H env σ i p) : F p = none ∧ ∃ o, H p = some o := by
  obtain ⟨r, v, h1, h2, h3⟩ := h
  by_cases hp : r.pl = true
  case neg =>
    cases r with
    | tr pw t =>
      obtain ⟨v', ps, g1, g2, _⟩ := ok.tr_.tr i pw t h1
      rw [h2] at g1
      cases g1
      exact g2.there p ((foot_tr g2).mp h3)
    | al _ _ => exact h3.elim
    | _ => exact absurd rfl hp
  obtain ⟨v', h4, w⟩ := ok.at_ i r h1 hp
  rw [h2] at h4
  cases h4
  cases w with
  | fz q => exact h3.elim
  | own f e q =>
    cases q with
    | on a nd np =>
      rcases h3 with h3 | ⟨q', vs, e1, e2, e3⟩
      · cases h3; exact ⟨f, _, e⟩
      · cases e1
        rw [e] at e2
        cases e2
        obtain ⟨q2, hq, e4⟩ := List.mem_map.mp e3
        cases e4
        obtain ⟨f2, vs2, h2⟩ := a.mem _ hq
        exact ⟨f2, _, h2⟩
    | _ => cases h3; exact ⟨f, _, e⟩
theorem OwnAt.back (ok : EnvOk K F H env σ) (x : Same H H') {i : Nat} {p : Addr} (h : OwnAt H' env σ i p) : OwnAt H env σ i p := by
  obtain ⟨r, v, h1, h2, h3⟩ := h
  refine ⟨r, v, h1, h2, ?_⟩
  by_cases hp : r.pl = true
  case neg =>
    cases r with
    | tr pw t =>
      obtain ⟨v', ps, g1, g2, _⟩ := ok.tr_.tr i pw t h1
      rw [h2] at g1
      cases g1
      have g3 : Tr K F H' v t ps := g2.other (ps := ps) (fun b hb => by
        obtain ⟨_, o, q⟩ := g2.there b hb
        rw [q]; exact x _ _ q) fun b hb => hb
      exact (foot_tr g2).mpr ((foot_tr g3).mp h3)
    | al _ _ => exact h3.elim
    | _ => exact absurd rfl hp
  obtain ⟨v', h4, w⟩ := ok.at_ i r h1 hp
  rw [h2] at h4
  cases h4
  cases w with
  | fz q => exact h3
  | own f e q =>
    cases q with
    | on a nd np =>
      rcases h3 with h3 | ⟨q', vs, e1, e2, e3⟩
      · exact .inl h3
      · cases e1
        have := x _ _ e
        rw [this] at e2
        cases e2
        exact .inr ⟨_, _, rfl, e, e3⟩
    | _ => exact h3
theorem StOk.step (st : StOk K pl F0 H0 F H env σ) (x : Ext F H F' H') : StOk K pl F0 H0 F' H' env σ := ⟨st.ext.trans x, st.ok.ext x, fun i p h => st.own i p (h.back st.ok x.same), fun i j p h h' => st.sep i j p (h.back st.ok x.same) (h'.back st.ok x.same), st.pin.mono x.same⟩
theorem StOk.rebase (a : Ext F0 H0 F H) {F2 H2 : Hp} (st : StOk K pl F H0 F2 H2 env σ) : StOk K pl F0 H0 F2 H2 env σ :=
  ⟨⟨a.fr.trans st.ext.fr, st.ext.sub, st.ext.same, fun b o e => (st.ext.new b o e).elim (fun q => a.new b o q) .inr⟩, st.ok, st.own, st.sep, st.pin⟩
theorem StOk.based (st : StOk K pl F0 H0 F H env σ) : StOk K pl F H0 F H env σ := ⟨⟨Same.refl _, st.ext.sub, st.ext.same, fun _ _ e => .inl e⟩, st.ok, st.own, st.sep, st.pin⟩
theorem StOk.setN (st : StOk K pl F0 H0 F H env σ) (x : Ext F H F' H') {i : Nat} {v : V} {r : RV} (hi : i < env.length) (w : View K F' H' v r) (n : ∀ p, Foot H' r v p → H p = none) : StOk K pl F0 H0 F' H' (env.set i (some r)) (σ.set i (some v)) := by
  have ok' := st.ok.ext x
  have key : ∀ j p, OwnAt H' (env.set i (some r)) (σ.set i (some v)) j p → (j = i ∧ H p = none) ∨ (j ≠ i ∧ OwnAt H env σ j p) := fun j p h => by
    obtain ⟨r', u, h1, h2, h3⟩ := h
    by_cases e : i = j
    · subst e
      rw [List.getElem?_set_self hi] at h1
      cases h1
      rw [List.getElem?_set_self (by rw [← st.ok.len]; exact hi)] at h2
      cases h2
      exact .inl ⟨rfl, n p h3⟩
    · rw [List.getElem?_set_ne e] at h1 h2
      exact .inr ⟨fun z => e z.symm, OwnAt.back st.ok x.same ⟨r', u, h1, h2, h3⟩⟩
  refine ⟨st.ext.trans x, ok'.set hi w, fun j p h => ?_, fun j k p h1 h2 => ?_, (st.pin.mono x.same).keeps (Keeps.set fun q e => by cases e; exact w.pl)⟩
  · rcases key j p h with ⟨_, e⟩ | ⟨_, h⟩
    · exact st.ext.same.free e
    · exact st.own j p h
  · rcases key j p h1 with ⟨e1, e⟩ | ⟨_, g1⟩
    · rcases key k p h2 with ⟨e2, _⟩ | ⟨_, g2⟩
      · rw [e1, e2]
      · obtain ⟨_, o, q⟩ := g2.there st.ok
        rw [e] at q; cases q
    · rcases key k p h2 with ⟨e2, e⟩ | ⟨_, g2⟩
      · obtain ⟨_, o, q⟩ := g1.there st.ok
        rw [e] at q; cases q
      · exact st.sep j k p g1 g2
theorem StOk.set (st : StOk K pl F0 H0 F H env σ) (x : Ext F H F' H') {i : Nat} {v : V} {r : RV} (hi : i < env.length) (w : View K F' H' v r) (n : New r v H H') : StOk K pl F0 H0 F' H' (env.set i (some r)) (σ.set i (some v)) := st.setN x hi w n
theorem StOk.upd (st : StOk K pl F0 H0 F H env σ) {i : Nat} {p : Addr} {o : HO} {r r0 : RV} (h0 : env[i]? = some (some r0)) (hf0 : r0.flat = true) (ho0 : r0.isOwn = true) (h3 : σ[i]? = some (some (.ref p))) (hf : r.flat = true) (q : Own K F (L2.upd H p o) p o r) : StOk K pl F0 H0 F (L2.upd H p o) (env.set i (some r)) σ := by
  have hi : i < env.length := (List.getElem?_eq_some_iff.mp h0).1
  have foot0 : ∀ H p', Foot H r0 (.ref p) p' ↔ p' = p := fun H p' => by
    cases r0 with
    | fz d => cases ho0
    | on d => cases hf0
    | tr _ _ => cases hf0
    | al _ _ => cases hf0
    | _ => exact ⟨fun h => by cases h; rfl, fun h => by subst h; exact (rfl : V.ref _ = V.ref _)⟩
  have foot1 : ∀ H p', Foot H r (.ref p) p' → p' = p := fun H p' h => by
    cases r with
    | fz d => exact h.elim
    | on d => cases hf
    | tr _ _ => cases hf
    | al _ _ => cases hf
    | _ => cases h; rfl
  have hp : OwnAt H env σ i p := ⟨r0, _, h0, h3, (foot0 H p).mpr rfl⟩
  have f := (hp.there st.ok).1
  have apart : ∀ j p', OwnAt H env σ j p' → j ≠ i → p' ≠ p := fun j p' h e z => by subst z; exact e (st.sep j i _ h hp)
  have key : ∀ j p', OwnAt (L2.upd H p o) (env.set i (some r)) σ j p' → OwnAt H env σ j p' := fun j p' hj => by
    obtain ⟨r', u, z1, z2, z3⟩ := hj
    by_cases e : i = j
    · subst e
      rw [List.getElem?_set_self hi] at z1
      cases z1
      rw [h3] at z2
      cases z2
      rw [foot1 _ _ z3]
      exact hp
    · rw [List.getElem?_set_ne e] at z1
      refine ⟨r', u, z1, z2, ?_⟩
      cases r' with
      | on d =>
        rcases z3 with z3 | ⟨q', vs, e1, e2, e3⟩
        · exact .inl z3
        · subst e1
          have ne : q' ≠ p := apart j q' ⟨.on d, _, z1, z2, .inl rfl⟩ (fun z => e z.symm)
          rw [upd_ne ne] at e2
          exact .inr ⟨_, _, rfl, e2, e3⟩
      | tr pw t =>
        obtain ⟨v, ps, y1, y2, _⟩ := st.ok.tr_.tr j pw t z1
        rw [z2] at y1
        cases y1
        have y3 : Tr K F (L2.upd H p o) u t ps := y2.other (ps := ps) (fun b hb => upd_ne (apart j b ⟨_, u, z1, z2, (foot_tr y2).mpr hb⟩ fun z => e z.symm)) fun b hb => hb
        exact (foot_tr y2).mpr ((foot_tr y3).mp z3)
      | _ => exact z3
  have wr : ∀ (j : Nat) b, OwnAt H env σ j b → (∃ pw t, env[j]? = some (some (.tr pw t))) → L2.upd H p o b = H b := fun j b hb ⟨pw, t, ht⟩ => upd_ne (apart j b hb fun z => by subst z; rw [h0] at ht; cases ht; cases hf0)
  have kps : Keeps env (env.set i (some r)) σ σ := Keeps.set0 fun q e => by cases e; cases r <;> first | rfl | cases hf
  refine ⟨st.ext.write (st.own i p hp) f, ⟨fun b u e => by rw [upd_ne (ne_of_none e f)]; exact st.ok.sub _ _ e, by rw [List.length_set]; exact st.ok.len, fun j r' hj hpl => ?_, (st.ok.tr_.write wr).keeps kps⟩, fun j p' hj => st.own j p' (key j p' hj), fun j k p' hj hk => st.sep j k p' (key j p' hj) (key k p' hk), (st.pin.write st.ok.tr_ wr).keeps kps⟩
  by_cases e : i = j
  · subst e
    rw [List.getElem?_set_self hi] at hj
    cases hj
    exact ⟨.ref p, h3, .own f upd_same q⟩
  · rw [List.getElem?_set_ne e] at hj
    obtain ⟨v, z1, w⟩ := st.ok.at_ j r' hj hpl
    refine ⟨v, z1, ?_⟩
    cases w with
    | fz q' => exact .fz q'
    | own f' e' q' =>
      rename_i p' o'
      have fo : ∀ p2, Foot H r' (.ref p') p2 → p2 ≠ p := fun p2 h => apart j p2 ⟨r', _, hj, z1, h⟩ fun z => e z.symm
      cases q' with
      | lst a => exact .own f' (by rw [upd_ne (fo p' rfl)]; exact e') (.lst a)
      | dK a => exact .own f' (by rw [upd_ne (fo p' rfl)]; exact e') (.dK a)
      | dT kn a => exact .own f' (by rw [upd_ne (fo p' rfl)]; exact e') (.dT kn a)
      | on a nd np => exact .own f' (by rw [upd_ne (fo p' (.inl rfl))]; exact e') (.on (a.other fun q hq => fo q (.inr ⟨p', _, rfl, e', List.mem_map.mpr ⟨q, hq, rfl⟩⟩)) nd np)
theorem StOk.del (st : StOk K pl F0 H0 F H env σ) (i : Nat) : StOk K pl F0 H0 F H (env.set i none) σ := by
  have key : ∀ (j : Nat) (r : RV), (env.set i none)[j]? = some (some r) → env[j]? = some (some r) := fun j r h => by
    rw [List.getElem?_set] at h
    split at h
    · split at h <;> cases h
    · exact h
  have ow : ∀ j p, OwnAt H (env.set i none) σ j p → OwnAt H env σ j p := fun j p ⟨r, v, z1, z2, z3⟩ => ⟨r, v, key j r z1, z2, z3⟩
  exact ⟨st.ext, ⟨st.ok.sub, by rw [List.length_set]; exact st.ok.len, fun j r h hpl => st.ok.at_ j r (key j r h) hpl, st.ok.tr_.keeps (Keeps.set0 fun q e => nomatch e)⟩, fun j p h => st.own j p (ow j p h), fun j k p hj hk => st.sep j k p (ow j p hj) (ow k p hk), st.pin.keeps (Keeps.set0 fun q e => nomatch e)⟩
theorem StOk.cold (st : StOk K pl F0 H0 F H env σ) {F' : Hp} (x : Ext F H F' H → True) (fr : Same F F') (sub : Same F' H) (nw : ∀ b o, F' b = some o → F b = some o ∨ H0 b = none) (aw : ∀ j p, OwnAt H env σ j p → F' p = none) : StOk K pl F0 H0 F' H env σ := by
  refine ⟨⟨st.ext.fr.trans fr, sub, st.ext.same, fun b o e => (nw b o e).elim (fun z => st.ext.new b o z) .inr⟩, ⟨sub, st.ok.len, fun j r h hpl => ?_, st.ok.tr_.cold fr aw⟩, st.own, st.sep, st.pin⟩
  obtain ⟨v, h1, w⟩ := st.ok.at_ j r h hpl
  refine ⟨v, h1, ?_⟩
  cases w with
  | fz q => exact .fz (q.mono fr)
  | own f e q =>
    rename_i p o
    have fo : ∀ p2, Foot H r (.ref p) p2 → F' p2 = none := fun p2 z => aw j p2 ⟨r, _, h, h1, z⟩
    cases q with
    | lst a => exact .own (fo p rfl) e (.lst (a.mono fr))
    | dK a => exact .own (fo p rfl) e (.dK (a.mono fr))
    | dT kn a => exact .own (fo p rfl) e (.dT (kn.mono fr) (a.mono fr))
    | on a nd np =>
      have : ∀ {qs : List Addr} {dss : List (List PyData)}, InAll K F H qs dss → (∀ q ∈ qs, F' q = none) → InAll K F' H qs dss := fun {qs} => by
        induction qs with
        | nil => intro dss z _; cases z; exact .nil
        | cons q qs ih =>
          intro dss z n
          cases z with
          | cons f2 h2 ra t2 => exact .cons (n q (by simp)) h2 (ra.mono fr) (ih t2 fun q' h' => n q' (by simp [h']))
      exact .own (fo p (.inl rfl)) e (.on (this a fun q hq => fo q (.inr ⟨p, _, rfl, e, List.mem_map.mpr ⟨q, hq, rfl⟩⟩)) nd np)
theorem StOk.frz (st : StOk K pl F0 H0 F H env σ) {i : Nat} {r : RV} (h : env[i]? = some (some r)) (hfz : r.frzOk = true) : ∃ F', StOk K pl F0 H0 F' H (env.set i (some (.fz r.fzD))) σ := by
  classical
  have hi : i < env.length := (List.getElem?_eq_some_iff.mp h).1
  obtain ⟨v, h1, w⟩ : ∃ v, σ[i]? = some (some v) ∧ (View K F H v r ∨ ∃ pw t ps, r = .tr pw t ∧ Tr K F H v t ps) := by
    by_cases hp : r.pl = true
    · obtain ⟨v, h1, w⟩ := st.ok.at_ i r h hp
      exact ⟨v, h1, .inl w⟩
    · cases r with
      | tr pw t =>
        obtain ⟨v, ps, g1, g2, _⟩ := st.ok.tr_.tr i pw t h
        exact ⟨v, g1, .inr ⟨_, _, ps, rfl, g2⟩⟩
      | al _ _ => cases hfz
      | _ => exact absurd rfl hp
  let P : Addr → Prop := fun b => Foot H r v b
  have st1 := st.del i
  have fr : Same F (coldF F H P) := fun b o e => by
    unfold coldF
    split
    · exact st.ok.sub _ _ e
    · exact e
  have sub : Same (coldF F H P) H := fun b o e => by
    unfold coldF at e
    split at e
    · exact e
    · exact st.ok.sub _ _ e
  have own : ∀ p, P p → OwnAt H env σ i p := fun p hp => ⟨r, v, h, h1, hp⟩
  have st2 : StOk K pl F0 H0 (coldF F H P) H (env.set i none) σ := st1.cold (fun _ => trivial) fr sub (fun b o e => by
    unfold coldF at e
    split at e
    · rename_i hb
      exact .inr (st.own i b (own b hb))
    · exact .inl e) fun j p hj => by
    have hj2 : OwnAt H env σ j p := by
      obtain ⟨r', v', z1, z2, z3⟩ := hj
      by_cases e : i = j
      · subst e
        rw [List.getElem?_set_self hi] at z1
        cases z1
      · rw [List.getElem?_set_ne e] at z1
        exact ⟨r', v', z1, z2, z3⟩
    have hne : j ≠ i := fun e => by
      subst e
      obtain ⟨r', v', z1, _, _⟩ := hj
      rw [List.getElem?_set_self hi] at z1
      cases z1
    unfold coldF
    rw [if_neg (fun hp => hne (st.sep j i p hj2 (own p hp)))]
    exact (hj2.there st.ok).1
  have rp : Rp K (coldF F H P) v r.fzD := by
    rcases w with w | ⟨pw, t, ps, rfl, tr⟩
    case inr => exact tr.lend fr hfz fun b hb => if_pos ((foot_tr tr).mpr hb)
    have efd : r.fzD = r.d := by
      have := w.pl
      cases r <;> first | rfl | cases this
    rw [efd]
    cases w with
    | fz q => exact q.mono fr
    | own f e q =>
      rename_i p o
      have at_ : ∀ b, P b → coldF F H P b = H b := fun b hb => if_pos hb
      cases q with
      | lst a => exact .lst (by rw [at_ p rfl]; exact e) (a.mono fr)
      | dK a => exact .dK (by rw [at_ p rfl]; exact e) (a.mono fr)
      | dT kn a => exact .dT (by rw [at_ p rfl]; exact e) (kn.mono fr) (a.mono fr)
      | on a nd np =>
        have : ∀ {qs : List Addr} {dss : List (List PyData)}, InAll K F H qs dss → (∀ q ∈ qs, P q) → RpAll K (coldF F H P) (qs.map V.ref) (dss.map PyData.list) := fun {qs} => by
          induction qs with
          | nil => intro dss z _; cases z; exact .nil
          | cons q qs ih =>
            intro dss z n
            cases z with
            | cons f2 h2 ra t2 => exact .cons (.lst (by rw [at_ q (n q (by simp))]; exact h2) (ra.mono fr)) (ih t2 fun q' h' => n q' (by simp [h']))
        exact .lst (by rw [at_ p (.inl rfl)]; exact e) (this a fun q hq => .inr ⟨p, _, rfl, e, List.mem_map.mpr ⟨q, hq, rfl⟩⟩)
  have kps : Keeps (env.set i none) (env.set i (some (.fz r.fzD))) σ σ := by
    have := Keeps.set0 (env := env.set i none) (σ := σ) (i := i) (r := some (.fz r.fzD)) fun q e => by cases e; rfl
    rw [List.set_set] at this
    exact this
  refine ⟨_, st2.ext, ⟨st2.ok.sub, by rw [List.length_set]; exact st.ok.len, fun j r' hj hpl => ?_, st2.ok.tr_.keeps kps⟩, fun j p hj => st2.own j p ?_, fun j k p hj hk => st2.sep j k p ?_ ?_, st2.pin.keeps kps⟩
  · by_cases e : i = j
    · subst e
      rw [List.getElem?_set_self hi] at hj
      cases hj
      exact ⟨v, h1, .fz rp⟩
    · rw [List.getElem?_set_ne e] at hj
      exact st2.ok.at_ j r' (by rw [List.getElem?_set_ne e]; exact hj) hpl
  all_goals
    first
    | (obtain ⟨r', v', z1, z2, z3⟩ := hj
       by_cases e : i = j
       · subst e
         rw [List.getElem?_set_self hi] at z1
         cases z1
         exact z3.elim
       · rw [List.getElem?_set_ne e] at z1
         exact ⟨r', v', by rw [List.getElem?_set_ne e]; exact z1, z2, z3⟩)
    | (obtain ⟨r', v', z1, z2, z3⟩ := hk
       by_cases e : i = k
       · subst e
         rw [List.getElem?_set_self hi] at z1
         cases z1
         exact z3.elim
       · rw [List.getElem?_set_ne e] at z1
         exact ⟨r', v', by rw [List.getElem?_set_ne e]; exact z1, z2, z3⟩)
end
def VR (K : PySem.W.Frag) (F H : Hp) (v : V) (r : RV) : Prop := View K F H v r ∨ ∃ pw t ps, r = .tr pw t ∧ Tr K F H v t ps ∧ ps.Nodup
def PostO (K : PySem.W.Frag) (W : XK) (pl : Pl) (F0 H0 : Hp) (o : Out) (D : Ends) : Prop := match o with
  | .nx env => ∀ F σ H, StOk K pl F0 H0 F H env σ → D.nx σ H
  | .rt r => (∀ v F H, Ext F0 H0 F H → VR K F H v r → New r v H0 H → D.rt v H) ∧ ∀ d, r = .xr d → ∀ F H cv dd, Ext F0 H0 F H → Xat K F cv dd d → W cv dd H
  | .bk env => ∀ F σ H, StOk K pl F0 H0 F H env σ → D.bk σ H
  | .ct env => ∀ F σ H, StOk K pl F0 H0 F H env σ → D.ct σ H
  | .re r env => (∀ v F σ H, StOk K pl F0 H0 F H env σ → View K F H v r → (∀ p, Foot H r v p → H0 p = none ∧ ∀ j, ¬ OwnAt H env σ j p) → D.rt v H) ∧ ∀ d, r = .xr d → ∀ F σ H cv dd, StOk K pl F0 H0 F H env σ → Xat K F cv dd d → W cv dd H
def tS (K : PySem.W.Frag) (W : XK) (c : Cl) (s : Sm) : TS := fun D σ H => ∃ pl F0 H0 F env o, StOk K pl F0 H0 F H env σ ∧ exS c s env = some o ∧ PostO K W pl F0 H0 o D
def tSs (K : PySem.W.Frag) (W : XK) (c : Cl) (s : Sms) : TS := fun D σ H => ∃ pl F0 H0 F env o, StOk K pl F0 H0 F H env σ ∧ exSs c s env = some o ∧ PostO K W pl F0 H0 o D
theorem odAt_eq {env : Ev} {i : Nat} {kvs : List (PyData × PyData)} (h : odAt env i = some kvs) : env[i]? = some (some (.od kvs)) := by
  unfold odAt at h
  obtain ⟨r, h1, h2⟩ := bnd h
  cases r with
  | od d =>
    cases h2
    cases q : env[i]? with
    | none => rw [q] at h1; cases h1
    | some o => rw [q] at h1; exact congrArg some h1
  | _ => cases h2
theorem StOk.od {K : PySem.W.Frag} {pl : Pl} {F0 H0 F H : Hp} {env : Ev} {σ : L2.St} (st : StOk K pl F0 H0 F H env σ) {i : Nat} {kvs : List (PyData × PyData)} (h : odAt env i = some kvs) : ∃ p, env[i]? = some (some (.od kvs)) ∧ σ[i]? = some (some (.ref p)) ∧ F p = none ∧
    ((∃ (ob : Obj) (kv : List (Int × V)) (ds : List PyData), H p = some (dkO p ob kv) ∧ RpAll K F (kv.map fun x => x.2) ds ∧ kvs = dkD (kv.map fun x => x.1) ds) ∨
     ∃ (ob : Obj) (kv : TK) (ds : List PyData), H p = some (dtO p ob kv) ∧ KeysN K F kv ∧ RpAll K F (kv.map fun x => x.2.2) ds ∧ kvs = dtD (kv.map fun x => x.1) ds) := by
  have h1 := odAt_eq h
  obtain ⟨v, h2, w⟩ := st.ok.at_ i _ h1 rfl
  cases w with
  | own f e q =>
    cases q with
    | dK ra => exact ⟨_, h1, h2, f, .inl ⟨_, _, _, e, ra, rfl⟩⟩
    | dT kn ra => exact ⟨_, h1, h2, f, .inr ⟨_, _, _, e, kn, ra, rfl⟩⟩
theorem dPut_k {rest kvs' : List (PyData × PyData)} {k d : PyData} (h : dPut ((.none, .bool false) :: rest) k d = some kvs') : ∃ n, k = .int n ∧ kvs' = (.none, .bool false) :: putD (fun z => eqI z n) rest (.int n) d := by
  cases k with
  | int n => cases h; exact ⟨n, rfl, rfl⟩
  | _ => cases h
theorem dPut_t {rest kvs' : List (PyData × PyData)} {k d : PyData} (h : dPut ((.none, .bool true) :: rest) k d = some kvs') : ∃ ks, k = keyT ks ∧ kvs' = (.none, .bool true) :: putD (fun z => eqT z ks) rest (keyT ks) d := by
  cases k with
  | tuple ds =>
    obtain ⟨ks, hk, rfl⟩ := mpd (show (intsOf ds).map _ = some kvs' from h)
    obtain rfl := intsOf_eq hk
    exact ⟨ks, rfl, rfl⟩
  | _ => cases h
theorem PSet.or {X : Cx} {r r' : TSet} (h : PSet X r) (h' : PSet X r') : PSet X (fun o i v H Q => r o i v H Q ∨ r' o i v H Q) := fun pins s σ H o i v ov iv u Q I ro ri rv q => q.elim (h pins s σ H o i v ov iv u Q I ro ri rv) (h' pins s σ H o i v ov iv u Q I ro ri rv)
theorem rep_k {K : PySem.W.Frag} {F : Hp} {i : Int} {v : V} {d : PyData} (rv : Rp K F v d) : ∀ {kvs : List (Int × V)} {ds : List PyData}, RpAll K F (kvs.map fun x => x.2) ds → ∃ ds', RpAll K F ((kvs.map fun kv => if kv.1 = i then (kv.1, v) else kv).map fun x => x.2) ds' ∧
    ((((kvs.map fun x => x.1).map PyData.int).zip ds).map fun p => if eqI p.1 i then (p.1, d) else p) = (((kvs.map fun kv => if kv.1 = i then (kv.1, v) else kv).map fun x => x.1).map PyData.int).zip ds'
  | [], _, .nil => ⟨[], .nil, rfl⟩
  | p :: r, d0 :: ds, .cons h t => by
    obtain ⟨ds', h1, h2⟩ := rep_k (i := i) rv t
    have e : eqI (.int p.1) i = decide (p.1 = i) := rfl
    by_cases c : p.1 = i
    · refine ⟨d :: ds', ?_, ?_⟩
      · rw [List.map_cons, List.map_cons, if_pos c]; exact .cons rv h1
      · simp only [List.map_cons, List.zip_cons_cons, e, decide_eq_true c, if_pos c, if_true]
        rw [h2]
    · refine ⟨d0 :: ds', ?_, ?_⟩
      · rw [List.map_cons, List.map_cons, if_neg c]; exact .cons h h1
      · simp only [List.map_cons, List.zip_cons_cons, e, decide_eq_false c, if_neg c]
        rw [h2]
        rfl
theorem put_k {K : PySem.W.Frag} {F : Hp} {i : Int} {v : V} {d : PyData} {kvs : List (Int × V)} {ds : List PyData} (ra : RpAll K F (kvs.map fun x => x.2) ds) (rv : Rp K F v d) : ∃ ds', RpAll K F ((putK kvs i v).map fun x => x.2) ds' ∧
    putD (fun z => eqI z i) (((kvs.map fun x => x.1).map PyData.int).zip ds) (.int i) d = (((putK kvs i v).map fun x => x.1).map PyData.int).zip ds' := by
  have e := (look_k (i := i) ra).isSome
  unfold putK putD
  rw [valV_any, e]
  by_cases c : (lookD (fun z => eqI z i) (((kvs.map fun x => x.1).map PyData.int).zip ds)).isSome = true
  · rw [if_pos c, if_pos c]
    exact rep_k rv ra
  · rw [if_neg c, if_neg c]
    refine ⟨ds ++ [d], by rw [List.map_append]; exact ra.append (.cons rv .nil), ?_⟩
    rw [List.map_append, List.map_append, List.zip_append (by rw [List.length_map, List.length_map, ← ra.length, List.length_map])]
    rfl
theorem rep_t {K : PySem.W.Frag} {F : Hp} {i : List Int} {v : V} {d : PyData} (rv : Rp K F v d) : ∀ {kvs : TK} {ds : List PyData}, RpAll K F (kvs.map fun x => x.2.2) ds → ∃ ds', RpAll K F ((kvs.map (putAtT i v)).map fun x => x.2.2) ds' ∧
    ((((kvs.map fun x => x.1).map keyT).zip ds).map fun p => if eqT p.1 i then (p.1, d) else p) = (((kvs.map (putAtT i v)).map fun x => x.1).map keyT).zip ds'
  | [], _, .nil => ⟨[], .nil, rfl⟩
  | p :: r, d0 :: ds, .cons h t => by
    obtain ⟨ds', h1, h2⟩ := rep_t (i := i) rv t
    have e : eqT (keyT p.1) i = decide (p.1 = i) := eqT_key _ _
    by_cases c : p.1 = i
    · have c2 : putAtT i v p = (p.1, p.2.1, v) := if_pos c
      refine ⟨d :: ds', ?_, ?_⟩
      · rw [List.map_cons, List.map_cons, c2]; exact .cons rv h1
      · simp only [List.map_cons, List.zip_cons_cons, e, decide_eq_true c, c2, if_true]
        rw [h2]
    · have c2 : putAtT i v p = p := if_neg c
      refine ⟨d0 :: ds', ?_, ?_⟩
      · rw [List.map_cons, List.map_cons, c2]; exact .cons h h1
      · simp only [List.map_cons, List.zip_cons_cons, e, decide_eq_false c, c2]
        rw [h2]
        rfl
theorem put_t {K : PySem.W.Frag} {F : Hp} {i : List Int} {b : Addr} {v : V} {d : PyData} {kvs : TK} {ds : List PyData} (ra : RpAll K F (kvs.map fun x => x.2.2) ds) (rv : Rp K F v d) : ∃ ds', RpAll K F ((putT kvs i b v).map fun x => x.2.2) ds' ∧
    putD (fun z => eqT z i) (((kvs.map fun x => x.1).map keyT).zip ds) (keyT i) d = (((putT kvs i b v).map fun x => x.1).map keyT).zip ds' := by
  have e := (look_t (i := i) ra).isSome
  rw [Option.isSome_map] at e
  unfold putT putD
  rw [e]
  by_cases c : (lookD (fun z => eqT z i) (((kvs.map fun x => x.1).map keyT).zip ds)).isSome = true
  · rw [if_pos c, if_pos c]
    exact rep_t rv ra
  · rw [if_neg c, if_neg c]
    refine ⟨ds ++ [d], by rw [List.map_append]; exact ra.append (.cons rv .nil), ?_⟩
    rw [List.map_append, List.map_append, List.zip_append (by rw [List.length_map, List.length_map, ← ra.length, List.length_map])]
    rfl
theorem keys_put {K : PySem.W.Frag} {F : Hp} {kvs : TK} {k : List Int} {b : Addr} {v : V} (h : KeysN K F kvs) (t : TupN K F b (k.map V.int)) : KeysN K F (putT kvs k b v) := fun x hx => by
  unfold putT at hx
  split at hx
  · obtain ⟨y, hy, rfl⟩ := List.mem_map.mp hx
    have := h y hy
    unfold putAtT
    split
    · exact this
    · exact this
  · rcases List.mem_append.mp hx with hx | hx
    · exact h x hx
    · have e : x = (k, b, v) := by simpa using hx
      rw [e]; exact t
theorem olAt_eq {env : Ev} {i : Nat} {ds : List PyData} (h : olAt env i = some ds) : env[i]? = some (some (.ol ds)) := by
  unfold olAt at h
  obtain ⟨r, h1, h2⟩ := bnd h
  split at h2
  · cases h2
    cases q : env[i]? with
    | none => rw [q] at h1; cases h1
    | some o => rw [q] at h1; exact congrArg some h1
  · cases h2
theorem StOk.ol {K : PySem.W.Frag} {pl : Pl} {F0 H0 F H : Hp} {env : Ev} {σ : L2.St} (st : StOk K pl F0 H0 F H env σ) {i : Nat} {ds : List PyData} (h : olAt env i = some ds) : ∃ p vs, env[i]? = some (some (.ol ds)) ∧ σ[i]? = some (some (.ref p)) ∧ F p = none ∧ H p = some (.lst vs) ∧ RpAll K F vs ds := by
  have h1 := olAt_eq h
  obtain ⟨v, h2, w⟩ := st.ok.at_ i _ h1 rfl
  cases w with
  | own f e q =>
    cases q with
    | lst ra => exact ⟨_, _, h1, h2, f, e, ra⟩
theorem swap_no {e : Expr} (h : ∀ a b c d, e ≠ .ListComp a b c d) (h2 : ∀ a b c d, e ≠ .SetComp a b c d) (h3 : ∀ a b c d p, e ≠ .DictComp a b c d p) (t : Option Expr) (l : Nat) (env : Env) : swapsWith e t l env = pure false := by
  cases e with
  | ListComp a b c d => exact absurd rfl (h a b c d)
  | SetComp a b c d => exact absurd rfl (h2 a b c d)
  | DictComp a b c d p => exact absurd rfl (h3 a b c d p)
  | _ => rfl
theorem chk_comp {a : Ex} {s : Sx} {e : Expr} (h : chkE a s e = true) : (∀ x y z p, e ≠ .SetComp x y z p) ∧ (∀ x y z p q, e ≠ .DictComp x y z p q) ∧ ((∀ x y z p, e ≠ .ListComp x y z p) ∨ ∃ b tg it t own, a = .comp b tg it t own) := by
  cases e with
  | SetComp x y z p => cases a <;> first | (simp [chkE] at h; done) | (rename_i pp; cases pp <;> simp [chkE, chkP, chkV] at h)
  | DictComp x y z p q => cases a <;> first | (simp [chkE] at h; done) | (rename_i pp; cases pp <;> simp [chkE, chkP, chkV] at h)
  | ListComp x y z p =>
    refine ⟨(fun _ _ _ _ q => nomatch q), (fun _ _ _ _ _ q => nomatch q), .inr ?_⟩
    cases a <;> first | exact ⟨_, _, _, _, _, rfl⟩ | (simp [chkE] at h; done) | (rename_i pp; cases pp <;> simp [chkE, chkP, chkV] at h)
  | _ => exact ⟨(fun _ _ _ _ q => nomatch q), (fun _ _ _ _ _ q => nomatch q), .inl (fun _ _ _ _ q => nomatch q)⟩
section
variable {X : Cx} {s : Sx} {c : Cl}
theorem ps_asgN (C : CO X s c) {i : Nat} {x : Str} {a : Ex} {v : Expr} {px pos : Pos} (hi : s.N[i]? = some x) (hl : s.loc x = true) (h : chkE a s v = true) : PS X (.Assign [.Name x px] v pos) (tAsg (tE X.K c a) (gName i)) := by
  have hi' : X.N[i]? = some x := by rw [C.N]; exact hi
  obtain ⟨l1, l2⟩ := C.locv hl
  have P := (sndP a C h).pe
  obtain ⟨q1, q2, q3⟩ := chk_comp h
  rcases q3 with q3 | ⟨b, tg, it, t, own, rfl⟩
  · exact ps_set C.nd hi' l1 P (swap_no q3 q1 q2 _ _ _) l2
  · have hc := h
    unfold chkE at hc
    split at hc
    · rename_i elt tg' iter ifs kk scope p
      have sw : ∃ b, swapsWith (.ListComp elt [⟨tg', iter, ifs, kk⟩] scope p) (some (.Name x px)) pos.line X.env = pure b ∧ (b = true → X.env.scope.names.lookup x = some .local) := by
        refine ⟨_, rfl, fun e => ?_⟩
        simp only [Bool.and_eq_true, beq_iff_eq] at e
        exact e.1.1.2
      obtain ⟨b0, sw, hb⟩ := sw
      cases b0 with
      | false => exact ps_set C.nd hi' l1 P sw l2
      | true =>
        simp only [Bool.and_eq_true, decide_eq_true_eq] at hc
        obtain ⟨⟨⟨⟨⟨⟨h0, h1⟩, h2⟩, h3⟩, h4⟩, h5⟩, h6⟩ := hc
        subst h0
        refine PS.imp (ps_setLc (g := gS X.K tg) (tt := tTs X.K c t) (te := tE X.K c b) C.calm C.nd hi' (hb rfl) sw (sndI it C h3) (blkOk_by (own := ownN s own) (by rw [C.N, C.sc]; exact h1)) (fun s1 H A cl fp => pg_tg C.blk h4) (fun s1 H A cl fp => sndTs t C.blk h6) (fun s1 H A cl fp => (sndP b C.blk h5).pe) (set_of (chkI_plain h3) _)) fun D σ H h => ?_
        rw [ownN_map]
        exact comp_ok h2 h
    · cases hc
end
end Mn
namespace Mn
open PySem PySem.Spec PyProof.Rows L2
section
variable {K : PySem.W.Frag} {pl : Pl} {F0 H0 F H F' H' : Hp} {env : Ev} {σ : L2.St} {c : Cl}
theorem InAll.snoc {q : Addr} {vs : List V} {ds : List PyData} : ∀ {qs : List Addr} {dss : List (List PyData)}, InAll K F H qs dss → F q = none → H q = some (.lst vs) → RpAll K F vs ds → InAll K F H (qs ++ [q]) (dss ++ [ds])
  | _, _, .nil, f, h, r => .cons f h r .nil
  | _, _, .cons f' h' r' t, f, h, r => .cons f' h' r' (InAll.snoc t f h r)
theorem InAll.of : ∀ {qs : List Addr} {dss : List (List PyData)}, qs.length = dss.length → (∀ (k : Nat) q ds, qs[k]? = some q → dss[k]? = some ds → F q = none ∧ ∃ vs, H q = some (.lst vs) ∧ RpAll K F vs ds) → InAll K F H qs dss
  | [], [], _, _ => .nil
  | q :: qs, ds :: dss, e, h => by
    obtain ⟨h1, vs, h2, h3⟩ := h 0 q ds rfl rfl
    exact .cons h1 h2 h3 (InAll.of (by simpa using e) fun k q' ds' a b => h (k + 1) q' ds' (by simpa using a) (by simpa using b))
  | [], _ :: _, e, _ => by simp at e
  | _ :: _, [], e, _ => by simp at e
theorem StOk.add (st : StOk K pl F0 H0 F H env σ) {i : Nat} {v : V} {r : RV} (hi : env[i]? = some none) (hv : σ[i]? = some (some v)) (w : View K F H v r) (n : ∀ p, Foot H r v p → H0 p = none ∧ ∀ k, ¬ OwnAt H env σ k p) : StOk K pl F0 H0 F H (env.set i (some r)) σ := by
  have hlt : i < env.length := (List.getElem?_eq_some_iff.mp hi).1
  have key : ∀ j p, OwnAt H (env.set i (some r)) σ j p → (j = i ∧ Foot H r v p) ∨ OwnAt H env σ j p := fun j p ⟨r', u, h1, h2, h3⟩ => by
    by_cases e : i = j
    · subst e
      rw [List.getElem?_set_self hlt] at h1
      cases h1
      rw [hv] at h2
      cases h2
      exact .inl ⟨rfl, h3⟩
    · rw [List.getElem?_set_ne e] at h1
      exact .inr ⟨r', u, h1, h2, h3⟩
  have kps : Keeps env (env.set i (some r)) σ σ := Keeps.set0 fun q e => by cases e; exact w.pl
  refine ⟨st.ext, ⟨st.ok.sub, by rw [List.length_set]; exact st.ok.len, fun j r' hj hpl => ?_, st.ok.tr_.keeps kps⟩, fun j p h => ?_, fun j k p h1 h2 => ?_, st.pin.keeps kps⟩
  · by_cases e : i = j
    · subst e
      rw [List.getElem?_set_self hlt] at hj
      cases hj
      exact ⟨v, hv, w⟩
    · rw [List.getElem?_set_ne e] at hj
      exact st.ok.at_ j r' hj hpl
  · rcases key j p h with ⟨_, z⟩ | z
    · exact (n p z).1
    · exact st.own j p z
  · rcases key j p h1 with ⟨e1, z1⟩ | z1
    · rcases key k p h2 with ⟨e2, z2⟩ | z2
      · rw [e1, e2]
      · exact absurd z2 ((n p z1).2 k)
    · rcases key k p h2 with ⟨e2, z2⟩ | z2
      · exact absurd z1 ((n p z2).2 j)
      · exact st.sep j k p z1 z2
open Classical in
noncomputable def restH (H : Hp) (env : Ev) (σ : L2.St) : Hp := fun b => if ∃ k, OwnAt H env σ k b then none else H b
end
end Mn
namespace Mn
open PySem PySem.Spec PyProof.Rows L2
section
variable {K : PySem.W.Frag} {pl : Pl} {F0 H0 F H F' H' : Hp} {env : Ev} {σ : L2.St} {c : Cl}
theorem InAll.keep : ∀ {qs : List Addr} {dss : List (List PyData)}, InAll K F H qs dss → (∀ q ∈ qs, H' q = H q) → InAll K F H' qs dss
  | _, _, .nil, _ => .nil
  | _, _, .cons f h ra t, n => .cons f (by rw [n _ (by simp)]; exact h) ra (InAll.keep t fun q hq => n q (by simp [hq]))
theorem View.keep {v : V} {r : RV} (w : View K F H v r) (ke : ∀ b, Foot H r v b → H' b = H b) : View K F H' v r := by
  cases w with
  | fz q => exact .fz q
  | own f e q =>
    cases q with
    | lst ra => exact .own f (by rw [ke _ rfl]; exact e) (.lst ra)
    | dK ra => exact .own f (by rw [ke _ rfl]; exact e) (.dK ra)
    | dT kn ra => exact .own f (by rw [ke _ rfl]; exact e) (.dT kn ra)
    | on a nd np => exact .own f (by rw [ke _ (.inl rfl)]; exact e) (.on (a.keep fun q hq => ke q (.inr ⟨_, _, rfl, e, List.mem_map.mpr ⟨q, hq, rfl⟩⟩)) nd np)
theorem OwnAt.keep (ok : EnvOk K F H env σ) {i : Nat} (ke : ∀ b, OwnAt H env σ i b → H' b = H b) {p : Addr} (h : OwnAt H' env σ i p) : OwnAt H env σ i p := by
  obtain ⟨r, v, h1, h2, h3⟩ := h
  refine ⟨r, v, h1, h2, ?_⟩
  cases r with
  | on d =>
    rcases h3 with h3 | ⟨q, vs, y1, y2, y3⟩
    · exact .inl h3
    · subst y1
      rw [ke q ⟨_, _, h1, h2, .inl rfl⟩] at y2
      exact .inr ⟨_, _, rfl, y2, y3⟩
  | tr pw t =>
    obtain ⟨v', ps, y1, y2, _⟩ := ok.tr_.tr i pw t h1
    rw [h2] at y1
    cases y1
    have y3 : Tr K F H' v t ps := y2.other (ps := ps) (fun b hb => ke b ⟨_, v, h1, h2, (foot_tr y2).mpr hb⟩) fun b hb => hb
    exact (foot_tr y2).mpr ((foot_tr y3).mp h3)
  | _ => exact h3
theorem StOk.trW (st : StOk K pl F0 H0 F H env σ) {i : Nat} {pw : List (List Stp)} {t t' : OT} {v : V} {ps qs : List Addr} (h1 : env[i]? = some (some (.tr pw t))) (h2 : σ[i]? = some (some v)) (tr : Tr K F H v t ps) (tr' : Tr K F H' v t' qs) (nd : qs.Nodup)
    (hq : ∀ b ∈ qs, b ∈ ps ∨ (F b = none ∧ H0 b = none ∧ ∀ j, ¬ OwnAt H env σ j b)) (oth : ∀ b, b ∉ ps → b ∉ qs → H' b = H b)
    (hal : ∀ (j : Nat) w u x, env[j]? = some (some (.al i w)) → t.sub w = some u → u.isNd = true → walkH H v w = some x → ∃ u', t'.sub w = some u' ∧ u'.isNd = true ∧ walkH H' v w = some x)
    (hpn : ∀ w ∈ pw, ∀ u x, t.sub w = some u → u.isNd = true → walkH H v w = some x → ∃ u', t'.sub w = some u' ∧ u'.isNd = true ∧ walkH H' v w = some x) :
    StOk K pl F0 H0 F H' (env.set i (some (.tr pw t'))) σ := by
  have hi : i < env.length := (List.getElem?_eq_some_iff.mp h1).1
  have oq : ∀ b ∈ ps, OwnAt H env σ i b := fun b hb => ⟨_, _, h1, h2, (foot_tr tr).mpr hb⟩
  have away : ∀ j b, OwnAt H env σ j b → j ≠ i → H' b = H b := fun j b hb hj => oth b (fun z => hj (st.sep j i b hb (oq b z))) fun z => by
    rcases hq b z with y | ⟨_, _, y⟩
    · exact hj (st.sep j i b hb (oq b y))
    · exact y j hb
  have keep : ∀ b o, F b = some o → H' b = H b := fun b o hb => oth b (fun z => by
    have := (tr.there b z).1
    rw [hb] at this; cases this) (fun z => by
    have := (tr'.there b z).1
    rw [hb] at this; cases this)
  have h0 : ∀ b o, H0 b = some o → H' b = H b := fun b o hb => oth b (fun z => by rw [st.own i b (oq b z)] at hb; cases hb) (fun z => by
    rcases hq b z with y | ⟨_, y, _⟩
    · rw [st.own i b (oq b y)] at hb; cases hb
    · rw [y] at hb; cases hb)
  have key : ∀ j b, OwnAt H' (env.set i (some (.tr pw t'))) σ j b → (j = i ∧ b ∈ qs) ∨ (j ≠ i ∧ OwnAt H env σ j b) := fun j b hb => by
    by_cases ej : i = j
    · subst ej
      obtain ⟨r, u, z1, z2, z3⟩ := hb
      rw [List.getElem?_set_self hi] at z1
      cases z1
      rw [h2] at z2
      cases z2
      exact .inl ⟨rfl, (foot_tr tr').mp z3⟩
    · have ne : j ≠ i := fun z => ej z.symm
      obtain ⟨r, u, z1, z2, z3⟩ := hb
      rw [List.getElem?_set_ne ej] at z1
      exact .inr ⟨ne, OwnAt.keep st.ok (fun b hb => away j b hb ne) ⟨r, u, z1, z2, z3⟩⟩
  refine ⟨⟨st.ext.fr, fun b o hb => by rw [keep b o hb]; exact st.ext.sub _ _ hb, fun b o hb => by rw [h0 b o hb]; exact st.ext.same _ _ hb, st.ext.new⟩, ⟨fun b o hb => by rw [keep b o hb]; exact st.ok.sub _ _ hb, by rw [List.length_set]; exact st.ok.len, fun j r hj hp => ?_, ⟨fun j pw2 u hj => ?_, fun j k w pw2 u hj hk => ?_⟩⟩, fun j b hb => ?_, fun j k b hj hk => ?_, fun j pw2 u hj => ?_⟩
  · have ej : i ≠ j := fun e => by
      subst e
      rw [List.getElem?_set_self hi] at hj
      cases hj
      cases hp
    rw [List.getElem?_set_ne ej] at hj
    obtain ⟨x, z1, w⟩ := st.ok.at_ j r hj hp
    exact ⟨x, z1, w.keep fun b f => away j b ⟨r, x, hj, z1, f⟩ fun z => ej z.symm⟩
  · by_cases ej : i = j
    · subst ej
      rw [List.getElem?_set_self hi] at hj
      cases hj
      exact ⟨v, qs, h2, tr', nd⟩
    · rw [List.getElem?_set_ne ej] at hj
      obtain ⟨x, ps2, z1, z2, z3⟩ := st.ok.tr_.tr j pw2 u hj
      exact ⟨x, ps2, z1, z2.other (ps := ps2) (fun b hb => away j b ⟨_, x, hj, z1, (foot_tr z2).mpr hb⟩ fun z => ej z.symm) (fun b hb => hb), z3⟩
  · have ej : i ≠ j := fun e => by
      subst e
      rw [List.getElem?_set_self hi] at hj
      cases hj
    rw [List.getElem?_set_ne ej] at hj
    by_cases ek : i = k
    · subst ek
      rw [List.getElem?_set_self hi] at hk
      cases hk
      obtain ⟨v', x, u0, g1, g2, g3, g4, g5⟩ := st.ok.tr_.al j i w _ _ hj h1
      rw [h2] at g1
      cases g1
      obtain ⟨u', g6, g7, g8⟩ := hal j w u0 x hj g3 g4 g5
      exact ⟨v, x, u', h2, g2, g6, g7, g8⟩
    · rw [List.getElem?_set_ne ek] at hk
      obtain ⟨v', x, u0, g1, g2, g3, g4, g5⟩ := st.ok.tr_.al j k w _ _ hj hk
      obtain ⟨v2, ps2, z1, z2, _⟩ := st.ok.tr_.tr k _ _ hk
      rw [g1] at z1
      cases z1
      exact ⟨v', x, u0, g1, g2, g3, g4, z2.walk_other g3 (fun b hb => away k b ⟨_, v', hk, g1, (foot_tr z2).mpr hb⟩ fun z => ek z.symm) g5⟩
  · rcases key j b hb with ⟨_, z⟩ | ⟨_, z⟩
    · rcases hq b z with y | ⟨_, y, _⟩
      · exact st.own i b (oq b y)
      · exact y
    · exact st.own j b z
  · have cross : ∀ k, b ∈ qs → k ≠ i → OwnAt H env σ k b → False := fun k z hk y => by
      rcases hq b z with x | ⟨_, _, x⟩
      · exact hk (st.sep k i b y (oq b x))
      · exact x k y
    rcases key j b hj with ⟨ej, z⟩ | ⟨ej, z⟩
    · rcases key k b hk with ⟨ek, y⟩ | ⟨ek, y⟩
      · rw [ej, ek]
      · exact (cross k z ek y).elim
    · rcases key k b hk with ⟨ek, y⟩ | ⟨ek, y⟩
      · exact (cross j y ej z).elim
      · exact st.sep j k b z y
  · by_cases ej : i = j
    · subst ej
      rw [List.getElem?_set_self hi] at hj
      cases hj
      obtain ⟨v', g1, g2⟩ := st.pin i _ _ h1
      rw [h2] at g1
      cases g1
      refine ⟨v, h2, fun n w hw => ?_⟩
      obtain ⟨a, u0, g3, g4, g5, g6⟩ := g2 n w hw
      obtain ⟨u', g7, g8, g9⟩ := hpn w (List.mem_of_getElem? hw) u0 a g4 g5 g6
      exact ⟨a, u', g3, g7, g8, g9⟩
    · rw [List.getElem?_set_ne ej] at hj
      obtain ⟨x, g1, g2⟩ := st.pin j _ _ hj
      obtain ⟨v2, ps2, z1, z2, _⟩ := st.ok.tr_.tr j _ _ hj
      rw [g1] at z1
      cases z1
      refine ⟨x, g1, fun n w hw => ?_⟩
      obtain ⟨a, u0, g3, g4, g5, g6⟩ := g2 n w hw
      exact ⟨a, u0, g3, g4, g5, z2.walk_other g4 (fun b hb => away j b ⟨_, x, hj, g1, (foot_tr z2).mpr hb⟩ fun z => ej z.symm) g6⟩
end
end Mn
namespace Mn
open PySem PySem.Spec PyProof.Rows L2
theorem stepK_inj {k : Kd} {s s' : Stp} {j : Nat} (h : stepK k s = some j) (h' : stepK k s' = some j) : s = s' := by
  cases k with
  | ls =>
    cases s with
    | ix a =>
      cases s' with
      | ix b => cases h; cases h'; rfl
      | fl g => cases h'
    | fl f => cases h
  | tp =>
    cases s with
    | ix a =>
      cases s' with
      | ix b => cases h; cases h'; rfl
      | fl g => cases h'
    | fl f => cases h
  | ob nm fs =>
    cases s with
    | ix a => cases h
    | fl f =>
      cases s' with
      | ix b => cases h'
      | fl g =>
        have h : fs.findIdx? (fun x => x == f) = some j := h
        have h' : fs.findIdx? (fun x => x == g) = some j := h'
        obtain ⟨l1, e1, _⟩ := List.findIdx?_eq_some_iff_getElem.mp h
        obtain ⟨l2, e2, _⟩ := List.findIdx?_eq_some_iff_getElem.mp h'
        have e1 := eq_of_beq e1
        have e2 := eq_of_beq e2
        rw [← e1, ← e2]
theorem stepH_keep {H H' : Hp} {v : V} {s : Stp} (h : ∀ p, v = .ref p → H' p = H p) : stepH H' v s = stepH H v s := by
  cases v with
  | ref p =>
    have e := h p rfl
    cases s with
    | ix k =>
      show (match H' p with | some (.lst vs) => vs[k]? | some (.frz _ (.tup vs)) => vs[k]? | _ => none) = (match H p with | some (.lst vs) => vs[k]? | some (.frz _ (.tup vs)) => vs[k]? | _ => none)
      rw [e]
    | fl f =>
      show (match H' p with | some (.ins _ _ fs) => fs.lookup f | _ => none) = (match H p with | some (.ins _ _ fs) => fs.lookup f | _ => none)
      rw [e]
  | _ => cases s <;> rfl
section
variable {K : PySem.W.Frag} {pl : Pl} {F0 H0 F H F' H' : Hp} {env : Ev} {σ : L2.St} {c : Cl}
theorem TrAll.two : ∀ {vs : List V} {ts : List OT} {ps : List Addr} {i j : Nat} {t u : OT}, TrAll K F H vs ts ps → ps.Nodup → ts[i]? = some t → ts[j]? = some u → i ≠ j → ∃ v w qs qs', vs[i]? = some v ∧ vs[j]? = some w ∧ Tr K F H v t qs ∧ Tr K F H w u qs' ∧ ∀ b ∈ qs, b ∉ qs'
  | _, _, _, i, j, t, u, .nil, _, h, _, _ => by simp at h
  | _, _, _, 0, 0, t, u, .cons r s, _, _, _, n => absurd rfl n
  | _, _, _, 0, j + 1, t, u, .cons (v := v) r s, nd, h, h', n => by
    simp at h
    subst h
    obtain ⟨w, p1, p', p2, g1, g2, g3, _⟩ := s.nth (j := j) (by simpa using h')
    refine ⟨v, w, _, p', rfl, by simpa using g1, r, g2, fun b hb hb' => ?_⟩
    rw [g3] at nd
    exact (List.nodup_append.mp nd).2.2 b hb b (by simp [hb']) rfl
  | _, _, _, i + 1, 0, t, u, .cons (v := v) r s, nd, h, h', n => by
    simp at h'
    subst h'
    obtain ⟨w, p1, p', p2, g1, g2, g3, _⟩ := s.nth (j := i) (by simpa using h)
    refine ⟨w, v, p', _, by simpa using g1, rfl, g2, r, fun b hb hb' => ?_⟩
    rw [g3] at nd
    exact (List.nodup_append.mp nd).2.2 b hb' b (by simp [hb]) rfl
  | _, _, _, i + 1, j + 1, t, u, .cons r s, nd, h, h', n => by
    obtain ⟨v, w, qs, qs', h1, h2, h3, h4, h5⟩ := TrAll.two (i := i) (j := j) s (List.nodup_append.mp nd).2.1 (by simpa using h) (by simpa using h') (fun e => n (by rw [e]))
    exact ⟨v, w, qs, qs', by simpa using h1, by simpa using h2, h3, h4, h5⟩
theorem Tr.two {v : V} {k : Kd} {ts : List OT} {ps : List Addr} {s s' : Stp} {j j' : Nat} {t u : OT} (a : Tr K F H v (.nd k ts) ps) (nd : ps.Nodup) (hs : stepK k s = some j) (ht : ts[j]? = some t) (hs' : stepK k s' = some j') (hu : ts[j']? = some u) (ne : j ≠ j') :
    ∃ w w' qs qs', stepH H v s = some w ∧ stepH H v s' = some w' ∧ Tr K F H w t qs ∧ Tr K F H w' u qs' ∧ ∀ b ∈ qs, b ∉ qs' := by
  generalize e : OT.nd k ts = t0 at a
  cases a with
  | lf _ => cases e
  | dk _ _ _ => cases e
  | @ls p vs ts' ps f h a =>
    cases e
    obtain ⟨x, y, qs, qs', g1, g2, g3, g4, g5⟩ := a.two (List.nodup_cons.mp nd).2 ht hu ne
    cases s with
    | fl f => cases hs
    | ix i =>
      cases hs
      cases s' with
      | fl f => cases hs'
      | ix i' =>
        cases hs'
        refine ⟨x, y, qs, qs', ?_, ?_, g3, g4, g5⟩
        · show (match H p with | some (.lst vs) => vs[j]? | some (.frz _ (.tup vs)) => vs[j]? | _ => none) = _
          rw [h]; exact g1
        · show (match H p with | some (.lst vs) => vs[j']? | some (.frz _ (.tup vs)) => vs[j']? | _ => none) = _
          rw [h]; exact g2
  | @tp p o vs ts' ps f h g a =>
    cases e
    obtain ⟨x, y, qs, qs', g1, g2, g3, g4, g5⟩ := a.two (List.nodup_cons.mp nd).2 ht hu ne
    cases s with
    | fl f => cases hs
    | ix i =>
      cases hs
      cases s' with
      | fl f => cases hs'
      | ix i' =>
        cases hs'
        refine ⟨x, y, qs, qs', ?_, ?_, g3, g4, g5⟩
        · show (match H p with | some (.lst vs) => vs[j]? | some (.frz _ (.tup vs)) => vs[j]? | _ => none) = _
          rw [h]; exact g1
        · show (match H p with | some (.lst vs) => vs[j']? | some (.frz _ (.tup vs)) => vs[j']? | _ => none) = _
          rw [h]; exact g2
  | @ob p C dx nm fvs ts' ps f f2 h h2 c a =>
    cases e
    obtain ⟨x, y, qs, qs', g1, g2, g3, g4, g5⟩ := a.two (List.nodup_cons.mp (List.nodup_cons.mp nd).2).2 ht hu ne
    cases s with
    | ix i => cases hs
    | fl f0 =>
      cases s' with
      | ix i => cases hs'
      | fl f1 =>
        obtain ⟨x2, l1, l2⟩ := lookup_at hs
        obtain ⟨y2, l3, l4⟩ := lookup_at hs'
        rw [l2] at g1
        cases g1
        rw [l4] at g2
        cases g2
        refine ⟨x, y, qs, qs', ?_, ?_, g3, g4, g5⟩
        · show (match H p with | some (.ins _ _ fs) => fs.lookup f0 | _ => none) = _
          rw [h]; exact l1
        · show (match H p with | some (.ins _ _ fs) => fs.lookup f1 | _ => none) = _
          rw [h]; exact l3
theorem Tr.within {v x : V} {t u : OT} {w : List Stp} {ps qs : List Addr} (a : Tr K F H v t ps) (h : t.sub w = some u) (hw : walkH H v w = some x) (b : Tr K F H x u qs) : ∀ p ∈ qs, p ∈ ps := by
  obtain ⟨y, p1, p', p2, g1, g2, g3, _⟩ := a.at_ h
  rw [hw] at g1
  cases g1
  rw [← g2.det b]
  intro p hp
  rw [g3]
  simp [hp]
theorem Tr.beside : ∀ {w w' : List Stp} {v x y : V} {t t0 u0 u : OT} {ps ps0 : List Addr}, Tr K F H v t ps → ps.Nodup → t.sub w = some t0 → walkH H v w = some x → Tr K F H x t0 ps0 → (∀ b ∈ ps, b ∉ ps0 → H' b = H b) → t.sub w' = some u0 → u0.isNd = true → walkH H v w' = some y → (pre w w' = false ∨ (w' = w ∧ u.isNd = true)) →
    ∃ u', (t.put w u).sub w' = some u' ∧ u'.isNd = true ∧ walkH H' v w' = some y
  | [], w', v, x, y, t, t0, u0, u, ps, ps0, a, nd, h, hw, a0, ke, h', n', hw', d => by
    rcases d with d | ⟨rfl, d⟩
    · unfold pre at d; rw [List.isPrefixOf_nil_left] at d; cases d
    · cases hw'
      exact ⟨u, rfl, d, rfl⟩
  | s :: r, w', v, x, y, t, t0, u0, u, ps, ps0, a, nd, h, hw, a0, ke, h', n', hw', d => by
    cases t with
    | lf d => cases h
    | dk ks ds => cases h
    | nd k ts =>
      obtain ⟨j, h1, h⟩ := Option.bind_eq_some_iff.mp (show (stepK k s).bind (fun j => (ts[j]?).bind fun u => u.sub r) = some t0 from h)
      obtain ⟨t', h2, h⟩ := Option.bind_eq_some_iff.mp h
      obtain ⟨v1, p1, p', p2, e1, e2, e3, e4, _⟩ := a.step h1 h2
      have hw1 : walkH H v1 r = some x := by
        have : (stepH H v s).bind (fun u => walkH H u r) = some x := hw
        rw [e1] at this
        exact this
      have in0 : ∀ p ∈ ps0, p ∈ p' := e2.within h hw1 a0
      have hroot : ∀ p, v = .ref p → H' p = H p := fun p e => by
        have hp := e4 p e
        refine ke p (by rw [e3]; simp [hp]) fun z => ?_
        rw [e3] at nd
        exact (List.nodup_append.mp (List.nodup_append.mp nd).1).2.2 p hp p (in0 p z) rfl
      have hput : (OT.nd k ts).put (s :: r) u = .nd k (ts.set j (t'.put r u)) := by
        show (match stepK k s with | some j => (match ts[j]? with | some x => OT.nd k (ts.set j (x.put r u)) | none => OT.nd k ts) | none => OT.nd k ts) = _
        rw [h1]
        dsimp only
        rw [h2]
      rw [hput]
      cases w' with
      | nil =>
        cases hw'
        exact ⟨_, rfl, rfl, rfl⟩
      | cons s' r' =>
        obtain ⟨j', g1, g⟩ := Option.bind_eq_some_iff.mp (show (stepK k s').bind (fun j => (ts[j]?).bind fun u => u.sub r') = some u0 from h')
        obtain ⟨t2, g2, g⟩ := Option.bind_eq_some_iff.mp g
        by_cases es : s = s'
        · subst es
          rw [h1] at g1
          cases g1
          rw [h2] at g2
          cases g2
          have hw2 : walkH H v1 r' = some y := by
            have : (stepH H v s).bind (fun u => walkH H u r') = some y := hw'
            rw [e1] at this
            exact this
          have nd1 : p'.Nodup := by
            rw [e3] at nd
            exact (List.nodup_append.mp (List.nodup_append.mp nd).1).2.1
          obtain ⟨u', q1, q2, q3⟩ := Tr.beside (w := r) (w' := r') (u := u) e2 nd1 h hw1 a0 (fun b hb hn => ke b (by rw [e3]; simp [hb]) hn) g n' hw2 (by
            rcases d with d | ⟨d, z⟩
            · refine .inl ?_
              unfold pre at d ⊢
              rw [List.isPrefixOf_cons₂] at d
              simpa using d
            · cases d; exact .inr ⟨rfl, z⟩)
          refine ⟨u', ?_, q2, ?_⟩
          · show (stepK k s).bind (fun j' => ((ts.set j (t'.put r u))[j']?).bind fun u => u.sub r') = some u'
            rw [h1]
            show ((ts.set j (t'.put r u))[j]?).bind _ = _
            rw [List.getElem?_set_self (List.getElem?_eq_some_iff.mp h2).1]
            exact q1
          · show (stepH H' v s).bind _ = _
            rw [stepH_keep hroot, e1]
            exact q3
        · have nej : j ≠ j' := fun e => es (stepK_inj h1 (by rw [e]; exact g1))
          obtain ⟨w1, w2, qs, qs', q1, q2, q3, q4, q5⟩ := a.two nd h1 h2 g1 g2 nej
          rw [e1] at q1
          cases q1
          have ep : p' = qs := e2.det q3
          subst ep
          have hw2 : walkH H w2 r' = some y := by
            have : (stepH H v s').bind (fun u => walkH H u r') = some y := hw'
            rw [q2] at this
            exact this
          have in2 : ∀ b ∈ qs', b ∈ ps := a.within (w := [s']) (by
            show (stepK k s').bind _ = _
            rw [g1]
            show (ts[j']?).bind _ = _
            rw [g2]
            rfl) (by
            show (stepH H v s').bind _ = _
            rw [q2]
            rfl) q4
          refine ⟨u0, ?_, n', ?_⟩
          · show (stepK k s').bind (fun i => ((ts.set j (t'.put r u))[i]?).bind fun u => u.sub r') = some u0
            rw [g1]
            show ((ts.set j (t'.put r u))[j']?).bind _ = _
            rw [List.getElem?_set_ne nej, g2]
            exact g
          · show (stepH H' v s').bind _ = _
            rw [stepH_keep hroot, q2]
            exact q4.walk_other g (fun b hb => ke b (in2 b hb) fun z => q5 b (in0 b z) hb) hw2
def named (env : Ev) (i : Nat) (w : List Stp) : Prop := (∃ j : Nat, env[j]? = some (some (.al i w))) ∨ ∃ pw t, env[i]? = some (some (.tr pw t)) ∧ w ∈ pw
theorem free_no {i : Nat} {w w' : List Stp} (h : free env i w = true) (n : named env i w') : pre w w' = false := by
  unfold free at h
  simp only [Bool.and_eq_true, List.all_eq_true] at h
  obtain ⟨h1, h2⟩ := h
  rcases n with ⟨j, e⟩ | ⟨pw, t, e, m⟩
  · have := h1 _ (List.mem_of_getElem? e)
    simpa using this
  · rw [e] at h2
    have := (List.all_eq_true.mp h2) _ m
    simpa using this
theorem OT.put_append {u : OT} : ∀ {w r : List Stp} {t : OT}, (t.put w u).sub (w ++ r) = if (t.sub w).isSome then u.sub r else none
  | [], r, t => rfl
  | s :: w, r, t => by
    cases t with
    | lf d => rfl
    | dk ks ds => rfl
    | nd k ts =>
      show ((match stepK k s with | some j => (match ts[j]? with | some x => OT.nd k (ts.set j (x.put w u)) | none => OT.nd k ts) | none => OT.nd k ts) : OT).sub (s :: (w ++ r)) = if ((stepK k s).bind (fun j => (ts[j]?).bind fun u => u.sub w)).isSome then _ else _
      cases h1 : stepK k s with
      | none =>
        dsimp only
        show (stepK k s).bind _ = _
        rw [h1]
        rfl
      | some j =>
        dsimp only
        cases h2 : ts[j]? with
        | none =>
          dsimp only
          show (stepK k s).bind (fun j => (ts[j]?).bind _) = _
          rw [h1]
          show (ts[j]?).bind _ = _
          rw [h2]
          rw [Option.bind_some, h2]
          rfl
        | some x =>
          dsimp only
          show (stepK k s).bind (fun i => ((ts.set j (x.put w u))[i]?).bind fun u => u.sub (w ++ r)) = _
          rw [h1]
          show ((ts.set j (x.put w u))[j]?).bind _ = _
          rw [List.getElem?_set_self (List.getElem?_eq_some_iff.mp h2).1]
          show (x.put w u).sub (w ++ r) = _
          rw [OT.put_append, Option.bind_some, h2]
          rfl
theorem StOk.putAt (st : StOk K pl F0 H0 F H env σ) {q : Nat × List Stp} {t0 u : OT} {x : V} {ps0 qs : List Addr} (hq : treeAt env q.1 q.2 = some t0) (hp : PlAt σ H q x) (nu : u.isNd = true) (tr0 : Tr K F H x t0 ps0) (tr' : Tr K F H' x u qs) (nd : qs.Nodup)
    (hqs : ∀ b ∈ qs, b ∈ ps0 ∨ (F b = none ∧ H0 b = none ∧ ∀ j, ¬ OwnAt H env σ j b)) (oth : ∀ b, b ∉ ps0 → b ∉ qs → H' b = H b)
    (blw : ∀ s r u0 y, t0.sub (s :: r) = some u0 → u0.isNd = true → walkH H x (s :: r) = some y → named env q.1 (q.2 ++ s :: r) → ∃ u', u.sub (s :: r) = some u' ∧ u'.isNd = true ∧ walkH H' x (s :: r) = some y) :
    ∃ env', setTree env q.1 q.2 u = some env' ∧ StOk K pl F0 H0 F H' env' σ := by
  obtain ⟨i, w⟩ := q
  dsimp only at hq blw
  unfold treeAt at hq
  obtain ⟨t, h1, h2⟩ := bnd hq
  obtain ⟨pw, h3⟩ := rootAt_eq h1
  obtain ⟨v, ps, h4, h5, h6⟩ := st.ok.tr_.tr _ _ _ h3
  obtain ⟨v', g1, g2⟩ := hp
  dsimp only at g1 g2 ⊢
  have e : v' = v := by
    have g1 : σ[i]? = some (some v') := g1
    have h4 : σ[i]? = some (some v) := h4
    rw [h4] at g1
    cases g1
    rfl
  subst e
  obtain ⟨x', p1, p', p2, k1, k2, k3, k4⟩ := h5.at_ h2
  rw [g2] at k1
  cases k1
  have ep := tr0.det k2
  subst ep
  have nd1 := h6
  rw [k3] at nd1
  have dj1 : ∀ b ∈ p1, b ∉ ps0 := fun b hb hz => (List.nodup_append.mp (List.nodup_append.mp nd1).1).2.2 b hb b hz rfl
  have dj2 : ∀ b ∈ p2, b ∉ ps0 := fun b hb hz => (List.nodup_append.mp nd1).2.2 b (by simp [hz]) b hb rfl
  have oi : ∀ b ∈ ps, OwnAt H env σ i b := fun b hb => ⟨_, _, h3, h4, (foot_tr h5).mpr hb⟩
  have dq1 : ∀ b ∈ p1, b ∉ qs := fun b hb hz => by
    rcases hqs b hz with y | ⟨_, _, y⟩
    · exact dj1 b hb y
    · exact y i (oi b (by rw [k3]; simp [hb]))
  have dq2 : ∀ b ∈ p2, b ∉ qs := fun b hb hz => by
    rcases hqs b hz with y | ⟨_, _, y⟩
    · exact dj2 b hb y
    · exact y i (oi b (by rw [k3]; simp [hb]))
  have ke : ∀ b, b ∈ p1 ++ p2 → H' b = H b := fun b hb => by
    rcases List.mem_append.mp hb with hb | hb
    · exact oth b (dj1 b hb) (dq1 b hb)
    · exact oth b (dj2 b hb) (dq2 b hb)
  obtain ⟨m1, m2⟩ := k4 H' u qs ke tr'
  refine ⟨env.set i (some (.tr pw (t.put w u))), ?_, ?_⟩
  · unfold setTree
    rw [h3]
    rfl
  have keep : ∀ w' u0 y, named env i w' → t.sub w' = some u0 → u0.isNd = true → walkH H v' w' = some y → ∃ u', (t.put w u).sub w' = some u' ∧ u'.isNd = true ∧ walkH H' v' w' = some y := fun w' u0 y hn hs hi hw => by
    cases hpre : pre w w' with
    | false =>
      refine Tr.beside (u := u) h5 h6 h2 g2 tr0 (fun b hb hb' => ?_) hs hi hw (.inl hpre)
      refine ke b ?_
      rw [k3] at hb
      simp at hb ⊢
      rcases hb with z | z | z
      · exact .inl z
      · exact absurd z hb'
      · exact .inr z
    | true =>
      unfold pre at hpre
      obtain ⟨r, rfl⟩ := List.isPrefixOf_iff_prefix.mp hpre
      rw [OT.sub_append, h2] at hs
      rw [walkH_append, g2] at hw
      have hs : t0.sub r = some u0 := hs
      have hw : walkH H x r = some y := hw
      rw [OT.put_append, h2, walkH_append, m2]
      show ∃ u', u.sub r = some u' ∧ u'.isNd = true ∧ walkH H' x r = some y
      cases r with
      | nil => cases hs; cases hw; exact ⟨u, rfl, nu, rfl⟩
      | cons s r => exact blw s r u0 y hs hi hw hn
  refine st.trW h3 h4 h5 m1 ?_ (fun b hb => ?_) (fun b hb hb' => ?_) (fun j w' u0 y hj hs hi hw => keep w' u0 y (.inl ⟨j, hj⟩) hs hi hw) (fun w' hw' u0 y hs hi hw => keep w' u0 y (.inr ⟨pw, t, h3, hw'⟩) hs hi hw)
  · obtain ⟨n1, n2, n3⟩ := List.nodup_append.mp nd1
    obtain ⟨n4, n5, n6⟩ := List.nodup_append.mp n1
    refine List.nodup_append.mpr ⟨List.nodup_append.mpr ⟨n4, nd, fun a ha b hb e => dq1 a ha (e ▸ hb)⟩, n2, fun a ha b hb e => ?_⟩
    rcases List.mem_append.mp ha with ha | ha
    · exact n3 a (by simp [ha]) b hb e
    · exact dq2 b hb (e ▸ ha)
  · simp only [List.mem_append] at hb
    rcases hb with (hb | hb) | hb
    · exact .inl (by rw [k3]; simp [hb])
    · rcases hqs b hb with y | y
      · exact .inl (by rw [k3]; simp [y])
      · exact .inr y
    · exact .inl (by rw [k3]; simp [hb])
  · refine oth b (fun z => hb (by rw [k3]; simp [z])) fun z => hb' (by simp [z])
end
end Mn
namespace Mn
open PySem PySem.Spec PyProof.Rows L2
section
variable {K : PySem.W.Frag} {pl : Pl} {F0 H0 F H F' H' : Hp} {env : Ev} {σ : L2.St} {c : Cl}
theorem TrAll.other {ps : List Addr} (ke : ∀ b ∈ ps, H' b = H b) {vs : List V} {ts : List OT} {qs : List Addr} (a : TrAll K F H vs ts qs) (s : ∀ b ∈ qs, b ∈ ps) : TrAll K F H' vs ts qs := a.move (L := ps) (Same.refl _) (fun b f _ _ => f) (fun b hb => ke b hb) s
theorem TrAll.append : ∀ {vs ws : List V} {ts us : List OT} {ps qs : List Addr}, TrAll K F H vs ts ps → TrAll K F H ws us qs → TrAll K F H (vs ++ ws) (ts ++ us) (ps ++ qs)
  | _, _, _, _, _, _, .nil, h => h
  | _, _, _, _, _, _, .cons r s, h => by
    rw [List.append_assoc]
    exact .cons r (TrAll.append s h)
theorem TrAll.ofRp : ∀ {vs : List V} {ds : List PyData}, RpAll K F vs ds → TrAll K F H vs (ds.map OT.lf) []
  | _, _, .nil => .nil
  | _, _, .cons r t => .cons (ps := []) (.lf r) (TrAll.ofRp t)
theorem rowsK_zip : ∀ {ks : List Int} {ds : List PyData} {p : List Int × List PyData}, ks.length = ds.length → rowsK ((ks.map PyData.int).zip ds) = some p → p = (ks, ds)
  | [], [], p, _, h => by cases h; rfl
  | [], _ :: _, p, l, h => by cases l
  | _ :: _, [], p, l, h => by cases l
  | k :: ks, d :: ds, p, l, h => by
    obtain ⟨p', h1, h2⟩ := mpd (show (rowsK ((ks.map PyData.int).zip ds)).map _ = some p from h)
    have := rowsK_zip (ks := ks) (ds := ds) (by simpa using l) h1
    subst this
    rw [h2]
theorem onTr : ∀ {qs : List Addr} {dss : List (List PyData)}, InAll K F H qs dss → TrAll K F H (qs.map V.ref) (dss.map fun ds => OT.nd .ls (ds.map .lf)) qs
  | _, _, .nil => .nil
  | _, _, .cons f h ra t => .cons (ps := [_]) (.ls f h (TrAll.ofRp ra)) (onTr t)
theorem View.tree {v : V} {r : RV} {u : OT} (w : View K F H v r) (h : ofRV r = some u) : ∃ qs, Tr K F H v u qs ∧ qs.Nodup ∧ ∀ b ∈ qs, Foot H r v b := by
  cases w with
  | fz q => cases h; exact ⟨[], .lf q, by simp, fun b hb => by simp at hb⟩
  | @own p o _ f e q =>
    cases q with
    | lst ra =>
      cases h
      refine ⟨[p], .ls f e (TrAll.ofRp ra), by simp, fun b hb => ?_⟩
      rw [List.mem_singleton] at hb
      subst hb
      exact (rfl : V.ref _ = V.ref _)
    | @dK ob kvs ds ra =>
      obtain ⟨p', h1, h2⟩ := mpd (show (rowsK (((kvs.map fun x => x.1).map PyData.int).zip ds)).map _ = some u from h)
      have := rowsK_zip (by rw [List.length_map, ← ra.length, List.length_map]) h1
      subst this
      rw [← h2]
      refine ⟨[p], .dk f e ra, by simp, fun b hb => ?_⟩
      rw [List.mem_singleton] at hb
      subst hb
      exact (rfl : V.ref _ = V.ref _)
    | dT kn ra => cases h
    | on a nd np =>
      cases h
      refine ⟨p :: _, .ls f e (onTr a), List.nodup_cons.mpr ⟨fun z => np _ z rfl, nd⟩, fun b hb => ?_⟩
      rcases List.mem_cons.mp hb with rfl | hb
      · exact .inl rfl
      · exact .inr ⟨p, _, rfl, e, List.mem_map.mpr ⟨b, hb, rfl⟩⟩
theorem tof_new {e : Ex} {r : RV} {u : OT} {v : V} (h : tofD e r = some u) (w : View K F' H' v r) (n : isVar e = false → New r v H H') : ∃ qs, Tr K F' H' v u qs ∧ qs.Nodup ∧ ∀ b ∈ qs, H b = none := by
  unfold tofD at h
  by_cases hb : (isVar e && r.isOwn) = true
  · rw [if_pos hb] at h; cases h
  rw [if_neg hb] at h
  obtain ⟨qs, h1, h2, h3⟩ := w.tree h
  refine ⟨qs, h1, h2, fun b hq => ?_⟩
  cases hv : isVar e with
  | false => exact n hv b (h3 b hq)
  | true =>
    rw [hv, Bool.true_and] at hb
    cases r with
    | fz d => exact (h3 b hq).elim
    | _ => exact absurd rfl hb
theorem StOk.newOwn (st : StOk K pl F0 H0 F H env σ) (x : Ext F H F' H') {b : Addr} {o : HO} (hb : H b = none) (hb' : H' b = some o) : H0 b = none ∧ ∀ j, ¬ OwnAt H' env σ j b := ⟨st.ext.same.free hb, fun j q => by
  obtain ⟨_, o, e⟩ := (q.back st.ok x.same).there st.ok
  rw [hb] at e; cases e⟩
theorem listH {p : Addr} {vs : List V} (e : H p = some (.lst vs)) {k : Nat} {r : List Stp} : walkH H (.ref p) (.ix k :: r) = (vs[k]?).bind fun u => walkH H u r := by
  show ((match H p with | some (.lst vs) => vs[k]? | some (.frz _ (.tup vs)) => vs[k]? | _ => none) : Option V).bind _ = _
  rw [e]
theorem listT {ts : List OT} {k : Nat} {r : List Stp} : (OT.nd .ls ts).sub (.ix k :: r) = (ts[k]?).bind fun u => u.sub r := rfl
theorem sub_nd {t u : OT} : ∀ {w : List Stp}, t.sub w = some u → u.isNd = true → t.isNd = true
  | [], h, n => by cases h; exact n
  | s :: w, h, n => by
    cases t with
    | lf d => cases h
    | _ => rfl
theorem StOk.relist (st : StOk K pl F0 H0 F H env σ) {q : Nat × List Stp} {ts ts2 : List OT} {a : Addr} {vs vs2 : List V} {ps' qs2 : List Addr} (hq : treeAt env q.1 q.2 = some (.nd .ls ts)) (hp : PlAt σ H q (.ref a)) (fa : F a = none) (ea : H a = some (.lst vs)) (ta : TrAll K F H vs ts ps') (na : a ∉ ps') (ta2 : TrAll K F H vs2 ts2 qs2) (na2 : a ∉ qs2) (nd : qs2.Nodup)
    (hqs : ∀ b ∈ qs2, b ∈ ps' ∨ (H0 b = none ∧ ∀ j, ¬ OwnAt H env σ j b))
    (kp : ∀ (j : Nat) r u0, named env q.1 (q.2 ++ .ix j :: r) → ts[j]? = some u0 → u0.isNd = true → vs2[j]? = vs[j]? ∧ ts2[j]? = ts[j]?) :
    ∃ env', setTree env q.1 q.2 (.nd .ls ts2) = some env' ∧ StOk K pl F0 H0 F (L2.upd H a (.lst vs2)) env' σ := by
  have tr0 : Tr K F H (.ref a) (.nd .ls ts) (a :: ps') := .ls fa ea ta
  have ke : ∀ b ∈ ps', L2.upd H a (.lst vs2) b = H b := fun b hb => upd_ne fun e => na (e ▸ hb)
  have ke2 : ∀ b ∈ qs2, L2.upd H a (.lst vs2) b = H b := fun b hb => upd_ne fun e => na2 (e ▸ hb)
  have tr' : Tr K F (L2.upd H a (.lst vs2)) (.ref a) (.nd .ls ts2) (a :: qs2) := .ls fa upd_same (ta2.other ke2 fun b hb => hb)
  refine st.putAt hq hp rfl tr0 tr' (List.nodup_cons.mpr ⟨na2, nd⟩) (fun b hb => ?_) (fun b hb hb' => upd_ne fun e => hb (by simp [e])) fun s r u0 y hs hi hw hn => ?_
  · rcases List.mem_cons.mp hb with rfl | hb
    · exact .inl (by simp)
    · rcases hqs b hb with z | ⟨z1, z2⟩
      · exact .inl (by simp [z])
      · exact .inr ⟨(ta2.there b hb).1, z1, z2⟩
  · cases s with
    | fl f => cases hs
    | ix j =>
      rw [listT] at hs
      obtain ⟨u1, h1, h2⟩ := bnd hs
      obtain ⟨k1, k2⟩ := kp j r u1 hn h1 (sub_nd h2 hi)
      rw [listH ea] at hw
      obtain ⟨x1, h3, h4⟩ := bnd hw
      refine ⟨u0, ?_, hi, ?_⟩
      · rw [listT, k2, h1]; exact h2
      · rw [listH upd_same, k1, h3]
        obtain ⟨x2, p1, p', p2, g1, g2, g3, _⟩ := ta.nth h1
        rw [h3] at g1
        cases g1
        exact g2.walk_other h2 (fun b hb => ke b (by rw [g3]; simp [hb])) h4
theorem putF_ne {f g : Str} {v : V} (n : g ≠ f) (fs : List (Str × V)) : (putF f v fs).lookup g = fs.lookup g := by
  rw [lookup_putF, if_neg n]
theorem putFs_find : ∀ {fs : List Str} {ts : List OT} {f g : Str} {u : OT} {j : Nat}, fs.length = ts.length → g ≠ f → fs.findIdx? (fun x => x == g) = some j → (putFs fs ts f u).1.findIdx? (fun x => x == g) = some j ∧ (putFs fs ts f u).2[j]? = ts[j]?
  | [], _, f, g, u, j, l, n, h => by simp at h
  | _ :: _, [], f, g, u, j, l, n, h => by cases l
  | x :: fs, t :: ts, f, g, u, j, l, n, h => by
    unfold putFs
    rw [List.findIdx?_cons] at h
    by_cases e : x = f
    · rw [if_pos e]
      have e2 : (x == g) = false := by
        rw [beq_eq_false_iff_ne]
        exact fun z => n (by rw [← z, e])
      refine ⟨by rw [List.findIdx?_cons]; exact h, ?_⟩
      rw [e2] at h
      obtain ⟨j', h1, rfl⟩ := Option.map_eq_some_iff.mp (by simpa using h : (fs.findIdx? (fun x => x == g)).map (· + 1) = some j)
      rfl
    · rw [if_neg e]
      by_cases e2 : (x == g) = true
      · rw [if_pos e2] at h
        cases h
        exact ⟨by rw [List.findIdx?_cons, if_pos e2], rfl⟩
      · rw [if_neg e2] at h
        obtain ⟨j', h1, rfl⟩ := Option.map_eq_some_iff.mp h
        obtain ⟨k1, k2⟩ := putFs_find (u := u) (by simpa using l) n h1
        refine ⟨?_, ?_⟩
        · rw [List.findIdx?_cons, if_neg e2, k1]; rfl
        · simpa using k2
theorem fldAt_find : ∀ {fs : List Str} {ts : List OT} {f : Str} {j : Nat}, fs.length = ts.length → fs.findIdx? (fun x => x == f) = some j → fldAt fs ts f = ts[j]?
  | [], _, f, j, l, h => by simp at h
  | _ :: _, [], f, j, l, h => by cases l
  | x :: fs, t :: ts, f, j, l, h => by
    unfold fldAt
    rw [List.findIdx?_cons] at h
    by_cases e : x = f
    · rw [if_pos e]
      rw [if_pos (by rw [e]; exact beq_self_eq_true _)] at h
      cases h
      rfl
    · rw [if_neg e]
      rw [if_neg (fun z => e (eq_of_beq z))] at h
      obtain ⟨j', h1, rfl⟩ := Option.map_eq_some_iff.mp h
      rw [fldAt_find (by simpa using l) h1]
      simp
theorem put_tr {f : Str} {v : V} {u : OT} {qs : List Addr} (tu : Tr K F H v u qs) (ndq : qs.Nodup) : ∀ {fvs : List (Str × V)} {ts : List OT} {ps : List Addr}, TrAll K F H (fvs.map fun x => x.2) ts ps → ps.Nodup → (∀ b ∈ qs, b ∉ ps) →
    ∃ qs2, TrAll K F H ((putF f v fvs).map fun x => x.2) (putFs (fvs.map fun x => x.1) ts f u).2 qs2 ∧ ((putF f v fvs).map fun x => x.1) = (putFs (fvs.map fun x => x.1) ts f u).1 ∧ qs2.Nodup ∧ ∀ b ∈ qs2, b ∈ ps ∨ b ∈ qs
  | [], ts, ps, a, nd, dj => by
    cases a with
    | nil => exact ⟨qs ++ [], .cons tu .nil, rfl, by simpa using ndq, fun b hb => .inr (by simpa using hb)⟩
  | (g, x) :: fvs, ts, ps, a, nd, dj => by
    cases a with
    | @cons _ _ t ts' p1 p2 r s =>
      obtain ⟨n1, n2, n3⟩ := List.nodup_append.mp nd
      by_cases e : g = f
      · refine ⟨qs ++ p2, ?_, ?_, List.nodup_append.mpr ⟨ndq, n2, fun a ha b hb e => dj a ha (by rw [e]; simp [hb])⟩, fun b hb => ?_⟩
        · simp only [putF, putFs, List.map_cons, if_pos e]
          exact .cons tu s
        · simp only [putF, putFs, List.map_cons, if_pos e]
        · rcases List.mem_append.mp hb with hb | hb
          · exact .inr hb
          · exact .inl (by simp [hb])
      · obtain ⟨q2, k1, k2, k3, k4⟩ := put_tr tu ndq s n2 (fun b hb z => dj b hb (by simp [z]))
        refine ⟨p1 ++ q2, ?_, ?_, List.nodup_append.mpr ⟨n1, k3, fun a ha b hb e => ?_⟩, fun b hb => ?_⟩
        · simp only [putF, putFs, List.map_cons, if_neg e]
          exact .cons r k1
        · simp only [putF, putFs, List.map_cons, if_neg e]
          rw [k2]
        · subst e
          rcases k4 a hb with z | z
          · exact n3 a ha a z rfl
          · exact dj a z (by simp [ha])
        · rcases List.mem_append.mp hb with hb | hb
          · exact .inl (by simp [hb])
          · rcases k4 b hb with z | z
            · exact .inl (by simp [z])
            · exact .inr z
theorem StOk.refield (st : StOk K pl F0 H0 F H env σ) {q : Nat × List Stp} {nm f : Str} {ts : List OT} {a C dx : Addr} {fvs : List (Str × V)} {v : V} {u : OT} {ps' qs : List Addr} (hq : treeAt env q.1 q.2 = some (.nd (.ob nm (fvs.map fun x => x.1)) ts)) (hp : PlAt σ H q (.ref a)) (fa : F a = none) (fd : F dx = none) (ea : H a = some (.ins C dx fvs)) (ed : H dx = some (.own a)) (ca : ClsAt K nm C) (ta : TrAll K F H (fvs.map fun x => x.2) ts ps') (nd : (a :: dx :: ps').Nodup) (tu : Tr K F H v u qs) (ndq : qs.Nodup)
    (hqs : ∀ b ∈ qs, H0 b = none ∧ (∀ j, ¬ OwnAt H env σ j b) ∧ b ∉ a :: dx :: ps')
    (kp : ∀ x, fldAt (fvs.map fun x => x.1) ts f = some x → x.isNd = true → ∀ r, ¬ named env q.1 (q.2 ++ .fl f :: r)) :
    ∃ env', setTree env q.1 q.2 (.nd (.ob nm (putFs (fvs.map fun x => x.1) ts f u).1) (putFs (fvs.map fun x => x.1) ts f u).2) = some env' ∧ StOk K pl F0 H0 F (L2.upd H a (.ins C dx (putF f v fvs))) env' σ := by
  obtain ⟨nda, ndd⟩ := List.nodup_cons.mp nd
  obtain ⟨ndx, ndp⟩ := List.nodup_cons.mp ndd
  obtain ⟨qs2, k1, k2, k3, k4⟩ := put_tr (f := f) tu ndq ta ndp (fun b hb z => (hqs b hb).2.2 (by simp [z]))
  have tr0 : Tr K F H (.ref a) (.nd (.ob nm (fvs.map fun x => x.1)) ts) (a :: dx :: ps') := .ob fa fd ea ed ca ta
  have nq2 : ∀ b ∈ qs2, b ≠ a ∧ b ≠ dx := fun b hb => by
    rcases k4 b hb with z | z
    · exact ⟨fun e => nda (by rw [← e]; simp [z]), fun e => ndx (e ▸ z)⟩
    · have := (hqs b z).2.2
      simp at this
      exact ⟨this.1, this.2.1⟩
  have hda : dx ≠ a := fun e => nda (by rw [← e]; simp)
  have ke2 : ∀ b ∈ qs2, L2.upd H a (.ins C dx (putF f v fvs)) b = H b := fun b hb => upd_ne (nq2 b hb).1
  have ke : ∀ b ∈ ps', L2.upd H a (.ins C dx (putF f v fvs)) b = H b := fun b hb => upd_ne fun e => nda (by rw [← e]; simp [hb])
  have tr' : Tr K F (L2.upd H a (.ins C dx (putF f v fvs))) (.ref a) (.nd (.ob nm (putFs (fvs.map fun x => x.1) ts f u).1) (putFs (fvs.map fun x => x.1) ts f u).2) (a :: dx :: qs2) := by
    rw [← k2]
    exact .ob fa fd upd_same (by rw [upd_ne hda]; exact ed) ca (k1.other ke2 fun b hb => hb)
  refine st.putAt hq hp rfl tr0 tr' (List.nodup_cons.mpr ⟨fun z => ?_, List.nodup_cons.mpr ⟨fun z => (nq2 _ z).2 rfl, k3⟩⟩) (fun b hb => ?_) (fun b hb hb' => upd_ne fun e => hb (by simp [e])) fun s r u0 y hs hi hw hn => ?_
  · rcases List.mem_cons.mp z with z | z
    · exact hda z.symm
    · exact (nq2 _ z).1 rfl
  · rcases List.mem_cons.mp hb with rfl | hb
    · exact .inl (by simp)
    · rcases List.mem_cons.mp hb with rfl | hb
      · exact .inl (by simp)
      · rcases k4 b hb with z | z
        · exact .inl (by simp [z])
        · exact .inr ⟨(tu.there b z).1, (hqs b z).1, (hqs b z).2.1⟩
  · cases s with
    | ix j => cases hs
    | fl g =>
      obtain ⟨j, h1, h2⟩ := bnd (show (stepK (.ob nm (fvs.map fun x => x.1)) (.fl g)).bind (fun j => (ts[j]?).bind fun u => u.sub r) = some u0 from hs)
      obtain ⟨u1, h2, h3⟩ := bnd h2
      have hlen : (fvs.map fun x => x.1).length = ts.length := by rw [List.length_map, ← ta.length, List.length_map]
      have ng : g ≠ f := fun e => by
        subst e
        refine kp u1 ?_ (sub_nd h3 hi) r hn
        rw [fldAt_find hlen h1]; exact h2
      obtain ⟨g1, g2⟩ := putFs_find (u := u) hlen ng h1
      have hw2 : ((match H a with | some (.ins _ _ fs) => fs.lookup g | _ => none) : Option V).bind (fun x => walkH H x r) = some y := hw
      rw [ea] at hw2
      obtain ⟨x1, h4, h5⟩ := bnd hw2
      refine ⟨u0, ?_, hi, ?_⟩
      · show (stepK (.ob nm (putFs (fvs.map fun x => x.1) ts f u).1) (.fl g)).bind (fun j => ((putFs (fvs.map fun x => x.1) ts f u).2[j]?).bind fun u => u.sub r) = some u0
        rw [show stepK (.ob nm (putFs (fvs.map fun x => x.1) ts f u).1) (.fl g) = some j from g1]
        show ((putFs (fvs.map fun x => x.1) ts f u).2[j]?).bind _ = _
        rw [g2, h2]
        exact h3
      · show ((match L2.upd H a (.ins C dx (putF f v fvs)) a with | some (.ins _ _ fs) => fs.lookup g | _ => none) : Option V).bind (fun x => walkH (L2.upd H a (.ins C dx (putF f v fvs))) x r) = some y
        rw [upd_same]
        show ((putF f v fvs).lookup g).bind _ = _
        have h4 : fvs.lookup g = some x1 := h4
        rw [putF_ne ng, h4]
        obtain ⟨x2, l1, l2⟩ := lookup_at h1
        have l1 : fvs.lookup g = some x2 := l1
        rw [h4] at l1
        cases l1
        obtain ⟨x3, p1, p', p2, m1, m2, m3, _⟩ := ta.nth h2
        rw [l2] at m1
        cases m1
        exact m2.walk_other h3 (fun b hb => ke b (by rw [m3]; simp [hb])) h5
end
end Mn
namespace Mn
open PySem PySem.Spec PyProof.Rows L2
theorem restT_in {H : Hp} {ps : List Addr} {b : Addr} (h : b ∈ ps) : restT H ps b = none := if_pos h
theorem restT_out {H : Hp} {ps : List Addr} {b : Addr} (h : b ∉ ps) : restT H ps b = H b := if_neg h
theorem restT_sub {H : Hp} {ps : List Addr} : Same (restT H ps) H := fun b o e => by
  unfold restT at e
  split at e
  · cases e
  · exact e
section
variable {K : PySem.W.Frag} {pl : Pl} {F0 H0 F H F' H' : Hp} {env : Ev} {σ : L2.St} {c : Cl}
mutual
theorem Tr.flatB (t : ∀ a xs, TupN K F a xs → TupN K F' a xs) (nn : ∀ b, F b = none → F' b = none) : ∀ {v : V} {u : OT} {ps : List Addr}, Tr K F H v u ps → u.flatL = true → Tr K F' H v u ps
  | _, _, _, .lf r, e => .lf (Rp.flat t r (by simpa [OT.flatL] using e))
  | _, _, _, .dk f h r, e => .dk (nn _ f) h (RpAll.flat t r (by simpa [OT.flatL] using e))
  | _, _, _, .ls f h a, e => .ls (nn _ f) h (TrAll.flatB t nn a (by simpa [OT.flatL] using e))
  | _, _, _, .tp f h g a, e => .tp (nn _ f) h g (TrAll.flatB t nn a (by simpa [OT.flatL] using e))
  | _, _, _, .ob f f2 h h2 c a, e => .ob (nn _ f) (nn _ f2) h h2 c (TrAll.flatB t nn a (by simpa [OT.flatL] using e))
theorem TrAll.flatB (t : ∀ a xs, TupN K F a xs → TupN K F' a xs) (nn : ∀ b, F b = none → F' b = none) : ∀ {vs : List V} {us : List OT} {ps : List Addr}, TrAll K F H vs us ps → OT.flatLs us = true → TrAll K F' H vs us ps
  | _, _, _, .nil, _ => .nil
  | _, _, _, .cons r s, e => by
    simp only [OT.flatLs, Bool.and_eq_true] at e
    exact .cons (Tr.flatB t nn r e.1) (TrAll.flatB t nn s e.2)
end
end
end Mn
namespace Mn
open PySem PySem.Spec PyProof.Rows L2
section
variable {X : Cx} {s : Sx} {c : Cl}
theorem var_i (C : CO X s c) {i : Nat} {x : Str} {px : Pos} (hi : s.N[i]? = some x) (hv : s.vis x = true) (hk : okN x = true) : PE X (.Name x px) (tVar i) := pe_var (by rw [C.N]; exact hi) (C.vis hv) (okN1 hk).1 (okN1 hk).2
theorem name_base {x nm : Str} {px : Pos} {env : Env} : attributeBase (.Name x px) nm env (eval (.Name x px) env) = eval (.Name x px) env := rfl
theorem dataAt {K : PySem.W.Frag} {F0 H0 F H : Hp} {env : Ev} {σ : L2.St} {a : Ex} {r : RV} {d : PyData} {Q : VK} (st : StOk K pl F0 H0 F H env σ) (h : ev c env a = some r) (ho : ownD a r = some d)
    (k : ∀ v F' H', Ext F H F' H' → Rp K F' v d → Q v H') : tE K c a σ H Q :=
  ⟨F, env, r, st.ok, h, fun v F1 H1 x1 w1 n1 => by
    obtain ⟨_, F2, x2, w2⟩ := own_rp ho x1 w1 n1
    exact k v F2 H1 x2 w2⟩
theorem PS.len {st : Stmt} {t t' : TS} (h : PS X st t) (f : ∀ D σ H, σ.length = X.N.length → t' D σ H → t D σ H) : PS X st t' := ⟨fun pins s σ H D I q => h.run pins s σ H D I (f D σ H I.len q)⟩
theorem set_len {K : PySem.W.Frag} {F0 H0 F H : Hp} {env : Ev} {σ : L2.St} (st : StOk K pl F0 H0 F H env σ) {i : Nat} {x : Str} (C : CO X s c) (hi : s.N[i]? = some x) (hN : σ.length = X.N.length) : i < env.length := by
  rw [st.ok.len, hN, C.N]
  exact (List.getElem?_eq_some_iff.mp hi).1
theorem swap_call {f : Expr} {xs : List Expr} {ks : List Keyword} {p : Pos} (t : Option Expr) (l : Nat) (env : Env) : swapsWith (.Call f xs ks p) t l env = pure false := rfl
theorem swap_sub {v o ix : Expr} {p : Pos} (l : Nat) (env : Env) : swapsWithSole [.Subscript o ix p] v l env = pure false := by
  show swapsWith v (some (.Subscript o ix p)) l env = pure false
  cases v <;> rfl
theorem swap_tup {v : Expr} {ts : List Expr} {k : Nat} {p : Pos} (l : Nat) (env : Env) : swapsWithSole [.Tuple ts k p] v l env = pure false := by
  show swapsWith v (some (.Tuple ts k p)) l env = pure false
  cases v <;> rfl
theorem stores_sub {v o ix : Expr} {p : Pos} (env : Env) : swappedStores [.Subscript o ix p] v env = pure none := rfl
theorem stores_tup {v : Expr} {ts : List Expr} {k : Nat} {p : Pos} (h : isTup v = false) (env : Env) : swappedStores [.Tuple ts k p] v env = pure none := by
  cases v with
  | Tuple _ _ _ => cases h
  | _ => rfl
theorem asg_sub {o ix : Expr} {p : Pos} (h : plainX ix = true) (env : Env) (v : Value) : assign (.Subscript o ix p) env v = (do
      let ov ← holding [v] (eval o env)
      let iv ← holding [v, ov] (eval ix env)
      standAt p
      holding [v, ov, iv] (setItem ov iv v)
      release [v, ov, iv] []) := by
  cases ix with
  | Slice _ _ _ _ => cases h
  | _ => rfl
theorem ixN_nat {n : Nat} {k : Int} (h0 : 0 ≤ k) (h : k < n) : ixN n k = some k.toNat := by
  unfold ixN
  rw [if_pos h0, if_pos h]
structure COS (X : Cx) (s : Sx) (c : Cl) (W : XK) : Prop extends CO X s c where
  tk : Takes X (fun cv dd _ H => W cv dd H)
  po : PassesOwn (model X.prog X.w) X.A X.env X.xe
  stk : X.stack = X.env :: X.outer
  frm : X.env.frame = some X.env.locals
theorem CO.other {X : Cx} {s : Sx} {c : Cl} (C : CO X s c) (pn : List (Addr × Obj)) (xe : Value → Shared → Prop) : CO (X.tr pn xe) s c :=
  ⟨C.sc, C.N, C.nd, C.fn, C.calm, C.un, C.bn, fun f x h => let ⟨np, h1, h2⟩ := C.fns f x h; ⟨np, h1, ⟨h2.ex⟩⟩, C.gls, fun f x h => let ⟨np, h1, h2⟩ := C.xfn f x h; ⟨np, h1, ⟨h2.ex⟩⟩, C.xc, C.x1, C.gd, C.ofs, fun f cn x q h => let ⟨h0, np, h1, h2⟩ := C.tfn f cn x q h; ⟨h0, np, h1, ⟨h2.ex⟩⟩, fun f x h => let ⟨h0, np, h1, h2⟩ := C.mkc f x h; ⟨h0, np, h1, ⟨h2.ex⟩⟩, fun f x h => let ⟨np, h1, h2⟩ := C.rfn f x h; ⟨np, h1, ⟨h2.ex⟩⟩, C.al, fun cl m s h => ⟨(C.im cl m s h).ex⟩, C.ja⟩
theorem COS.nox {X : Cx} {s : Sx} {c : Cl} {W : XK} (C : COS X s c W) : COS X.nox s c (fun _ _ _ => False) where
  toCO := C.toCO.other X.pn _
  tk := fun _ _ ⟨_, _, _, _, _, _, _, _, _, _, _, _, _, _, _, _, h⟩ => h.elim
  po := PassesOwn.never
  stk := C.stk
  frm := C.frm
theorem forL_step {K : PySem.W.Frag} {W : XK} {tg : Tg} {it : Mn.Itr} {b : Sms} {σ : L2.St} {H : Hp} {D : Ends} (h : tS K W c (.for_ tg it b) D σ H) : tFor (tI K c it) (gS K tg) (tSs K W c b) D σ H := by
  obtain ⟨pl, F0, H0, F, env, o, st, h, post⟩ := h
  have h : (if borI c env it = true then none else (evi c env it).bind fun items => forL (fun env x => (bindT tg env x).bind fun env' => exSs c b env') items env) = some o := by simpa only [exS] using h
  by_cases hb : borI c env it = true
  · rw [if_pos hb] at h; cases h
  rw [if_neg hb] at h
  obtain ⟨items, h1, h2⟩ := bnd h
  refine ⟨F, env, items, st.ok, h1, fun J F1 H1 x1 wd wf => ?_⟩
  obtain ⟨F2, x2, wd⟩ := wf (by simpa using hb)
  have st2 := st.step x2
  let f : Ev → PyData → Option Out := fun env x => (bindT tg env x).bind fun env' => exSs c b env'
  have h2 : forL f items env = some o := h2
  let Pv : Nat → L2.St → Hp → Prop := fun i σ' H' => ∃ F' env', StOk K pl F2 H0 F' H' env' σ' ∧ forL f (items.drop i) env' = some o
  refine ⟨fun i m σ' H' => m = items.length - i ∧ i ≤ items.length ∧ Pv i σ' H', ⟨items.length, by simp, Nat.zero_le _, F2, env, st2.based, h2⟩, ?_⟩
  rintro i m σ' H' ⟨rfl, hi, F', env', st', hf⟩
  obtain ⟨w1, w2⟩ := wd H' F' (st'.ext.fr.trans st'.ext.sub) st'.ext.fr st'.ext.sub
  by_cases hlt : i < items.length
  · obtain ⟨go, yl⟩ := w2 i items[i] (by simp [hlt])
    have hd : items.drop i = items[i] :: items.drop (i + 1) := List.drop_eq_getElem_cons hlt
    rw [hd] at hf
    obtain ⟨o', hf1, hf2⟩ := bnd (show (f env' items[i]).bind _ = some o from hf)
    obtain ⟨env2, hf3, hf4⟩ := bnd (show (bindT tg env' items[i]).bind _ = some o' from hf1)
    refine .inr ⟨go, Pv (i + 1), fun σ2 H2 p => ⟨items.length - (i + 1), by omega, rfl, hlt, p⟩, fun x H3 y => ?_⟩
    obtain ⟨F3, x3, rp⟩ := yl x H3 y
    have st3 := st'.step x3
    refine ⟨F3, env', items[i], env2, st3.ok, rp, hf3, fun σ2 _ ok2 ho kp => ?_⟩
    refine ⟨pl, F2, H0, F3, env2, o', ⟨st3.ext, ok2, fun j p q => st3.own j p (ho j p q), fun j k p q1 q2 => st3.sep j k p (ho j p q1) (ho k p q2), st3.pin.keeps kp⟩, hf4, ?_⟩
    cases o' with
    | nx e2 => exact fun F4 σ4 H4 s4 => ⟨F4, e2, s4, hf2⟩
    | ct e2 => exact fun F4 σ4 H4 s4 => ⟨F4, e2, s4, hf2⟩
    | bk e2 =>
      cases hf2
      exact fun F4 σ4 H4 s4 => post F4 σ4 H4 (s4.rebase st2.ext)
    | rt r =>
      cases hf2
      have up : ∀ {F4 H4}, Ext F2 H0 F4 H4 → Ext F0 H0 F4 H4 := fun x4 => ⟨st2.ext.fr.trans x4.fr, x4.sub, x4.same, fun b o e => (x4.new b o e).elim (fun q => st2.ext.new b o q) .inr⟩
      exact ⟨fun v F4 H4 x4 w n => post.1 v F4 H4 (up x4) w n, fun d e F4 H4 cv dd x4 q => post.2 d e F4 H4 cv dd (up x4) q⟩
    | re r e2 =>
      cases hf2
      exact ⟨fun v F4 σ4 H4 s4 w n => post.1 v F4 σ4 H4 (s4.rebase st2.ext) w n, fun d e F4 σ4 H4 cv dd s4 q => post.2 d e F4 σ4 H4 cv dd (s4.rebase st2.ext) q⟩
  · have e : i = items.length := by omega
    subst e
    rw [List.drop_length] at hf
    cases hf
    exact .inl ⟨w1, post F' σ' H' (st'.rebase st2.ext)⟩
end
section
variable {X : Cx} {s : Sx} {c : Cl} {Wx : WX}
end
end Mn
namespace Mn
open PySem PySem.Spec PyProof.Rows L2
theorem setTree_go {env env' : Ev} {i : Nat} {w : List Stp} {u : OT} {o : Out} (h : setTree env i w u = some env') (h2 : (setTree env i w u).map Out.nx = some o) : o = .nx env' := by
  rw [h] at h2
  cases h2
  rfl
theorem PlAt.ext {σ : L2.St} {H H' : Hp} {q : Nat × List Stp} {v : V} (p : PlAt σ H q v) (e : Same H H') : PlAt σ H' q v := let ⟨r, h1, h2⟩ := p; ⟨r, h1, walkH_mono e h2⟩
section
variable {K : PySem.W.Frag} {pl : Pl} {F0 H0 F H F1 H1 F' H' : Hp} {env : Ev} {σ : L2.St} {c : Cl}
theorem putNew (st : StOk K pl F0 H0 F H env σ) (x : Ext F H F1 H1) {qs : List Addr} {v : V} {u : OT} (tr : Tr K F1 H1 v u qs) (n : ∀ b ∈ qs, H b = none) : ∀ b ∈ qs, H0 b = none ∧ ∀ j, ¬ OwnAt H1 env σ j b := fun b hb => by
  obtain ⟨_, o, e⟩ := tr.there b hb
  exact st.newOwn x (n b hb) e
theorem lsAt (ok : EnvOk K F H env σ) {q : Nat × List Stp} {ts : List OT} (h : treeAt env q.1 q.2 = some (.nd .ls ts)) {v : V} (pl : PlAt σ H q v) : ∃ a vs ps', v = .ref a ∧ F a = none ∧ H a = some (.lst vs) ∧ TrAll K F H vs ts ps' ∧ a ∉ ps' ∧ ps'.Nodup ∧ OwnAt H env σ q.1 a ∧ ∀ b ∈ ps', OwnAt H env σ q.1 b := by
  obtain ⟨ps, tr, nd⟩ := ok.place h pl
  obtain ⟨ps2, tr2, ow⟩ := ok.place2 h pl
  rw [← tr.det tr2] at ow
  obtain ⟨a, vs, ps', rfl, f, e, ta, rfl⟩ := tr.lsE
  obtain ⟨n1, n2⟩ := List.nodup_cons.mp nd
  exact ⟨a, vs, ps', rfl, f, e, ta, n1, n2, ow a (by simp), fun b hb => ow b (by simp [hb])⟩
theorem swap_atr {v o : Expr} {f : Str} {p : Pos} (l : Nat) (env : Env) : swapsWith v (some (.Attribute o f p)) l env = pure false := by
  cases v <;> rfl
theorem StOk.push (st : StOk K pl F0 H0 F H env σ) {q : Nat × List Stp} {ts : List OT} {a : Addr} {v : V} {u : OT} {qs : List Addr} (hq : treeAt env q.1 q.2 = some (.nd .ls ts)) (hp : PlAt σ H q (.ref a)) (tu : Tr K F H v u qs) (nd : qs.Nodup) (n : ∀ b ∈ qs, H0 b = none ∧ ∀ j, ¬ OwnAt H env σ j b) :
    ∃ vs, H a = some (.lst vs) ∧ vs.length = ts.length ∧ ∃ env', setTree env q.1 q.2 (.nd .ls (ts ++ [u])) = some env' ∧ StOk K pl F0 H0 F (L2.upd H a (.lst (vs ++ [v]))) env' σ := by
  obtain ⟨a', vs, ps', e, fa, ea, ta, na, np, oa, ob⟩ := lsAt st.ok hq hp
  cases e
  have l := ta.length
  refine ⟨vs, ea, l, st.relist hq hp fa ea ta na (ta.append (.cons tu .nil)) (fun z => ?_) (List.nodup_append.mpr ⟨np, by simpa using nd, fun x hx y hy e => ?_⟩) (fun b hb => ?_) fun j r u0 _ h1 _ => ?_⟩
  · rcases List.mem_append.mp z with z | z
    · exact na z
    · exact (n a (by simpa using z)).2 _ oa
  · subst e
    exact (n x (by simpa using hy)).2 _ (ob x hx)
  · rcases List.mem_append.mp hb with z | z
    · exact .inl z
    · exact .inr (n b (by simpa using z))
  · have hj : j < ts.length := (List.getElem?_eq_some_iff.mp h1).1
    rw [List.getElem?_append_left (by omega), List.getElem?_append_left hj]
    exact ⟨rfl, rfl⟩
end
section
variable {X : Cx} {s : Sx} {c : Cl} {W : XK}
theorem snd_tfl {p : Pth} {f : Str} {e : Ex} {st : Stmt} (C : COS X s c W) (h : chkS (.tfl p f e) s st = true) : PS X st (tS X.K W c (.tfl p f e)) := by
  unfold chkS at h
  split at h
  · simp only [Bool.and_eq_true, decide_eq_true_eq] at h
    obtain ⟨⟨⟨h1, h2⟩, h3⟩, h4⟩ := h
    have h1 := h1.symm
    subst h1
    refine PS.imp (ps_fld (sndPth p C.toCO h3) (sndP e C.toCO h4).pe (swap_atr _ _)) fun D σ H ⟨pl, F0, H0, F, env, o, st, h, post⟩ => ?_
    obtain ⟨r, g2, h⟩ := bnd (show (ev c env e).bind _ = some o by simpa only [exS] using h)
    obtain ⟨q, g1, h⟩ := bnd h
    obtain ⟨u, g8, h⟩ := bnd h
    obtain ⟨t, g6, h⟩ := bnd h
    refine ⟨F, env, r, st.ok, g2, fun v F1 H1 x1 w1 n1 => ?_⟩
    have st1 := st.step x1
    refine ⟨F1, env, q, st1.ok, g1, fun x F2 H2 x2 hpl => ?_⟩
    have st2 := st1.step x2
    cases t with
    | lf d => cases h
    | dk ks ds => cases h
    | nd kd ts =>
      cases kd with
      | ls => cases h
      | tp => cases h
      | ob nm fs =>
        obtain ⟨g9, h⟩ := itd' h
        simp only [Bool.and_eq_true, decide_eq_true_eq, List.contains_iff_mem] at g9
        obtain ⟨⟨k1, k2⟩, k3⟩ := g9
        obtain ⟨ps, tr, nd⟩ := st2.ok.place g6 hpl
        obtain ⟨ps2, tr2, ow⟩ := st2.ok.place2 g6 hpl
        rw [← tr.det tr2] at ow
        obtain ⟨a, C0, dx, fvs, ps', rfl, fa, fd, ea, ed, ca, ta, rfl, rfl⟩ := tr.obE
        obtain ⟨c1, c2⟩ := C.toCO.ofs _ _ k1 C0 ca
        obtain ⟨qs, tu, ndq, nw⟩ := tof_new g8 w1 n1
        have tu2 := tu.ext x2
        have nn := putNew st (x1.trans x2) tu2 nw
        obtain ⟨env', hs, st3⟩ := st2.refield (f := f) g6 hpl fa fd ea ed ca ta nd tu2 ndq (fun b hb => ⟨(nn b hb).1, (nn b hb).2, fun z => (nn b hb).2 _ (ow b z)⟩) (fun x hx hi r hn => by
          rw [hx] at k3
          rcases (Bool.or_eq_true _ _).mp k3 with k3 | k3
          · rw [hi] at k3; cases k3
          · have := free_no k3 hn
            unfold pre at this
            rw [show q.2 ++ .fl f :: r = (q.2 ++ [.fl f]) ++ r by simp] at this
            rw [List.isPrefixOf_iff_prefix.mpr (List.prefix_append _ _)] at this
            cases this)
        have := setTree_go hs h
        subst this
        exact ⟨a, C0, dx, fvs, rfl, ea, c1, c2, by simpa using k2, post F2 σ _ st3⟩
  · cases h
end
end Mn
namespace Mn
open PySem PySem.Spec PyProof.Rows L2
def LentAt (K : PySem.W.Frag) (env : Ev) (σ : L2.St) (F' H' : Hp) (vs : List V) (ds : List PyData) : Prop := ∃ F1, Same F' F1 ∧ Same F1 H' ∧ NoTu F' F1 ∧ (∀ a o, F1 a = some o → F' a = some o ∨ ∃ j r, env[j]? = some (some r) ∧ r.pl = true ∧ OwnAt H' env σ j a) ∧ RpAll K F1 vs ds
theorem LentAt.none {K : PySem.W.Frag} {env : Ev} {σ : L2.St} {F' H' : Hp} {vs : List V} {ds : List PyData} (s : Same F' H') (r : RpAll K F' vs ds) : LentAt K env σ F' H' vs ds := ⟨F', Same.refl _, s, NoTu.refl _, fun _ _ e => .inl e, r⟩
theorem LentAt.fz {K : PySem.W.Frag} {env : Ev} {σ : L2.St} {F' H' : Hp} {vs : List V} {ds : List PyData} {v : V} {d : PyData} (r : Rp K F' v d) (h : LentAt K env σ F' H' vs ds) : LentAt K env σ F' H' (v :: vs) (d :: ds) := by
  obtain ⟨F1, s1, s2, n, o, w⟩ := h
  exact ⟨F1, s1, s2, n, o, .cons (r.mono s1) w⟩
theorem LentAt.own {K : PySem.W.Frag} {env : Ev} {σ : L2.St} {F' H' : Hp} {vs : List V} {ds : List PyData} {v : V} {r : RV} {i : Nat} (he : env[i]? = some (some r)) (hs : σ[i]? = some (some v)) (w : View K F' H' v r) (h : LentAt K env σ F' H' vs ds) : LentAt K env σ F' H' (v :: vs) (r.d :: ds) := by
  obtain ⟨F1, s1, s2, n, o, rs⟩ := h
  obtain ⟨F2, ⟨s3, o3⟩, s4, n4, rp⟩ := w.lendX s1 s2 n
  refine ⟨F2, s1.trans s3, s4, n4, fun a u e => ?_, .cons rp (rs.mono s3)⟩
  rcases o3 a u e with z | z
  · exact o a u z
  · exact .inr ⟨i, r, he, w.pl, r, v, he, hs, z⟩
section
variable {X : Cx} {s : Sx} {c : Cl}
end
end Mn
namespace Mn
open PySem PySem.Spec PyProof.Rows L2
section
variable {K : PySem.W.Frag} {pl : Pl} {F0 H0 F H F' H' : Hp} {env : Ev} {σ : L2.St} {c : Cl}
end
section
variable {X : Cx} {s : Sx} {c : Cl} {Wx : WX}
end
end Mn
namespace Mn
open PySem PySem.Spec PyProof.Rows L2
section
variable {K : PySem.W.Frag} {pl : Pl} {F0 H0 F H F' H' : Hp} {env : Ev} {σ : L2.St} {c : Cl}
end
section
variable {X : Cx} {s : Sx} {c : Cl} {W : XK}
end
end Mn
namespace Mn
open PySem PySem.Spec PyProof.Rows L2
section
variable {K : PySem.W.Frag} {pl pl' : Pl} {F0 H0 F H F' H' : Hp} {env : Ev} {σ : L2.St} {c : Cl}
end
end Mn
namespace Mn
open PySem PySem.Spec PyProof.Rows L2
section
variable {X : Cx} {s : Sx} {c : Cl} {W : XK}
end
end Mn
namespace Mn
open PySem PySem.Spec PyProof.Rows L2
section
variable {X : Cx} {s : Sx} {c : Cl} {Wx : WX}
end
end Mn
namespace Mn
open PySem PySem.Spec PyProof.Rows L2
section
variable {K : PySem.W.Frag} {pl : Pl} {F0 H0 F H F' H' : Hp} {env : Ev} {σ : L2.St}
theorem StOk.wipe (st : StOk K pl F0 H0 F H env σ) : ∀ own : List Nat, StOk K pl F0 H0 F H (wipeE env own) σ
  | [] => st
  | v :: vs => (StOk.wipe st vs).del v
end
section
variable {K : PySem.W.Frag} {c : Cl} {Wx : WX}
end
end Mn
namespace Mn
open PySem PySem.Spec PyProof.Rows L2
section
variable {X : Cx} {s : Sx} {c : Cl} {Wx : WX}
def tEt (K : PySem.W.Frag) (c : Cl) (t : Tt) : TE := fun σ H Q => ∃ pl F0 H0 F env z, StOk K pl F0 H0 F H env σ ∧ evTt c t env = some z ∧ ∀ F' H', StOk K pl F0 H0 F' H' z.2 σ → Q (.bl z.1) H'
def tTt (K : PySem.W.Frag) (c : Cl) (t : Tt) : TT := fun σ H Q => ∃ pl F0 H0 F env z, StOk K pl F0 H0 F H env σ ∧ evTt c t env = some z ∧ ∀ F' H', StOk K pl F0 H0 F' H' z.2 σ → Q z.1 H'
structure SndT (X : Cx) (c : Cl) (t : Tt) (e : Expr) : Prop where
  pe : PE X e (tEt X.K c t)
  pt : PT X e (tTt X.K c t)
  pw : ∀ op vs pos, e = .BoolOp op vs pos → PW X e (tTt X.K c t)
end
section
variable {X : Cx} {s : Sx} {c : Cl} {W : XK}
end
end Mn
namespace Mn
open PySem PySem.Spec PyProof.Rows L2
def tHs (K : PySem.W.Frag) (c : Cl) (hs : List Hst) : TS := fun D σ H => ∃ pl F0 H0 F env env', StOk K pl F0 H0 F H env σ ∧ exHs c env hs = some env' ∧ ∀ F' H' σ', StOk K pl F0 H0 F' H' env' σ' → D.nx σ' H'
section
variable {X : Cx} {s : Sx} {c : Cl}
theorem AskAt.mono {K : PySem.W.Frag} {cs : List Str} {v : V} {H H' : Hp} {nm : Str} (h : AskAt K cs v H nm) (x : Same H H') : AskAt K cs v H' nm := by
  obtain ⟨a, C, dd, q1, q2, q3, q4⟩ := h
  exact ⟨a, C, dd, q1, x _ _ q2, fun d e => let ⟨fs, q⟩ := q3 d e; ⟨fs, x _ _ q⟩, q4⟩
inductive HL (K : PySem.W.Frag) (c : Cl) : List Hcl → List (Value × Option Nat × TS) → Prop
  | nil : HL K c [] []
  | cons {h : Hcl} {hs : List Hcl} {E : Addr} {l : List (Value × Option Nat × TS)} : h.D ∈ c.cls → ClsAt K h.D E → HL K c hs l → HL K c (h :: hs) ((.ref E, h.n, tHs K c h.b) :: l)
end
end Mn
namespace Mn
open PySem PySem.Spec PyProof.Rows L2
section
variable {X : Cx} {x1 x2 : Str} {c1 c2 : Value} {body rest orelse : List Stmt} {st0 : Stmt} {q1 q2 q3 q4 q5 : Pos} {k1 : Nat} {tb : WX → TS} {ts u : TS} {W0 : WX}
end
end Mn
namespace Mn
open PySem PySem.Spec PyProof.Rows L2
section
variable {X : Cx} {s : Sx} {c : Cl}
end
theorem stores_parE {x y : Str} {u v : Expr} {px py pt pt2 : Pos} {kt k2 : Nat} {env : Env} (hx : env.kindOf x = some .local) (hy : env.kindOf y = some .local) (hk : env.scope.kind = .function) (hl : py.line = px.line) (hn : x ≠ y) (hu : plainX u = true) (hv : plainX v = true) (f1 : foldedForSure 8 u = false) (f2 : constantsAlone 8 u = false) :
    swappedStores [.Tuple [.Name x px, .Name y py] kt pt] (.Tuple [u, v] k2 pt2) env = pure (some [x, y]) := by
  have e1 : env.blockKind = .function := by unfold Env.blockKind; rw [hk]; rfl
  have e2 : (x == y) = false := by simpa using hn
  have e3 : (y == x) = false := by simpa using Ne.symm hn
  unfold swappedStores
  simp [Expr.pos, hx, hy, hl, e1, f1, f2, List.eraseDups, List.eraseDupsBy, List.eraseDupsBy.loop, e2, e3]
  rintro (h | h)
  · split at h
    · cases hu
    · cases h
  · split at h
    · cases hv
    · cases h
theorem snd_parE {X : Cx} {s : Sx} {c : Cl} {W : XK} {i j : Nat} {a b : Ex} {st : Stmt} (C : COS X s c W) (hh : chkS (.parE i j a b) s st = true) : PS X st (tS X.K W c (.parE i j a b)) := by
  unfold chkS at hh
  split at hh
  · simp only [Bool.and_eq_true, decide_eq_true_eq, Bool.not_eq_true'] at hh
    obtain ⟨⟨⟨⟨⟨⟨⟨⟨⟨h1, h2⟩, h3⟩, h4⟩, h5⟩, h6⟩, h7⟩, h8⟩, h9⟩, h10⟩ := hh
    have hij : i ≠ j := fun e => by
      subst e
      rw [h1] at h2
      exact h5 (Option.some.inj h2)
    have hp := chks_plain h10
    refine PS.len (ps_par C.calm C.nd (by rw [C.N]; exact h1) (by rw [C.N]; exact h2) hij (by rw [C.sc]; exact h3) (by rw [C.sc]; exact h4) (sndEs _ C.toCO h10).1
      (stores_parE (by show X.env.scope.names.lookup _ = _; rw [C.sc]; exact h3) (by show X.env.scope.names.lookup _ = _; rw [C.sc]; exact h4) (by rw [C.sc]; exact h7) h6 h5 (hp _ (by simp)) (hp _ (by simp)) h8 h9) (swap_tup _ _)) fun D σ H hN ⟨pl, F0, H0, F, env, o, st, h, post⟩ => ?_
    simp only [exS] at h
    rw [if_neg (by simpa using hij)] at h
    obtain ⟨ds, g1, h⟩ := bnd h
    have hi := set_len st C.toCO h1 hN
    have hj := set_len st C.toCO h2 hN
    refine ⟨F, env, ds, st.ok, g1, fun vs F1 H1 x1 w1 => ?_⟩
    split at h
    · cases h
      cases w1 with
      | cons r1 w1 => cases w1 with
        | cons r2 w1 =>
          cases w1
          refine ⟨_, _, rfl, post F1 _ H1 ?_⟩
          have st1 := st.set (i := i) x1 hi (.fz r1) newFz
          exact st1.set (.refl st1.ok.sub) (by rw [List.length_set]; exact hj) (.fz r2) newFz
    · cases h
  · cases hh
end Mn
namespace Mn
open PySem PySem.Spec PyProof.Rows L2
end Mn
namespace Mn
open PySem PySem.Spec PyProof.Rows L2
section
variable {X : Cx} {s : Sx} {c : Cl}
mutual
theorem sndS : ∀ (a : Sm) {X : Cx} {s : Sx} {c : Cl} {W : XK}, COS X s c W → ∀ {st : Stmt}, chkS a s st = true → PS X st (tS X.K W c a)
  | .asg i e, X, s, c, W, C, st, h => by
    unfold chkS at h
    split at h
    · simp only [Bool.and_eq_true, decide_eq_true_eq] at h
      obtain ⟨⟨h1, h2⟩, h3⟩ := h
      refine PS.len (ps_asgN C.toCO h1 h2 h3) fun D σ H hN ⟨pl, F0, H0, F, env, o, st, h, post⟩ => ?_
      obtain ⟨r, h4, h5⟩ := bnd (show (ev c env e).bind _ = some o by simpa only [exS] using h)
      have hlt := set_len st C.toCO h1 hN
      by_cases hb : (isVar e && r.isOwn) = true
      · rw [if_pos hb] at h5; cases h5
      · rw [if_neg hb] at h5
        cases h5
        refine ⟨F, env, r, st.ok, h4, fun v F1 H1 x1 w1 n1 => post F1 _ H1 (st.set x1 hlt w1 ?_)⟩
        cases hv : isVar e with
        | false => exact n1 hv
        | true =>
          rw [hv, Bool.true_and] at hb
          cases r with
          | fz d => exact newFz
          | tr _ _ => exact absurd rfl hb
          | al _ _ => exact absurd rfl hb
          | ol _ => exact absurd rfl hb
          | od _ => exact absurd rfl hb
          | on _ => exact absurd rfl hb
          | xr _ => exact absurd rfl hb
    · cases h
  | .unp is e, X, s, c, W, C, st, h => by
    unfold chkS at h
    split at h
    · simp only [Bool.and_eq_true, Bool.not_eq_true'] at h
      obtain ⟨⟨h1, h2⟩, h3⟩ := h
      refine PS.imp (ps_asg (sndP e C.toCO h2).pe (pg_tg C.toCO (tg := .tp is) h1) (swap_tup _ _) (stores_tup h3 _) rfl) fun D σ H ⟨pl, F0, H0, F, env, o, st, h, post⟩ => ?_
      obtain ⟨r, h4, h5⟩ := bnd (show (ev c env e).bind _ = some o by simpa only [exS] using h)
      obtain ⟨d, h6, h7⟩ := bnd h5
      obtain ⟨env2, h8, rfl⟩ := mpd h7
      refine dataAt st h4 h6 fun v F1 H1 x1 rp => ?_
      have st1 := st.step x1
      exact ⟨F1, env, d, env2, st1.ok, rp, h8, fun σ2 _ ok2 ho kp => post F1 σ2 H1 ⟨st1.ext, ok2, fun j p q => st1.own j p (ho j p q), fun j k p q1 q2 => st1.sep j k p (ho j p q1) (ho k p q2), st1.pin.keeps kp⟩⟩
    · cases h
  | .app i e, X, s, c, W, C, st, h => by
    unfold chkS at h
    split at h
    · simp only [Bool.and_eq_true, decide_eq_true_eq] at h
      obtain ⟨⟨⟨⟨⟨h1, h2⟩, h3⟩, h4⟩, h5⟩, h6⟩ := h
      subst h1
      have hp := chk_plain h6
      refine PS.imp (ps_expr (pe_bm PySem.F.plainAttrs_list PySem.F.slot_list_append PySem.F.type_list_append mt_append (var_i C.toCO h3 h4 h5) (pa_cons (sndP e C.toCO h6).pe pa_nil (star_of hp _ _)) name_base (few1 hp _) h2 (star_of hp _ _) (by rfl)) (swap_call _ _ _)) fun D σ H ⟨pl, F0, H0, F, env, o, st, h, post⟩ => ?_
      obtain ⟨ds, g1, h⟩ := bnd (show (olAt env i).bind _ = some o by simpa only [exS] using h)
      obtain ⟨r, g2, h⟩ := bnd h
      obtain ⟨d, g3, h⟩ := bnd h
      obtain ⟨g4, rfl⟩ := itd h
      obtain ⟨p, vs, oa, hσ, hF, hH, ra⟩ := st.ol g1
      refine ⟨.ref p, hσ, .inl ⟨rfl, vs, SqL.of hH⟩, dataAt st g2 g3 fun v F1 H1 x1 rp => ?_⟩
      have st1 := st.step x1
      have hH1 := x1.same _ _ hH
      refine ⟨p, vs, v, rfl, rfl, hH1, by rw [ra.length]; exact LIM_lt g4, post F1 σ _ ?_⟩
      exact st1.upd oa rfl rfl hσ rfl (.lst ((ra.mono x1.fr).append (.cons rp .nil)))
    · cases h
  | .ext i e, X, s, c, W, C, st, h => by
    unfold chkS at h
    split at h
    · simp only [Bool.and_eq_true, decide_eq_true_eq] at h
      obtain ⟨⟨⟨⟨⟨h1, h2⟩, h3⟩, h4⟩, h5⟩, h6⟩ := h
      subst h1
      have hp := chk_plain h6
      refine PS.imp (ps_expr (pe_bm PySem.F.plainAttrs_list PySem.F.slot_list_extend PySem.F.type_list_extend (MtR.or mt_extend mt_extendT) (var_i C.toCO h3 h4 h5) (pa_cons (sndP e C.toCO h6).pe pa_nil (star_of hp _ _)) name_base (few1 hp _) h2 (star_of hp _ _) (by rfl)) (swap_call _ _ _)) fun D σ H ⟨pl, F0, H0, F, env, o, st, h, post⟩ => ?_
      obtain ⟨ds, g1, h⟩ := bnd (show (olAt env i).bind _ = some o by simpa only [exS] using h)
      obtain ⟨r, g2, h⟩ := bnd h
      obtain ⟨es, g3, h⟩ := bnd h
      obtain ⟨g4, rfl⟩ := itd h
      obtain ⟨p, vs, oa, hσ, hF, hH, ra⟩ := st.ol g1
      refine ⟨.ref p, hσ, .inl ⟨rfl, vs, SqL.of hH⟩, F, env, r, st.ok, g2, fun v F1 H1 x1 w1 n1 => ?_⟩
      have st1 := st.step x1
      have hH1 := x1.same _ _ hH
      rcases RV.seqT_eq g3 with rfl | g3
      · cases w1.rpF with
        | tup ta rb =>
          refine .inr ⟨p, _, vs, _, rfl, rfl, hH1, Same.sqT x1.sub ta.sqT, by rw [ra.length, rb.length]; exact LIM_ok g4, post F1 σ _ ?_⟩
          exact st1.upd oa rfl rfl hσ rfl (.lst ((ra.mono x1.fr).append rb))
      · obtain ⟨q, ws, rfl, hq, rb⟩ := w1.lstv x1.sub g3
        refine .inl ⟨p, q, vs, ws, rfl, rfl, hH1, hq, by rw [ra.length, rb.length]; exact LIM_ok g4, post F1 σ _ ?_⟩
        exact st1.upd oa rfl rfl hσ rfl (.lst ((ra.mono x1.fr).append rb))
    · cases h
  | .ins i k e, X, s, c, W, C, st, h => by unfold chkS at h; cases h
  | .pop j i e, X, s, c, W, C, st, h => by
    unfold chkS at h
    split at h
    · simp only [Bool.and_eq_true, decide_eq_true_eq] at h
      obtain ⟨⟨⟨⟨⟨⟨⟨h1, h2⟩, h3⟩, h4⟩, h5⟩, h6⟩, h7⟩, h8⟩ := h
      subst h1
      have hp := chk_plain h6
      obtain ⟨l1, l2⟩ := C.toCO.locv h8
      refine PS.len (ps_set C.nd (by rw [C.N]; exact h7) l1 (pe_bm PySem.F.plainAttrs_list PySem.F.slot_list_pop PySem.F.type_list_pop mt_popAt (var_i C.toCO h3 h4 h5) (pa_cons (sndP e C.toCO h6).pe pa_nil (star_of hp _ _)) name_base (few1 hp _) h2 (star_of hp _ _) (by rfl)) (swap_call _ _ _) l2) fun D σ H hN ⟨pl, F0, H0, F, env, o, st, h, post⟩ => ?_
      have hlt := set_len st C.toCO h7 hN
      have h : (if i = j then none else (olAt env i).bind fun ds => ((ev c env e).bind asInt).bind fun k => if 0 ≤ k then (ds[k.toNat]?).bind fun d => if ds.length ≤ LIM then some (Out.nx ((env.set i (some (.ol (ds.eraseIdx k.toNat)))).set j (some (.fz d)))) else none else none) = some o := by simpa only [exS] using h
      by_cases hij : i = j
      · rw [if_pos hij] at h; cases h
      rw [if_neg hij] at h
      obtain ⟨ds, g1, h⟩ := bnd h
      obtain ⟨k, g2, h⟩ := bnd h
      obtain ⟨r, g2, g3⟩ := bnd g2
      obtain rfl := asInt_eq g3
      obtain ⟨g4, h⟩ := itd' h
      obtain ⟨d, g5, h⟩ := bnd h
      obtain ⟨g6, rfl⟩ := itd h
      obtain ⟨p, vs, oa, hσ, hF, hH, ra⟩ := st.ol g1
      refine ⟨.ref p, hσ, .inl ⟨rfl, vs, SqL.of hH⟩, F, env, _, st.ok, g2, fun v F1 H1 x1 w1 n1 => ?_⟩
      have st1 := st.step x1
      have hH1 := x1.same _ _ hH
      obtain ⟨y, hy, rp⟩ := ra.getD g5
      have hk : k.toNat < vs.length := (List.getElem?_eq_some_iff.mp hy).1
      have hl : vs.length ≤ LIM := by rw [ra.length]; exact g6
      have hl' : vs.length ≤ 1000000 := hl
      refine ⟨p, vs, k, k.toNat, y, rfl, by rw [w1.int], hH1, by omega, by omega, (ixN_seq (ixN_nat g4 (by omega))).1, hy, ?_⟩
      have st2 := st1.upd oa rfl rfl hσ rfl (.lst ((ra.mono x1.fr).eraseIdx k.toNat))
      exact post F1 _ _ (st2.set (.refl st2.ok.sub) (by rw [List.length_set]; exact hlt) (.fz (rp.mono x1.fr)) newFz)
    · cases h
  | .sti i k e, X, s, c, W, C, st, h => by
    unfold chkS at h
    split at h
    · simp only [Bool.and_eq_true, decide_eq_true_eq] at h
      obtain ⟨⟨⟨⟨h1, h2⟩, h3⟩, h4⟩, h5⟩ := h
      have hp := chk_plain h4
      refine PS.imp (ps_asg (sndP e C.toCO h5).pe (pg_sub (var_i C.toCO h1 h2 h3) (sndP k C.toCO h4).pe set_list (fun v => asg_sub hp _ v)) (swap_sub _ _) (stores_sub _) rfl) fun D σ H ⟨pl, F0, H0, F, env, o, st, h, post⟩ => ?_
      obtain ⟨r, g2, h⟩ := bnd (show (ev c env e).bind _ = some o by simpa only [exS] using h)
      obtain ⟨d, g3, h⟩ := bnd h
      obtain ⟨ds, g1, h⟩ := bnd h
      obtain ⟨n, g4, h⟩ := bnd h
      obtain ⟨r', g4, g5⟩ := bnd g4
      obtain rfl := asInt_eq g5
      obtain ⟨j, g6, h⟩ := bnd h
      cases h
      obtain ⟨p, vs, oa, hσ, hF, hH, ra⟩ := st.ol g1
      refine dataAt st g2 g3 fun v F1 H1 x1 rp => ?_
      have st1 := st.step x1
      refine ⟨.ref p, hσ, F1, env, _, st1.ok, g4, fun u F2 H2 x2 w2 n2 => ?_⟩
      have st2 := st1.step x2
      have hH2 := x2.same _ _ (x1.same _ _ hH)
      refine ⟨p, vs, n, j, rfl, by rw [w2.int], hH2, by rw [ra.length]; exact g6, post F2 σ _ ?_⟩
      exact st2.upd oa rfl rfl hσ rfl (.lst ((ra.mono (x1.fr.trans x2.fr)).set j (rp.mono x2.fr)))
    · cases h
  | .stk i k e, X, s, c, W, C, st, h => by
    unfold chkS at h
    split at h
    · simp only [Bool.and_eq_true, decide_eq_true_eq] at h
      obtain ⟨⟨⟨⟨h1, h2⟩, h3⟩, h4⟩, h5⟩ := h
      have hp := chk_plain h4
      have un := C.toCO.un
      refine PS.imp (ps_asg (sndP e C.toCO h5).pe (pg_sub (var_i C.toCO h1 h2 h3) (sndP k C.toCO h4).pe (PSet.or set_dk (set_tk (by omega))) (fun v => asg_sub hp _ v)) (swap_sub _ _) (stores_sub _) rfl) fun D σ H ⟨pl, F0, H0, F, env, o, st, h, post⟩ => ?_
      obtain ⟨r, g2, h⟩ := bnd (show (ev c env e).bind _ = some o by simpa only [exS] using h)
      obtain ⟨d, g3, h⟩ := bnd h
      obtain ⟨kvs, g1, h⟩ := bnd h
      obtain ⟨y, g4, h⟩ := bnd h
      have h : (if y.isOwn = true then none else (dPut kvs y.d d).bind fun kvs' => if kvs.length ≤ LIM then some (Out.nx (env.set i (some (.od kvs')))) else none) = some o := h
      by_cases hy : y.isOwn = true
      · rw [if_pos hy] at h; cases h
      rw [if_neg hy] at h
      have hy : y.isOwn = false := by simpa using hy
      obtain ⟨kvs', g5, h⟩ := bnd h
      obtain ⟨hl, h⟩ := itd' h
      cases h
      obtain ⟨p, oa, hσ, hF, hH⟩ := st.od g1
      refine dataAt st g2 g3 fun v F1 H1 x1 rp => ?_
      have st1 := st.step x1
      refine ⟨.ref p, hσ, F1, env, _, st1.ok, g4, fun u F2 H2 x2 w2 n2 => ?_⟩
      have st2 := st1.step x2
      have ry := w2.frz hy
      rcases hH with ⟨ob, kv, ds, hH, ra, e0⟩ | ⟨ob, kv, ds, hH, kn, ra, e0⟩
      · have hH2 := x2.same _ _ (x1.same _ _ hH)
        rw [e0] at g5 hl oa
        obtain ⟨n, e1, e2⟩ := dPut_k g5
        rw [e1] at ry
        obtain rfl := ry.intv0
        obtain ⟨ds', q1, q2⟩ := put_k (i := n) (ra.mono (x1.fr.trans x2.fr)) (rp.mono x2.fr)
        rw [q2] at e2
        refine .inl ⟨p, ob, kv, n, rfl, rfl, hH2, LIM_lt ?_, fun o' => ?_⟩
        · have l := ra.length
          simp only [dkD, List.length_cons, List.length_zip, List.length_map] at hl l
          omega
        · rw [e2] at post
          exact post F2 σ _ (st2.upd oa rfl rfl hσ rfl (.dK q1))
      · have hH2 := x2.same _ _ (x1.same _ _ hH)
        rw [e0] at g5 hl oa
        obtain ⟨ks, e1, e2⟩ := dPut_t g5
        rw [e1] at ry
        cases ry with
        | tup ta rt =>
          obtain rfl := rt.ints
          obtain ⟨ds', q1, q2⟩ := put_t (i := ks) (b := _) (ra.mono (x1.fr.trans x2.fr)) (rp.mono x2.fr)
          rw [q2] at e2
          refine .inr ⟨p, ob, kv, _, ks, rfl, rfl, hH2, kn.mono ((x1.fr.trans x2.fr).trans x2.sub), Same.tupN x2.sub ta, LIM_lt ?_, fun o' => ?_⟩
          · have l := ra.length
            simp only [dtD, List.length_cons, List.length_zip, List.length_map] at hl l
            omega
          · rw [e2] at post
            exact post F2 σ _ (st2.upd oa rfl rfl hσ rfl (.dT (keys_put (kn.mono (x1.fr.trans x2.fr)) ta) q1))
    · cases h
  | .clr i, X, s, c, W, C, st, h => by unfold chkS at h; cases h
  | .popO i, X, s, c, W, C, st, h => by unfold chkS at h; cases h
  | .revO i, X, s, c, W, C, st, h => by unfold chkS at h; cases h
  | .rem i e, X, s, c, W, C, st, h => by unfold chkS at h; cases h
  | .tryB b D1 j n, X, s, c, W, C, st, h => by unfold chkS at h; cases h
  | .ifs t a b, X, s, c, W, C, st, h => by
    unfold chkS at h
    split at h
    · simp only [Bool.and_eq_true] at h
      obtain ⟨⟨h1, h2⟩, h3⟩ := h
      refine PS.imp (ps_if (sndP t C.toCO h1).pt (sndSs a C h2) (sndSs b C h3)) fun D σ H ⟨pl, F0, H0, F, env, o, st, h, post⟩ => ?_
      obtain ⟨k, g1, h⟩ := bnd (show ((ev c env t).bind asBool).bind _ = some o by simpa only [exS] using h)
      obtain ⟨r, g1, g2⟩ := bnd g1
      obtain rfl := asBool_eq g2
      refine ⟨F, env, k, st.ok, g1, fun F1 H1 x1 => ?_⟩
      cases k with
      | true => exact iteT ⟨pl, F0, H0, F1, env, o, st.step x1, h, post⟩
      | false => exact iteF ⟨pl, F0, H0, F1, env, o, st.step x1, h, post⟩
    · cases h
  | .for_ tg it b, X, s, c, W, C, st, h => by
    unfold chkS at h
    split at h
    · simp only [Bool.and_eq_true] at h
      obtain ⟨⟨h1, h2⟩, h3⟩ := h
      exact PS.imp (ps_for C.po C.calm (sndI it C.toCO h1) (pg_tg C.toCO h2) (sndSs b C h3) (set_of (chkI_plain h1) _)) fun D σ H h => forL_step h
    · cases h
  | .asgD i e tg it own, X, s, c, W, C, st, h => by unfold chkS at h; cases h
  | .asgL i e, X, s, c, W, C, st, h => by unfold chkS at h; cases h
  | .appD i e, X, s, c, W, C, st, h => by unfold chkS at h; cases h
  | .appI i k e, X, s, c, W, C, st, h => by unfold chkS at h; cases h
  | .popI i k, X, s, c, W, C, st, h => by unfold chkS at h; cases h
  | .stJ i k q0 e, X, s, c, W, C, st, h => by unfold chkS at h; cases h
  | .popD i, X, s, c, W, C, st, h => by unfold chkS at h; cases h
  | .retX e k, X, s, c, W, C, st, h => by unfold chkS at h; cases h
  | .stiD i k e, X, s, c, W, C, st, h => by unfold chkS at h; cases h
  | .forR j i b, X, s, c, W, C, st, h => by unfold chkS at h; cases h
  | .tryL b e, X, s, c, W, C, st, h => by unfold chkS at h; cases h
  | .tryN b, X, s, c, W, C, st, h => by unfold chkS at h; cases h
  | .whl t b, X, s, c, W, C, st, h => by unfold chkS at h; cases h
  | .ret e, X, s, c, W, C, st, h => by
    unfold chkS at h
    split at h
    · by_cases hv : isVar e = true
      · cases e with
        | var i =>
          rename_i x0 pos0
          have h' := h
          unfold chkE at h'
          split at h'
          · simp only [Bool.and_eq_true, decide_eq_true_eq] at h'
            refine PS.imp (ps_ret (var_i C.toCO h'.1.1 h'.1.2 h'.2)) fun D σ H ⟨pl, F0, H0, F, env, o, st, h, post⟩ => ?_
            obtain ⟨r, g1, rfl⟩ := mpd (show (ev c env (.var i)).map Out.rt = some o by simpa only [exS] using h)
            obtain ⟨r', g3, g4⟩ := bnd (show ((env[i]?).join).bind plO = some r from g1)
            obtain ⟨rfl, g5⟩ := plO_eq g4
            have g2 : env[i]? = some (some r) := joinE g3
            obtain ⟨v, hv1, hv2⟩ := st.ok.at_ i r g2 g5
            exact ⟨v, hv1, post.1 v F H st.ext (.inl hv2) fun p hp => st.own i p ⟨_, _, g2, hv1, hp⟩⟩
          · cases h'
        | pth p =>
          rename_i x0 pos0
          have h' : chkP p s x0 = true := by simpa only [chkE] using h
          refine PS.imp (ps_ret (sndPth p C.toCO h')) fun D σ H ⟨pl, F0, H0, F, env, o, st, h, post⟩ => ?_
          obtain ⟨r, g1, rfl⟩ := mpd (show (ev c env (.pth p)).map Out.rt = some o by simpa only [exS] using h)
          obtain ⟨q, g2, g3⟩ := bnd (show (evP c env p).bind _ = some r by simpa only [ev] using g1)
          obtain ⟨t, g4, g5⟩ := bnd g3
          refine ⟨F, env, q, st.ok, g2, fun v F1 H1 x1 hpl => ?_⟩
          have st1 := st.step x1
          obtain ⟨ps, tr, ow⟩ := st1.ok.place2 g4 hpl
          exact post.1 v F1 H1 st1.ext (.inl (tr.view g5)) fun b hb => st1.own _ b (ow b (tr.viewF g5 hb))
        | _ => cases hv
      · refine PS.imp (ps_ret (sndP e C.toCO h).pe) fun D σ H ⟨pl, F0, H0, F, env, o, st, h, post⟩ => ?_
        obtain ⟨r, g1, rfl⟩ := mpd (show (ev c env e).map Out.rt = some o by simpa only [exS] using h)
        refine ⟨F, env, r, st.ok, g1, fun v F1 H1 x1 w1 n1 => post.1 v F1 H1 (st.ext.trans x1) (.inl w1) ?_⟩
        exact new_back st.ext.same (n1 (by simpa using hv))
    · cases h
  | .retN, X, s, c, W, C, st, h => by unfold chkS at h; cases h
  | .drp e, X, s, c, W, C, st, h => by unfold chkS at h; cases h
  | .rse C1 m, X, s, c, W, C, st, h => by unfold chkS at h; cases h
  | .rs1 C1 e, X, s, c, W, C, st, h => by unfold chkS at h; cases h
  | .asgC i f es, X, s, c, W, C, st, h => by unfold chkS at h; cases h
  | .retC f es, X, s, c, W, C, st, h => by unfold chkS at h; cases h
  | .retCf f es, X, s, c, W, C, st, h => by unfold chkS at h; cases h
  | .retC2 o f es g fs, X, s, c, W, C, st, h => by unfold chkS at h; cases h
  | .trse C1 m, X, s, c, W, C, st, h => by unfold chkS at h; cases h
  | .trs1 C1 e, X, s, c, W, C, st, h => by unfold chkS at h; cases h
  | .tasC i f es, X, s, c, W, C, st, h => by unfold chkS at h; cases h
  | .trtC f es, X, s, c, W, C, st, h => by unfold chkS at h; cases h
  | .tdrC f es, X, s, c, W, C, st, h => by unfold chkS at h; cases h
  | .drpC f es, X, s, c, W, C, st, h => by unfold chkS at h; cases h
  | .tryC i f es D1 j n, X, s, c, W, C, st, h => by unfold chkS at h; cases h
  | .tryE f es D1 j n, X, s, c, W, C, st, h => by unfold chkS at h; cases h
  | .tryM f es hs, X, s, c, W, C, st, h => by unfold chkS at h; cases h
  | .unpD is e tg it own, X, s, c, W, C, st, h => by unfold chkS at h; cases h
  | .par i j k l, X, s, c, W, C, st, h => by unfold chkS at h; cases h
  | .parE i j a b, X, s, c, W, C, st, h => snd_parE C h
  | .tryEl i f es D1 D2 k el, X, s, c, W, C, st, h => by unfold chkS at h; cases h
  | .nop, X, s, c, W, C, st, h => by unfold chkS at h; cases h
  | .tnw i, X, s, c, W, C, st, h => by unfold chkS at h; cases h
  | .tal j p, X, s, c, W, C, st, h => by unfold chkS at h; cases h
  | .tap _ _, X, s, c, W, C, st, h => by unfold chkS at h; cases h
  | .tapD _ _ _ _ _, X, s, c, W, C, st, h => by unfold chkS at h; cases h
  | .tapV _ _, X, s, c, W, C, st, h => by unfold chkS at h; cases h
  | .tst _ _ _, X, s, c, W, C, st, h => by unfold chkS at h; cases h
  | .tfl _ _ _, X, s, c, W, C, st, h => snd_tfl C h
  | .tcl _, X, s, c, W, C, st, h => by unfold chkS at h; cases h
  | .tfr j p b, X, s, c, W, C, st, h => by unfold chkS at h; cases h
  | .tcd _ _, X, s, c, W, C, st, h => by unfold chkS at h; cases h
  | .tca _ _ _, X, s, c, W, C, st, h => by unfold chkS at h; cases h
  | .rtc _ _, X, s, c, W, C, st, h => by unfold chkS at h; cases h
  | .rtcX _ _ _ _ _, X, s, c, W, C, st, h => by unfold chkS at h; cases h
  | .ifT t a b, X, s, c, W, C, st, h => by unfold chkS at h; cases h
  | .rtTt _ _, X, s, c, W, C, st, h => by unfold chkS at h; cases h
  | .rtcT _ _ _ _, X, s, c, W, C, st, h => by unfold chkS at h; cases h
  | .tryT _ _ _ _ _ _, X, s, c, W, C, st, h => by unfold chkS at h; cases h
  | .rtsC _ _, X, s, c, W, C, st, h => by unfold chkS at h; cases h
  | .asC _ _ _, X, s, c, W, C, st, h => by unfold chkS at h; cases h
  | .unC _ _ _, X, s, c, W, C, st, h => by unfold chkS at h; cases h
  | .asT _ _ _, X, s, c, W, C, st, h => by unfold chkS at h; cases h
  | .rtE _, X, s, c, W, C, st, h => by unfold chkS at h; cases h
  | .rtD _ _ _ _, X, s, c, W, C, st, h => by unfold chkS at h; cases h
  | .tas _ _, X, s, c, W, C, st, h => by unfold chkS at h; cases h
  | .tasD _ _ _ _ _, X, s, c, W, C, st, h => by unfold chkS at h; cases h
  | .retF e, X, s, c, W, C, st, h => by unfold chkS at h; cases h
  | .tryTd _ _ _ _ _, X, s, c, W, C, st, h => by unfold chkS at h; cases h
  | .tryTf _ _ _ _ _ _, X, s, c, W, C, st, h => by unfold chkS at h; cases h
  | .retT e, X, s, c, W, C, st, h => by unfold chkS at h; cases h
  | .rtNT, X, s, c, W, C, st, h => by unfold chkS at h; cases h
  | .rtV _, X, s, c, W, C, st, h => by unfold chkS at h; cases h
  | .rtP _, X, s, c, W, C, st, h => by unfold chkS at h; cases h
  | .nev, X, s, c, W, C, st, h => PS.imp ps_never fun D σ H ⟨pl, F0, H0, F, env, o, st, h, post⟩ => by cases h
  | .cont, X, s, c, W, C, st, h => by unfold chkS at h; cases h
  | .brk, X, s, c, W, C, st, h => by unfold chkS at h; cases h
theorem sndSs : ∀ (a : Sms) {X : Cx} {s : Sx} {c : Cl} {W : XK}, COS X s c W → ∀ {st : List Stmt}, chkSs a s st = true → PSs X st (tSs X.K W c a)
  | .nil, X, s, c, W, C, st, h => by
    unfold chkSs at h
    split at h
    · refine PSs.imp pss_nil fun D σ H ⟨pl, F0, H0, F, env, o, st, h, post⟩ => ?_
      cases h
      exact post F σ H st
    · cases h
  | .cons a r, X, s, c, W, C, st, h => by
    unfold chkSs at h
    split at h
    · simp only [Bool.and_eq_true] at h
      refine PSs.imp (pss_cons (sndS a C h.1) (sndSs r C h.2)) fun D σ H ⟨pl, F0, H0, F, env, o, st, h, post⟩ => ?_
      obtain ⟨o', g1, g2⟩ := bnd (show (exS c a env).bind _ = some o by simpa only [exSs] using h)
      refine ⟨pl, F0, H0, F, env, o', st, g1, ?_⟩
      cases o' with
      | nx e2 => exact fun F' σ' H' st' => ⟨pl, F0, H0, F', e2, o, st', g2, post⟩
      | rt r' => cases g2; exact post
      | re r' e2 => cases g2; exact post
      | bk e2 => cases g2; exact post
      | ct e2 => cases g2; exact post
    · cases h
  | .frz i r, X, s, c, W, C, st, h => by
    unfold chkSs at h
    refine PSs.imp (sndSs r C h) fun D σ H ⟨pl, F0, H0, F, env, o, st, h, post⟩ => ?_
    obtain ⟨v, g1, g2⟩ := bnd (show ((env[i]?).join).bind _ = some o by simpa only [exSs] using h)
    have g1' : env[i]? = some (some v) := by
      cases q : env[i]? with
      | none => rw [q] at g1; cases g1
      | some o => rw [q] at g1; exact congrArg some g1
    obtain ⟨g3, g2⟩ := itd' g2
    obtain ⟨F', st'⟩ := st.frz g1' g3
    exact ⟨pl, F0, H0, F', _, o, st', g2, post⟩
  | .del i r, X, s, c, W, C, st, h => by
    unfold chkSs at h
    refine PSs.imp (sndSs r C h) fun D σ H ⟨pl, F0, H0, F, env, o, st, h, post⟩ => ?_
    exact ⟨pl, F0, H0, F, _, o, st.del i, by simpa only [exSs] using h, post⟩
end
end
end Mn
namespace Mn
open PySem PySem.Spec PyProof.Rows L2
def spD (K : PySem.W.Frag) (np : Nat) (sem : List PyData → Option RV) : Sp := fun vs H Q _ => ∃ F ds r, Same F H ∧ RpAll K F vs ds ∧ ds.length = np ∧ sem ds = some r ∧ ∀ v F' H', Ext F H F' H' → View K F' H' v r → New r v H H' → Q v H'
def scB (N P : List Str) (sc : Scope) : Bool :=
  decide (sc.kind = .function) && !sc.isCoroutine && !sc.isGenerator && decide N.Nodup && decide (N.take P.length = P) && P.all (fun x => decide (sc.names.lookup x = some .local) || decide (sc.names.lookup x = some .cell)) && sc.names.all (fun y => !decide (y.2 = .free))
theorem scB_ok {N P : List Str} {sc : Scope} (h : scB N P sc = true) : FnScope N P sc := by
  unfold scB at h
  simp only [Bool.and_eq_true, Bool.not_eq_true', decide_eq_true_eq, List.all_eq_true, Bool.or_eq_true, decide_eq_false_iff_not] at h
  obtain ⟨⟨⟨⟨⟨⟨h1, h2⟩, h3⟩, h4⟩, h5⟩, h6⟩, h7⟩ := h
  exact ⟨h1, h2, h3, h4, h5, h6, h7⟩
structure TNs where
  tns : List (Option Str × Str × Nat) := []
  rns : List Str := []
  cns : List (Nat × Str) := []
def chkDT (fns gls xns : List Str) (tn : TNs) (N ps : List Str) (df : Df) (st : Stmt) : Bool :=
  scB N ps (defScope st) && decide (ps.length = df.np) && decide (N.length = df.n) && chkSs df.body ⟨defScope st, N, fun _ => true, fns, gls, xns, tn.tns, tn.rns, tn.cns⟩ (defBody st)
abbrev chkDX (fns gls xns N ps : List Str) (df : Df) (st : Stmt) : Bool := chkDT fns gls xns {} N ps df st
abbrev chkD (fns gls N ps : List Str) (df : Df) (st : Stmt) : Bool := chkDX fns gls [] N ps df st
structure XTab where
  rzs : List Str := []
  cls : List Str := []
  fls : List Str := []
  m0s : List Str := []
  m1s : List (Str × Str) := []
  gds : List (Str × List (Str × PyData)) := []
structure TTab where
  ts : List (List (List Stp) → OT → List PyData → Option (RV × OT)) := []
  rs : List (List PyData → Option OT) := []
  tc : List (Option (Str × Str)) := []
  ofs : List (Str × Str) := []
  als : List (Str × AlD) := []
  /-- methods of instances that nobody changes; what isinstance says of them -/
  ims : List ((Str × Str) × (List PyData → Option RV)) := []
  jas : List ((Str × Str) × Bool) := []
def tabT (sems : List (List PyData → Option RV)) (glb : List PyData) (xs : List (List PyData → Option RV)) (T : XTab) (tt : TTab) : Cl := ⟨fun j ds => (sems[j]?).bind fun s => s ds, fun j => glb[j]?, fun j ds => (xs[j]?).bind fun s => s ds, T.rzs, T.cls, T.fls, T.m0s, T.m1s, T.gds,
  fun j pw t ds => (tt.ts[j]?).bind fun s => s pw t ds, fun j ds => (tt.rs[j]?).bind fun s => s ds, fun j => (tt.tc[j]?).join, tt.ofs, tt.als, tt.ims, tt.jas⟩
abbrev tabX (sems : List (List PyData → Option RV)) (glb : List PyData) (xs : List (List PyData → Option RV)) (T : XTab) : Cl := tabT sems glb xs T {}
abbrev tabC (sems : List (List PyData → Option RV)) (glb : List PyData) : Cl := tabX sems glb [] {}
def spX (K : PySem.W.Frag) (np : Nat) (sem : List PyData → Option RV) : Sp := fun vs H Q E => ∃ F ds r, Same F H ∧ RpAll K F vs ds ∧ ds.length = np ∧ sem ds = some r ∧ (∀ v F' H', Ext F H F' H' → View K F' H' v r → New r v H H' → Q v H') ∧
  ∀ d, r = .xr d → ∀ F' H' cv dd, Ext F H F' H' → Xat K F' cv dd d → E cv dd H'
section
variable (P : Program) (w : World) (K : PySem.W.Frag) (mg : Str → Option Value) (base : Heap)
structure Cal (k : Nat) (nm : Str) (np : Nat) (sem : List PyData → Option RV) : Prop where
  len : ∀ ds r, sem ds = some r → ds.length = np
  ex : ∃ (f : Addr) (fd : FuncData) (ps : List Str), mg nm = some (.ref f) ∧ PySem.W.keepIn K (.ref f) = true ∧ Binds K fd ps [] ∧ FnOk P w K mg base CX0 k f fd ps (spD K np sem)
structure CalX (k : Nat) (nm : Str) (np : Nat) (sem : List PyData → Option RV) : Prop where
  len : ∀ ds r, sem ds = some r → ds.length = np
  ex : ∃ (f : Addr) (fd : FuncData) (ps : List Str), mg nm = some (.ref f) ∧ PySem.W.keepIn K (.ref f) = true ∧ Binds K fd ps [] ∧ FnOk P w K mg base (L2.CX P w) k f fd ps (spX K np sem)
structure CalT (k : Nat) (cn : Option Str) (nm : Str) (q np : Nat) (sem : List (List Stp) → OT → List PyData → Option (RV × OT)) : Prop where
  len : ∀ pw t ds z, sem pw t ds = some z → ds.length + 1 = np
  ex : ∃ (f : Addr) (fd : FuncData) (ps : List Str), PySem.W.keepIn K (.ref f) = true ∧ Binds K fd ps [] ∧ FnOk P w K mg base (L2.CX P w) k f fd ps (spT K q np (fitC (cn.map fun x => (x, nm))) sem) ∧
    match cn with
    | none => mg nm = some (.ref f)
    | some cl => q = 0 ∧ ∀ C, ClsAt K cl C → L2.Cls K C ∧ L2.Meth K C nm f
structure CalC (k : Nat) (nm : Str) (np : Nat) (sem : List (List Stp) → OT → List PyData → Option (RV × OT)) : Prop where
  len : ∀ pw t ds z, sem pw t ds = some z → ds.length + 1 = np
  ex : ∃ (C f : Addr) (fd : FuncData) (ps : List Str), mg nm = some (.ref C) ∧ ClsAt K nm C ∧ L2.Mk K C f ∧ Binds K fd ps [] ∧ FnOk P w K mg base (L2.CX P w) k f fd ps (spT K 0 np (fitC (some (nm, ("__init__" : Str)))) sem)
structure CalR (k : Nat) (nm : Str) (np : Nat) (sem : List PyData → Option OT) : Prop where
  len : ∀ ds t, sem ds = some t → ds.length = np
  ex : ∃ (f : Addr) (fd : FuncData) (ps : List Str), mg nm = some (.ref f) ∧ PySem.W.keepIn K (.ref f) = true ∧ Binds K fd ps [] ∧
    FnOk P w K mg base CX0 k f fd ps (fun vs H Q _ => ∃ F ds t, Same F H ∧ RpAll K F vs ds ∧ ds.length = np ∧ sem ds = some t ∧ ∀ v F' H' qs, Ext F H F' H' → Tr K F' H' v t qs → qs.Nodup → (∀ b ∈ qs, H b = none) → Q v H')
structure CalI (k : Nat) (cl m : Str) (sem : List PyData → Option RV) : Prop where
  ex : ∃ (f : Addr) (fd : FuncData) (ps : List Str) (np : Nat), PySem.W.keepIn K (.ref f) = true ∧ Binds K fd ps [] ∧ (∀ C, ClsAt K cl C → L2.Cls K C ∧ L2.Meth K C m f) ∧ (∀ ds r, sem ds = some r → ds.length = np) ∧ FnOk P w K mg base CX0 k f fd ps (spD K np sem)
structure TrsOk (k : Nat) (tn : TNs) (tt : TTab) : Prop where
  t : ∀ (f : Nat) cn x q, tn.tns[f]? = some (cn, x, q) → (tt.tc[f]?).join = (cn.map fun y => (y, x)) ∧ ∃ s j np, tt.ts[f]? = some s ∧ j ≤ k ∧ CalT P w K mg base j cn x q np s
  c : ∀ (f : Nat) x, (f, x) ∈ tn.cns → (tt.tc[f]?).join = some (x, ("__init__" : Str)) ∧ ∃ s j np, tt.ts[f]? = some s ∧ j + 1 ≤ k ∧ CalC P w K mg base j x np s
  r : ∀ (f : Nat) x, tn.rns[f]? = some x → ∃ s j np, tt.rs[f]? = some s ∧ j ≤ k ∧ CalR P w K mg base j x np s
  o : ∀ nm f, (nm, f) ∈ tt.ofs → ∀ C, ClsAt K nm C → L2.Cls K C ∧ L2.NoAttr K C f
  a : ∀ g d, tt.als.lookup g = some d → AlOk P w K mg base g d ∧ 1 ≤ k
  i : ∀ cl m s, tt.ims.lookup (cl, m) = some s → ∃ j, j ≤ k ∧ CalI P w K mg base j cl m s
  j : ∀ nm D b, tt.jas.lookup (nm, D) = some b → ∃ E, mg D = some (.ref E) ∧ ∀ C, ClsAt K nm C → IsJ K C E b
inductive CalsX (k : Nat) : List Str → List (List PyData → Option RV) → Prop
  | nil : CalsX k [] []
  | cons {j : Nat} {x : Str} {np : Nat} {s : List PyData → Option RV} {xs : List Str} {ss : List (List PyData → Option RV)} : CalX P w K mg base j x np s → j ≤ k → CalsX k xs ss → CalsX k (x :: xs) (s :: ss)
inductive Cals (k : Nat) : List Str → List (List PyData → Option RV) → Prop
  | nil : Cals k [] []
  | cons {j : Nat} {x : Str} {np : Nat} {s : List PyData → Option RV} {xs : List Str} {ss : List (List PyData → Option RV)} : Cal P w K mg base j x np s → j ≤ k → Cals k xs ss → Cals k (x :: xs) (s :: ss)
inductive Gls : List Str → List PyData → Prop
  | nil : Gls [] []
  | cons {x : Str} {d : PyData} {xs : List Str} {ds : List PyData} : (∃ u v, mg x = some u ∧ RelV v u ∧ ∀ F, Rp K F v d) → Gls xs ds → Gls (x :: xs) (d :: ds)
end
section
variable {P : Program} {w : World} {K : PySem.W.Frag} {mg : Str → Option Value} {base : Heap}
theorem TrsOk.none {k : Nat} : TrsOk P w K mg base k {} {} := ⟨fun f cn x q h => by simp at h, fun f x h => by simp at h, fun f x h => by simp at h, fun nm f h => by simp at h, fun g d h => (by cases h), fun cl m s h => (by cases h), fun nm D b h => (by cases h)⟩
theorem Cals.get {k : Nat} {xs : List Str} {ss : List (List PyData → Option RV)} (h : Cals P w K mg base k xs ss) : ∀ {f : Nat} {x : Str}, xs[f]? = some x → ∃ s j np, ss[f]? = some s ∧ j ≤ k ∧ Cal P w K mg base j x np s := by
  induction h with
  | nil => intro f x h; simp at h
  | cons c l _ ih =>
    intro f x h
    cases f with
    | zero => simp at h; subst h; exact ⟨_, _, _, rfl, l, c⟩
    | succ f => exact ih (by simpa using h)
theorem CalsX.get {k : Nat} {xs : List Str} {ss : List (List PyData → Option RV)} (h : CalsX P w K mg base k xs ss) : ∀ {f : Nat} {x : Str}, xs[f]? = some x → ∃ s j np, ss[f]? = some s ∧ j ≤ k ∧ CalX P w K mg base j x np s := by
  induction h with
  | nil => intro f x h; simp at h
  | cons c l _ ih =>
    intro f x h
    cases f with
    | zero => simp at h; subst h; exact ⟨_, _, _, rfl, l, c⟩
    | succ f => exact ih (by simpa using h)
theorem Gls.get {xs : List Str} {ds : List PyData} (h : Gls K mg xs ds) : ∀ {g : Nat} {x : Str} {d : PyData}, xs[g]? = some x → ds[g]? = some d → ∃ u v, mg x = some u ∧ RelV v u ∧ ∀ F, Rp K F v d := by
  induction h with
  | nil => intro g x d h; simp at h
  | cons c _ ih =>
    intro g x d h1 h2
    cases g with
    | zero => simp at h1 h2; subst h1; subst h2; exact c
    | succ g => exact ih (by simpa using h1) (by simpa using h2)
theorem runD_len {c : Cl} {df : Df} {ds : List PyData} {r : RV} (h : runD c df ds = some r) : ds.length = df.np := by
  unfold runD at h
  split at h
  · assumption
  · cases h
theorem rpStart {F : Hp} : ∀ {vs : List V} {ds : List PyData}, RpAll K F vs ds → ∀ (m : Nat) (i : Nat) (r : RV), (ds.map (fun d => some (RV.fz d)) ++ List.replicate m none)[i]? = some (some r) → ∃ v, (vs.map some ++ List.replicate m (none : Option V))[i]? = some (some v) ∧ ∃ d, r = .fz d ∧ Rp K F v d
  | _, _, .nil, m, i, r, h => by
    simp only [List.map_nil, List.nil_append, List.getElem?_replicate] at h
    split at h <;> cases h
  | _, _, .cons a t, m, 0, r, h => by
    simp at h
    subst h
    exact ⟨_, rfl, _, rfl, a⟩
  | _, _, .cons a t, m, i + 1, r, h => by
    obtain ⟨v, h1, h2⟩ := rpStart t m i r (by simpa using h)
    exact ⟨v, by simpa using h1, h2⟩
section
variable {fns gls xns : List Str} {ss xss : List (List PyData → Option RV)} {gs : List PyData} {T : XTab} {k : Nat} {tn : TNs} {tt : TTab}
theorem no1 {k : Nat} : ∀ nm f, ([] : List (Str × Str)).lookup nm = some f → X1 P w K mg base nm f ∧ 2 ≤ k := fun _ _ h => by cases h
theorem co_mk (hs : Cals P w K mg base k fns ss) (hg : Gls K mg gls gs) (hx : CalsX P w K mg base k xns xss) (xc : XcOk K mg T.rzs T.cls T.fls T.m0s) (x1 : ∀ nm f, T.m1s.lookup nm = some f → X1 P w K mg base nm f ∧ 2 ≤ k) (gd : GdAt K mg w T.gds) (to : TrsOk P w K mg base k tn tt) (bn : ∀ x ∈ bnames, mg x = none) {X : Cx} {sc : Scope} {N : List Str}
    (e1 : X.prog = P) (e2 : X.w = w) (e3 : X.K = K) (e4 : X.mg = mg) (e5 : X.base = base) (e6 : X.env.scope = sc) (e7 : X.N = N) (nd : X.N.Nodup) (e8 : X.fn = fun _ => true) (cm : X.calm = true) (un : X.A.units + 200 < cLine) (hr : Room k X.A) :
    CO X ⟨sc, N, fun _ => true, fns, gls, xns, tn.tns, tn.rns, tn.cns⟩ (tabT ss gs xss T tt) := {
  sc := e6
  N := e7
  nd := nd
  fn := e8
  calm := cm
  un := un
  bn := by rw [e4]; exact bn
  fns := fun f x h => by
    subst e1 e2 e3 e4 e5
    obtain ⟨sm, j, np, q1, q2, c⟩ := hs.get h
    obtain ⟨fa, fd', ps', p1, p2, p3, p4⟩ := c.ex
    refine ⟨np, fun ds r h => c.len ds r ?_, ⟨CX0, j, fa, fd', ps', hr.mono q2, p1, p2, p3, ?_, fun _ _ _ _ _ h => h⟩⟩
    · have h : (ss[f]?).bind (fun s => s ds) = some r := h
      rw [q1] at h
      exact h
    · refine p4.imp fun vs H Q E ⟨F, ds, r, a1, a2, a3, a4, a5⟩ => ⟨F, ds, r, a1, a2, a3, ?_, a5⟩
      have h : (ss[f]?).bind (fun s => s ds) = some r := a4
      rw [q1] at h
      exact h
  gls := fun g x d h1 h2 => by subst e3 e4; exact hg.get h1 h2
  xfn := fun f x h => by
    subst e1 e2 e3 e4 e5
    obtain ⟨sm, j, np, q1, q2, c⟩ := hx.get h
    obtain ⟨fa, fd', ps', p1, p2, p3, p4⟩ := c.ex
    refine ⟨np, fun ds r h => c.len ds r ?_, ⟨j, fa, fd', ps', hr.mono q2, p1, p2, p3, ?_⟩⟩
    · have h : (xss[f]?).bind (fun s => s ds) = some r := h
      rw [q1] at h
      exact h
    · refine p4.imp fun vs H Q E ⟨F, ds, r, a1, a2, a3, a4, a5⟩ => ⟨F, ds, r, a1, a2, a3, ?_, a5⟩
      have h : (xss[f]?).bind (fun s => s ds) = some r := a4
      rw [q1] at h
      exact h
  xc := by rw [e3, e4]; exact xc
  x1 := fun nm f h => by
    subst e1 e2 e3 e4 e5
    exact ⟨(x1 nm f h).1, hr.mono (x1 nm f h).2⟩
  gd := by subst e2 e3 e4; exact gd
  ofs := by rw [e3]; exact to.o
  al := fun g d h => by
    subst e1 e2 e3 e4 e5
    exact ⟨(to.a g d h).1, (L2H.roomH_of hr).mono (to.a g d h).2⟩
  im := fun cl m s h => by
    subst e1 e2 e3 e4 e5
    obtain ⟨j, q2, c⟩ := to.i cl m s h
    obtain ⟨fa, fd', ps', np, p1, p2, p3, p4, p5⟩ := c.ex
    exact ⟨CX0, j, fa, fd', ps', np, hr.mono q2, p1, p2, p3, p4, p5.imp fun vs H Q E ⟨F, ds, r, a1, a2, a3, a4, a5⟩ => ⟨F, ds, r, a1, a2, a3, a4, a5⟩, fun _ _ _ _ _ h => h⟩
  ja := by rw [e3, e4]; exact to.j
  tfn := fun f cn x q h => by
    subst e1 e2 e3 e4 e5
    obtain ⟨h0, sm, j, np, q1, q2, c⟩ := to.t f cn x q h
    obtain ⟨fa, fd', ps', p1, p2, p3, p4⟩ := c.ex
    refine ⟨h0, np, fun pw t ds z h => c.len pw t ds z ?_, ⟨j, fa, fd', ps', hr.mono q2, p1, p2, ?_, ?_⟩⟩
    · have h : (tt.ts[f]?).bind (fun s => s pw t ds) = some z := h
      rw [q1] at h
      exact h
    · refine p3.imp fun vs H Q E ⟨F, v, t, ps, pw, ls, vs1, vs2, ds, r, u, a1, a2, a3, a4, a5, a6, a7, a8, a9, b1, b2, b3⟩ => ⟨F, v, t, ps, pw, ls, vs1, vs2, ds, r, u, a1, a2, a3, a4, a5, a6, a7, a8, a9, b1, ?_, b3⟩
      have h : (tt.ts[f]?).bind (fun s => s pw t ds) = some (r, u) := b2
      rw [q1] at h
      exact h
    · cases cn <;> exact p4
  mkc := fun f x h => by
    subst e1 e2 e3 e4 e5
    obtain ⟨h0, sm, j, np, q1, q2, c⟩ := to.c f x h
    obtain ⟨C, fa, fd', ps', p1, p2, p3, p4, p5⟩ := c.ex
    refine ⟨h0, np, fun pw t ds z h => c.len pw t ds z ?_, ⟨j, C, fa, fd', ps', hr.mono q2, p1, p2, p3, p4, ?_⟩⟩
    · have h : (tt.ts[f]?).bind (fun s => s pw t ds) = some z := h
      rw [q1] at h
      exact h
    · refine p5.imp fun vs H Q E ⟨F, v, t, ps, pw, ls, vs1, vs2, ds, r, u, a1, a2, a3, a4, a5, a6, a7, a8, a9, b1, b2, b3⟩ => ⟨F, v, t, ps, pw, ls, vs1, vs2, ds, r, u, a1, a2, a3, a4, a5, a6, a7, a8, a9, b1, ?_, b3⟩
      have h : (tt.ts[f]?).bind (fun s => s pw t ds) = some (r, u) := b2
      rw [q1] at h
      exact h
  rfn := fun f x h => by
    subst e1 e2 e3 e4 e5
    obtain ⟨sm, j, np, q1, q2, c⟩ := to.r f x h
    obtain ⟨fa, fd', ps', p1, p2, p3, p4⟩ := c.ex
    refine ⟨np, fun ds r h => c.len ds r ?_, ⟨CX0, j, fa, fd', ps', hr.mono q2, p1, p2, p3, ?_, fun _ _ _ _ _ h => h⟩⟩
    · have h : (tt.rs[f]?).bind (fun s => s ds) = some r := h
      rw [q1] at h
      exact h
    · refine p4.imp fun vs H Q E ⟨F, ds, r, a1, a2, a3, a4, a5⟩ => ⟨F, ds, r, a1, a2, a3, ?_, a5⟩
      have h : (tt.rs[f]?).bind (fun s => s ds) = some r := a4
      rw [q1] at h
      exact h }
theorem start_ok {F0 H : Hp} {N : List Str} {vs : List V} {ds : List PyData} {n np : Nat} (sm : Same F0 H) (ra : RpAll K F0 vs ds) (l : ds.length = np) (h3 : N.length = n) :
    StOk K (fun _ => []) F0 H F0 H (ds.map (fun d => some (RV.fz d)) ++ List.replicate (n - np) none) (L2.start N vs) := by
  have e0 : L2.start N vs = vs.map some ++ List.replicate (n - np) none := by
    unfold L2.start
    rw [ra.length, l, h3]
  have st : ∀ (i : Nat) (r : RV), (ds.map (fun d => some (RV.fz d)) ++ List.replicate (n - np) none)[i]? = some (some r) → ∃ d, r = .fz d := fun i r h => by
    obtain ⟨v, _, d, e, _⟩ := rpStart ra _ i r h
    exact ⟨d, e⟩
  have ok : EnvOk K F0 H (ds.map (fun d => some (RV.fz d)) ++ List.replicate (n - np) none) (L2.start N vs) := by
    rw [e0]
    refine ⟨sm, by simp [ra.length], fun i r h _ => ?_, ⟨fun i pw t h => ?_, fun j i w pw t h => ?_⟩⟩
    · obtain ⟨v, q1, d, rfl, q3⟩ := rpStart ra _ i r h
      exact ⟨v, q1, .fz q3⟩
    · obtain ⟨d, e⟩ := st i _ h; cases e
    · obtain ⟨d, e⟩ := st j _ h; cases e
  have no : ∀ i p, OwnAt H (ds.map (fun d => some (RV.fz d)) ++ List.replicate (n - np) none) (L2.start N vs) i p → False := fun i p ⟨r, u, q1, q2, q3⟩ => by
    obtain ⟨d, rfl⟩ := st i r q1
    exact q3
  exact ⟨.refl sm, ok, fun i p h => (no i p h).elim, fun i j p h _ => (no i p h).elim, fun i pw t h => by obtain ⟨d, e⟩ := st i _ h; cases e⟩
theorem fn_mkT {x qual : Str} {st : Stmt} {f : Addr} {fd : FuncData} {N ps : List Str} {df : Df}
    (F : Fun K x qual st f fd) (hc : chkDT fns gls xns tn N ps df st = true) (hs : Cals P w K mg base k fns ss) (hg : Gls K mg gls gs) (hx : CalsX P w K mg base k xns xss) (xc : XcOk K mg T.rzs T.cls T.fls T.m0s) (x1 : ∀ nm f, T.m1s.lookup nm = some f → X1 P w K mg base nm f ∧ 2 ≤ k) (bn : ∀ x ∈ bnames, mg x = none) (gd : GdAt K mg w T.gds := by first | assumption | exact GdAt.none) (to : TrsOk P w K mg base k tn tt := by first | assumption | exact TrsOk.none) :
    FnOk P w K mg base CX0 (k + 1) f fd ps (spD K df.np (runD (tabT ss gs xss T tt) df)) := by
  unfold chkDT at hc
  simp only [Bool.and_eq_true, decide_eq_true_eq] at hc
  obtain ⟨⟨⟨h1, h2⟩, h3⟩, h4⟩ := hc
  have S := scB_ok h1
  refine F.ok S (fun vs H Q E ⟨_, ds, r, _, ra, l, _, _⟩ => by rw [ra.length, l, h2]) fun cdv A outer s H vs Q E hr ⟨F0, ds, r, sm, ra, l, hq, post⟩ => ?_
  let X : Cx := (cxOf CX0 P w K mg base N qual (defScope st) f cdv A outer s H E).nox
  have un : X.A.units + 200 < cLine := by have := hr.un; show (A.deeper (envOfC qual (defScope st) s.heap.objs.size f cdv)).units + 200 < cLine; omega
  have C0 : CO X ⟨defScope st, N, fun _ => true, fns, gls, xns, tn.tns, tn.rns, tn.cns⟩ (tabT ss gs xss T tt) := co_mk hs hg hx xc x1 gd to bn rfl rfl rfl rfl rfl rfl rfl S.nd rfl rfl un hr
  have C : COS X ⟨defScope st, N, fun _ => true, fns, gls, xns, tn.tns, tn.rns, tn.cns⟩ (tabT ss gs xss T tt) (fun _ _ _ => False) := { toCO := C0, tk := fun _ _ ⟨_, _, _, _, _, _, _, _, _, _, _, _, _, _, _, _, h⟩ => h.elim, po := PassesOwn.never, stk := rfl, frm := rfl }
  refine ⟨_, sndSs df.body C h4, ?_⟩
  unfold runD at hq
  rw [if_pos l] at hq
  obtain ⟨o, g1, g2⟩ := bnd hq
  refine ⟨_, F0, H, F0, _, o, start_ok sm ra l h3, g1, ?_⟩
  cases o with
  | rt r' =>
    dsimp only at g2
    by_cases hx' : (r'.isX || !r'.pl) = true
    · rw [if_pos hx'] at g2; cases g2
    rw [if_neg hx'] at g2
    cases g2
    simp only [Bool.or_eq_true, not_or, Bool.not_eq_true', Bool.not_eq_true, Bool.not_eq_false] at hx'
    refine ⟨fun v F1 H1 x1 w1 n1 => ?_, fun d e => by subst e; exact absurd hx'.1 (by simp [RV.isX])⟩
    rcases w1 with w1 | ⟨pw, t, ps, e, _⟩
    · exact post v F1 H1 x1 w1 n1
    · rw [e] at hx'; cases hx'.2
  | re r' e2 =>
    dsimp only at g2
    by_cases hx' : (r'.isX || !r'.pl) = true
    · rw [if_pos hx'] at g2; cases g2
    rw [if_neg hx'] at g2
    cases g2
    simp only [Bool.or_eq_true, not_or, Bool.not_eq_true', Bool.not_eq_true, Bool.not_eq_false] at hx'
    exact ⟨fun v F1 σ1 H1 s1 w1 n1 => post v F1 H1 s1.ext w1 fun p hp => (n1 p hp).1, fun d e => by subst e; exact absurd hx'.1 (by simp [RV.isX])⟩
  | nx e =>
    cases g2
    exact fun F1 σ1 H1 s1 => post .non F1 H1 s1.ext (.fz .non) newFz
  | bk e => cases g2
  | ct e => cases g2
theorem cal_mkT {x z : Str} {st : Stmt} {f : Addr} {fd : FuncData} {N ps : List Str} {df : Df}
    (F : Fun K z z st f fd) (hm : mg x = some (.ref f)) (hb : Binds K fd ps []) (hc : chkDT fns gls xns tn N ps df st = true) (hs : Cals P w K mg base k fns ss) (hg : Gls K mg gls gs) (hx : CalsX P w K mg base k xns xss) (xc : XcOk K mg T.rzs T.cls T.fls T.m0s) (x1 : ∀ nm f, T.m1s.lookup nm = some f → X1 P w K mg base nm f ∧ 2 ≤ k) (bn : ∀ x ∈ bnames, mg x = none) (gd : GdAt K mg w T.gds := by first | assumption | exact GdAt.none) (to : TrsOk P w K mg base k tn tt := by first | assumption | exact TrsOk.none) :
    Cal P w K mg base (k + 1) x df.np (runD (tabT ss gs xss T tt) df) :=
  ⟨fun ds r h => runD_len h, f, fd, ps, hm, F.kp, hb, fn_mkT F hc hs hg hx xc x1 bn gd to⟩
theorem cal_mkI {z qual cl m : Str} {st : Stmt} {f : Addr} {fd : FuncData} {N ps : List Str} {df : Df}
    (F : Fun K z qual st f fd) (hcl : ∀ C, ClsAt K cl C → L2.Cls K C ∧ L2.Meth K C m f) (hb : Binds K fd ps []) (hc : chkDT fns gls xns tn N ps df st = true) (hs : Cals P w K mg base k fns ss) (hg : Gls K mg gls gs) (hx : CalsX P w K mg base k xns xss) (xc : XcOk K mg T.rzs T.cls T.fls T.m0s) (x1 : ∀ nm f, T.m1s.lookup nm = some f → X1 P w K mg base nm f ∧ 2 ≤ k) (bn : ∀ x ∈ bnames, mg x = none) (gd : GdAt K mg w T.gds := by first | assumption | exact GdAt.none) (to : TrsOk P w K mg base k tn tt := by first | assumption | exact TrsOk.none) :
    CalI P w K mg base (k + 1) cl m (runD (tabT ss gs xss T tt) df) :=
  ⟨f, fd, ps, df.np, F.kp, hb, hcl, fun ds r h => runD_len h, fn_mkT F hc hs hg hx xc x1 bn gd to⟩
theorem at_mid {α : Type} {A B : List α} {x y : α} {i : Nat} (h : (A ++ x :: B)[i]? = some y) : A[i]? = some y ∧ i < A.length ∨ i = A.length ∧ y = x ∨ ∃ j, i = A.length + 1 + j ∧ B[j]? = some y := by
  by_cases h1 : i < A.length
  · rw [List.getElem?_append_left h1] at h
    exact .inl ⟨h, h1⟩
  · rw [List.getElem?_append_right (by omega)] at h
    by_cases h2 : i = A.length
    · subst h2
      rw [Nat.sub_self] at h
      cases h
      exact .inr (.inl ⟨rfl, rfl⟩)
    · refine .inr (.inr ⟨i - A.length - 1, by omega, ?_⟩)
      have e : i - A.length = (i - A.length - 1) + 1 := by omega
      rw [e] at h
      exact h
theorem start_T {F H : Hp} {N : List Str} {vs1 vs2 : List V} {v : V} {ds : List PyData} {n np q : Nat} {t : OT} {ps : List Addr} {pw : List (List Stp)} {ls : List V} (sm : Same F H) (tr : Tr K F H v t ps) (nd : ps.Nodup) (hn : t.isNd = true) (pn : PinsAt H v t pw ls) (ra : RpAll K F (vs1 ++ vs2) ds) (hq : vs1.length = q) (l : ds.length + 1 = np) (h3 : N.length = n) :
    StOk K (fun j => if j = q then ls.take pw.length ++ [v] else []) F (restT H ps) F H ((ds.take q).map (fun d => some (RV.fz d)) ++ some (.tr (pw ++ [[]]) t) :: (ds.drop q).map (fun d => some (RV.fz d)) ++ List.replicate (n - np) none) (L2.start N (vs1 ++ v :: vs2)) ∧
      (L2.start N (vs1 ++ v :: vs2))[q]? = some (some v) := by
  have rl := ra.length
  rw [List.length_append] at rl
  have ra1 : RpAll K F vs1 (ds.take q) := by
    have := ra.take q
    rw [List.take_append_of_le_length (by omega), ← hq, List.take_length] at this
    rw [← hq]; exact this
  have ra2 : RpAll K F vs2 (ds.drop q) := by
    have := ra.drop q
    rw [List.drop_append_of_le_length (by omega), ← hq, List.drop_length, List.nil_append] at this
    rw [← hq]; exact this
  have e0 : L2.start N (vs1 ++ v :: vs2) = vs1.map some ++ some v :: (vs2.map some ++ List.replicate (n - np) none) := by
    unfold L2.start
    rw [h3, List.length_append, List.length_cons, show vs1.length + (vs2.length + 1) = np by omega, List.map_append, List.map_cons, List.append_assoc, List.cons_append]
  have e1 : (ds.take q).map (fun d => some (RV.fz d)) ++ some (.tr (pw ++ [[]]) t) :: (ds.drop q).map (fun d => some (RV.fz d)) ++ List.replicate (n - np) none = (ds.take q).map (fun d => some (RV.fz d)) ++ some (.tr (pw ++ [[]]) t) :: ((ds.drop q).map (fun d => some (RV.fz d)) ++ List.replicate (n - np) none) := by
    rw [List.append_assoc, List.cons_append]
  rw [e0, e1]
  have lt : (ds.take q).length = q := by rw [List.length_take]; omega
  have at_ : ∀ (i : Nat) r, ((ds.take q).map (fun d => some (RV.fz d)) ++ some (.tr (pw ++ [[]]) t) :: ((ds.drop q).map (fun d => some (RV.fz d)) ++ List.replicate (n - np) none))[i]? = some (some r) → (i = q ∧ r = .tr (pw ++ [[]]) t) ∨ ∃ d u, r = .fz d ∧ (vs1.map some ++ some v :: (vs2.map some ++ List.replicate (n - np) none))[i]? = some (some u) ∧ Rp K F u d := fun i r h => by
    rcases at_mid h with ⟨h, hl⟩ | ⟨h2, e⟩ | ⟨j, h2, h'⟩
    · rw [List.length_map, lt] at hl
      obtain ⟨u, k1, d, k2, k3⟩ := rpStart ra1 0 i r (by simpa using h)
      refine .inr ⟨d, u, k2, ?_, k3⟩
      rw [List.getElem?_append_left (by rw [List.length_map]; omega)]
      simpa using k1
    · cases e
      exact .inl ⟨by rw [h2, List.length_map, lt], rfl⟩
    · obtain ⟨u, k1, d, k2, k3⟩ := rpStart ra2 (n - np) j r h'
      refine .inr ⟨d, u, k2, ?_, k3⟩
      rw [h2, List.length_map, lt, List.getElem?_append_right (by rw [List.length_map]; omega), List.length_map, show q + 1 + j - vs1.length = j + 1 by omega]
      exact k1
  have atq : (vs1.map some ++ some v :: (vs2.map some ++ List.replicate (n - np) none))[q]? = some (some v) := by
    rw [List.getElem?_append_right (by rw [List.length_map]; omega), List.length_map, hq, Nat.sub_self]
    rfl
  have own : ∀ i p, OwnAt H ((ds.take q).map (fun d => some (RV.fz d)) ++ some (.tr (pw ++ [[]]) t) :: ((ds.drop q).map (fun d => some (RV.fz d)) ++ List.replicate (n - np) none)) (vs1.map some ++ some v :: (vs2.map some ++ List.replicate (n - np) none)) i p → i = q ∧ p ∈ ps := fun i p ⟨r, u, q1, q2, q3⟩ => by
    rcases at_ i r q1 with ⟨e1, e2⟩ | ⟨d, u', e, _⟩
    · subst e1 e2
      rw [atq] at q2
      cases q2
      exact ⟨rfl, (foot_tr tr).mp q3⟩
    · subst e; exact q3.elim
  have aw : ∀ b o, F b = some o → b ∉ ps := fun b o e z => by rw [(tr.there b z).1] at e; cases e
  refine ⟨⟨⟨Same.refl _, sm, restT_sub, fun _ _ e => .inl e⟩, ⟨sm, ?_, fun i r h hp => ?_, ⟨fun i pw2 u h => ?_, fun j i w pw2 u h h' => ?_⟩⟩, fun i p h => restT_in (own i p h).2, fun i j p h h' => by rw [(own i p h).1, (own j p h').1], fun i pw2 u h => ?_⟩, atq⟩
  · simp only [List.length_append, List.length_map, List.length_cons, lt, List.length_replicate, List.length_drop]
    omega
  · rcases at_ i r h with ⟨_, e⟩ | ⟨d, u, e, k, rp⟩
    · subst e; cases hp
    · subst e; exact ⟨u, k, .fz rp⟩
  · rcases at_ i _ h with ⟨e1, e⟩ | ⟨d, u, e, _⟩
    · subst e1
      cases e
      exact ⟨v, ps, atq, tr, nd⟩
    · cases e
  · rcases at_ j _ h with ⟨_, e⟩ | ⟨d, u, e, _⟩ <;> cases e
  · rcases at_ i _ h with ⟨e1, e⟩ | ⟨d, u, e, _⟩
    · subst e1
      cases e
      refine ⟨v, atq, fun m w hw => ?_⟩
      have hlen : (ls.take pw.length).length = pw.length := by
        rw [List.length_take]
        by_cases h0 : pw.length = 0
        · rw [h0]; simp
        · obtain ⟨a', u, g3, _⟩ := pn (pw.length - 1) pw[pw.length - 1] (by rw [List.getElem?_eq_getElem])
          have := (List.getElem?_eq_some_iff.mp g3).1
          omega
      rw [if_pos rfl]
      by_cases hm : m < pw.length
      · rw [List.getElem?_append_left hm] at hw
        obtain ⟨a', u, g3, g4, g5, g6⟩ := pn m w hw
        exact ⟨a', u, by rw [List.getElem?_append_left (by omega), List.getElem?_take_of_lt hm]; exact g3, g4, g5, g6⟩
      · rw [List.getElem?_append_right (by omega)] at hw
        have hm2 : m = pw.length := by
          have := (List.getElem?_eq_some_iff.mp hw).1
          simp at this
          omega
        subst hm2
        simp at hw
        subst hw
        exact ⟨v, t, by rw [List.getElem?_append_right (by omega), hlen, Nat.sub_self]; rfl, rfl, hn, rfl⟩
    · cases e
theorem treeOf_eq {pw : List (List Stp)} {o : Option RV} {u : OT} (h : treeOf pw o = some u) : o = some (.tr pw u) := by
  unfold treeOf at h
  split at h
  · split at h
    · cases h
      rename_i hp
      rw [hp]
    · cases h
  · cases h
theorem runT_len {c : Cl} {df : Df} {q : Nat} {pw : List (List Stp)} {t : OT} {ds : List PyData} {z : RV × OT} (h : runT c df q pw t ds = some z) : ds.length + 1 = df.np := by
  unfold runT at h
  split at h
  · rename_i h'; exact h'.1
  · cases h
theorem fn_mkTT {x qual : Str} {st : Stmt} {f : Addr} {fd : FuncData} {N ps : List Str} {df : Df} {q : Nat} {fit : OT → Bool}
    (F : Fun K x qual st f fd) (hc : chkDT fns gls xns tn N ps df st = true) (hs : Cals P w K mg base k fns ss) (hg : Gls K mg gls gs) (hx : CalsX P w K mg base k xns xss) (xc : XcOk K mg T.rzs T.cls T.fls T.m0s) (x1 : ∀ nm f, T.m1s.lookup nm = some f → X1 P w K mg base nm f ∧ 2 ≤ k) (bn : ∀ x ∈ bnames, mg x = none) (gd : GdAt K mg w T.gds := by first | assumption | exact GdAt.none) (to : TrsOk P w K mg base k tn tt := by first | assumption | exact TrsOk.none) :
    FnOk P w K mg base (L2.CX P w) (k + 1) f fd ps (spT K q df.np fit (runT (tabT ss gs xss T tt) df q)) := by
  unfold chkDT at hc
  simp only [Bool.and_eq_true, decide_eq_true_eq] at hc
  obtain ⟨⟨⟨h1, h2⟩, h3⟩, h4⟩ := hc
  have S := scB_ok h1
  refine F.okX S (fun vs H Q E ⟨_, v, _, _, _, _, vs1, vs2, ds, _, _, ev, _, _, _, _, _, _, _, ra, l, _⟩ => by
    have := ra.length
    rw [List.length_append] at this
    rw [ev, List.length_append, List.length_cons, h2]
    omega) fun cdv A outer s H vs Q E hr ⟨F0, v, t, pl, pw, ls, vs1, vs2, ds, r, u, ev, hq1, sm, tr, nd, hn, hf, pn, ra, l, hq, post, px⟩ => ?_
  let X : Cx := cxOf (L2.CX P w) P w K mg base N qual (defScope st) f cdv A outer s H E
  have un : X.A.units + 200 < cLine := by have := hr.un; show (A.deeper (envOfC qual (defScope st) s.heap.objs.size f cdv)).units + 200 < cLine; omega
  have C0 : CO X ⟨defScope st, N, fun _ => true, fns, gls, xns, tn.tns, tn.rns, tn.cns⟩ (tabT ss gs xss T tt) := co_mk hs hg hx xc x1 gd to bn rfl rfl rfl rfl rfl rfl rfl S.nd rfl rfl un hr
  have C : COS X ⟨defScope st, N, fun _ => true, fns, gls, xns, tn.tns, tn.rns, tn.cns⟩ (tabT ss gs xss T tt) E := { toCO := C0, tk := takes_of rfl rfl rfl rfl, po := passes_of rfl, stk := rfl, frm := rfl }
  refine ⟨_, sndSs df.body C h4, ?_⟩
  subst ev
  unfold runT at hq
  split at hq
  case isFalse => cases hq
  rename_i hlen
  obtain ⟨o, g1, g2⟩ := bnd hq
  obtain ⟨st0, atq⟩ := start_T (n := df.n) (np := df.np) sm tr nd hn pn ra hq1 l h3
  refine ⟨_, F0, restT H pl, F0, _, o, st0, g1, ?_⟩
  -- what stands at the end
  have fin : ∀ {env' : Ev} {F' H' : Hp} {σ' : L2.St}, env'[q]? = some (some (.tr (pw ++ [[]]) u)) → StOk K (fun j => if j = q then ls.take pw.length ++ [v] else []) F0 (restT H pl) F' H' env' σ' → ∃ qs, Tr K F' H' v u qs ∧ qs.Nodup ∧ (∀ b ∈ qs, b ∈ pl ∨ H b = none) ∧ PinsAt H' v u pw ls ∧ ∀ b ∈ qs, OwnAt H' env' σ' q b := fun he s' => by
    obtain ⟨v', qs, k1, k2, k3⟩ := s'.ok.tr_.tr _ _ _ he
    obtain ⟨v2, k4, k5⟩ := s'.pin _ _ _ he
    rw [k1] at k4
    cases k4
    have hlen2 : (ls.take pw.length).length = pw.length := by
      rw [List.length_take]
      by_cases h0 : pw.length = 0
      · rw [h0]; simp
      · obtain ⟨a', u, g3, _⟩ := pn (pw.length - 1) pw[pw.length - 1] (by rw [List.getElem?_eq_getElem])
        have := (List.getElem?_eq_some_iff.mp g3).1
        omega
    have ev : v' = v := by
      obtain ⟨a, u', m1, m2, m3, m4⟩ := k5 pw.length [] (by simp)
      have m1 : (if q = q then ls.take pw.length ++ [v] else [])[pw.length]? = some a := m1
      rw [if_pos rfl, List.getElem?_append_right (by omega), hlen2, Nat.sub_self] at m1
      cases m1
      cases m4
      rfl
    subst ev
    have oq : ∀ b ∈ qs, OwnAt _ _ _ q b := fun b hb => ⟨_, v', he, k1, (foot_tr k2).mpr hb⟩
    refine ⟨qs, k2, k3, fun b hb => ?_, fun n w hw => ?_, oq⟩
    · have := s'.own q b (oq b hb)
      by_cases hp : b ∈ pl
      · exact .inl hp
      · rw [restT_out hp] at this
        exact .inr this
    · have hn : n < pw.length := (List.getElem?_eq_some_iff.mp hw).1
      obtain ⟨a, u', m1, m2, m3, m4⟩ := k5 n w (by rw [List.getElem?_append_left hn]; exact hw)
      have m1 : (if q = q then ls.take pw.length ++ [v'] else [])[n]? = some a := m1
      rw [if_pos rfl, List.getElem?_append_left (by omega), List.getElem?_take_of_lt hn] at m1
      exact ⟨a, u', m1, m2, m3, m4⟩
  cases o with
  | rt r' => cases g2
  | re r' e2 =>
    dsimp only at g2
    by_cases hp : r'.pl = true
    case neg => rw [if_neg hp] at g2; cases g2
    rw [if_pos hp] at g2
    obtain ⟨u', g3, g4⟩ := mpd g2
    cases g4
    have he := joinE (treeOf_eq g3)
    refine ⟨fun v1 F1 σ1 H1 s1 w1 n1 => ?_, fun d e F1 σ1 H1 cv dd s1 xt => ?_⟩
    · obtain ⟨qs, k1, k2, k3, k4, k5⟩ := fin he s1
      refine post v1 F1 H1 qs s1.ext w1 k1 k2 k3 k4 fun b hb => ⟨?_, fun z => (n1 b hb).2 q (k5 b z)⟩
      have := (n1 b hb).1
      by_cases hp : b ∈ pl
      · exact .inl hp
      · rw [restT_out hp] at this
        exact .inr this
    · obtain ⟨qs, k1, k2, k3, k4, _⟩ := fin he s1
      exact px d e F1 H1 qs cv dd s1.ext k1 k2 k3 k4 xt
  | nx e2 =>
    obtain ⟨u', g3, g4⟩ := mpd (show (treeOf (pw ++ [[]]) (e2[q]?).join).map _ = some (r, u) from g2)
    cases g4
    have he := joinE (treeOf_eq g3)
    intro F1 σ1 H1 s1
    obtain ⟨qs, k1, k2, k3, k4, _⟩ := fin he s1
    exact post .non F1 H1 qs s1.ext (.fz .non) k1 k2 k3 k4 fun b hb => hb.elim
  | bk e => cases g2
  | ct e => cases g2
theorem cal_mk {x z : Str} {st : Stmt} {f : Addr} {fd : FuncData} {N ps : List Str} {df : Df}
    (F : Fun K z z st f fd) (hm : mg x = some (.ref f)) (hb : Binds K fd ps []) (hc : chkD fns gls N ps df st = true) (hs : Cals P w K mg base k fns ss) (hg : Gls K mg gls gs) (bn : ∀ x ∈ bnames, mg x = none) :
    Cal P w K mg base (k + 1) x df.np (runD (tabC ss gs) df) := cal_mkT F hm hb hc hs hg .nil XcOk.none no1 bn
end
def scrD (ns : List Int) : PyData := .dict [(.none, .list (ns.map PyData.int))]
theorem law_sp {sem : List PyData → Option RV} {n : Nat} (h : ∀ ns : List Int, ns.length ≤ n → sem [scrD ns] = some (.fz (.bool true))) (H : Hp) (a : Addr) (ns : List Int) (hl : ns.length ≤ n) (hS : SqL K H a (ns.map V.int)) :
    spD K 1 sem [.ref a] H (fun v _ => v = .bl true) fun _ _ _ => False :=
  ⟨H, [scrD ns], _, Same.refl _, .cons (.scr hS) .nil, rfl, h ns hl, fun v F' H' x w n => w.bool⟩
end
end Mn
namespace Mn
open PySem PySem.Spec PyProof.Rows L2
section
variable {K : PySem.W.Frag} {mg : Str → Option Value} {x : Str}
end
end Mn
namespace Mn
open PySem PySem.Spec PyProof.Rows L2
section
variable (P : Program) (w : World) (K : PySem.W.Frag) (mg : Str → Option Value) (base : Heap)
inductive CalsT (k : Nat) : List (Option Str × Str × Nat) → List (List (List Stp) → OT → List PyData → Option (RV × OT)) → List (Option (Str × Str)) → Prop
  | nil : CalsT k [] [] []
  | cons {j : Nat} {cn : Option Str} {x : Str} {q np : Nat} {s : List (List Stp) → OT → List PyData → Option (RV × OT)} {xs : List (Option Str × Str × Nat)} {ss : List (List (List Stp) → OT → List PyData → Option (RV × OT))} {cs : List (Option (Str × Str))} : CalT P w K mg base j cn x q np s → j ≤ k → CalsT k xs ss cs → CalsT k ((cn, x, q) :: xs) (s :: ss) ((cn.map fun y => (y, x)) :: cs)
inductive CalsR (k : Nat) : List Str → List (List PyData → Option OT) → Prop
  | nil : CalsR k [] []
  | cons {j : Nat} {x : Str} {np : Nat} {s : List PyData → Option OT} {xs : List Str} {ss : List (List PyData → Option OT)} : CalR P w K mg base j x np s → j ≤ k → CalsR k xs ss → CalsR k (x :: xs) (s :: ss)
inductive CalsC (k : Nat) (ts : List (List (List Stp) → OT → List PyData → Option (RV × OT))) (tc : List (Option (Str × Str))) : List (Nat × Str) → Prop
  | nil : CalsC k ts tc []
  | cons {j f : Nat} {x : Str} {np : Nat} {s : List (List Stp) → OT → List PyData → Option (RV × OT)} {xs : List (Nat × Str)} : ts[f]? = some s → (tc[f]?).join = some (x, ("__init__" : Str)) → CalC P w K mg base j x np s → j + 1 ≤ k → CalsC k ts tc xs → CalsC k ts tc ((f, x) :: xs)
end
section
variable {P : Program} {w : World} {K : PySem.W.Frag} {mg : Str → Option Value} {base : Heap} {k : Nat}
theorem CalsT.get {xs : List (Option Str × Str × Nat)} {ss : List (List (List Stp) → OT → List PyData → Option (RV × OT))} {cs : List (Option (Str × Str))} (h : CalsT P w K mg base k xs ss cs) : ∀ {f : Nat} {cn : Option Str} {x : Str} {q : Nat}, xs[f]? = some (cn, x, q) → (cs[f]?).join = (cn.map fun y => (y, x)) ∧ ∃ s j np, ss[f]? = some s ∧ j ≤ k ∧ CalT P w K mg base j cn x q np s := by
  induction h with
  | nil => intro f cn x q h; simp at h
  | cons c l _ ih =>
    intro f cn x q h
    cases f with
    | zero =>
      simp at h
      obtain ⟨rfl, rfl, rfl⟩ := h
      exact ⟨rfl, _, _, _, rfl, l, c⟩
    | succ f =>
      obtain ⟨h1, h2⟩ := ih (f := f) (by simpa using h)
      exact ⟨by simpa using h1, by simpa using h2⟩
theorem CalsR.get {xs : List Str} {ss : List (List PyData → Option OT)} (h : CalsR P w K mg base k xs ss) : ∀ {f : Nat} {x : Str}, xs[f]? = some x → ∃ s j np, ss[f]? = some s ∧ j ≤ k ∧ CalR P w K mg base j x np s := by
  induction h with
  | nil => intro f x h; simp at h
  | cons c l _ ih =>
    intro f x h
    cases f with
    | zero => simp at h; subst h; exact ⟨_, _, _, rfl, l, c⟩
    | succ f => exact ih (by simpa using h)
theorem CalsC.get {ts : List (List (List Stp) → OT → List PyData → Option (RV × OT))} {tc : List (Option (Str × Str))} {xs : List (Nat × Str)} (h : CalsC P w K mg base k ts tc xs) : ∀ {f : Nat} {x : Str}, (f, x) ∈ xs → (tc[f]?).join = some (x, ("__init__" : Str)) ∧ ∃ s j np, ts[f]? = some s ∧ j + 1 ≤ k ∧ CalC P w K mg base j x np s := by
  induction h with
  | nil => intro f x h; simp at h
  | cons h1 h2 c l _ ih =>
    intro f x h
    rcases List.mem_cons.mp h with e | h
    · cases e
      exact ⟨h2, _, _, _, h1, l, c⟩
    · exact ih h
def OfsOk (K : PySem.W.Frag) (ofs : List (Str × Str)) : Prop := ∀ nm f, (nm, f) ∈ ofs → ∀ C, ClsAt K nm C → L2.Cls K C ∧ L2.NoAttr K C f
theorem OfsOk.nil : OfsOk K [] := fun _ _ h => by simp at h
theorem OfsOk.cons {nm f : Str} {C : Addr} {ofs : List (Str × Str)} (hC : ClsAt K nm C) (c : L2.Cls K C) (n : L2.NoAttr K C f) (h : OfsOk K ofs) : OfsOk K ((nm, f) :: ofs) := fun nm' f' hm C' hC' => by
  rcases List.mem_cons.mp hm with e | hm
  · cases e
    have e1 : PySem.W.nsIn K mainGlobals nm = some (some (.ref C)) := hC
    have e2 : PySem.W.nsIn K mainGlobals nm = some (some (.ref C')) := hC'
    rw [e1] at e2
    cases e2
    exact ⟨c, n⟩
  · exact h nm' f' hm C' hC'
def ImsOk (P : Program) (w : World) (K : PySem.W.Frag) (mg : Str → Option Value) (base : Heap) (k : Nat) (ims : List ((Str × Str) × (List PyData → Option RV))) : Prop := ∀ cl m s, ims.lookup (cl, m) = some s → ∃ j, j ≤ k ∧ CalI P w K mg base j cl m s
def JasOk (K : PySem.W.Frag) (mg : Str → Option Value) (jas : List ((Str × Str) × Bool)) : Prop := ∀ nm D b, jas.lookup (nm, D) = some b → ∃ E, mg D = some (.ref E) ∧ ∀ C, ClsAt K nm C → IsJ K C E b
theorem ImsOk.nil : ImsOk P w K mg base k [] := fun _ _ _ h => by cases h
theorem JasOk.nil : JasOk K mg [] := fun _ _ _ h => by cases h
theorem ImsOk.cons {j : Nat} {cl m : Str} {s : List PyData → Option RV} {ims : List ((Str × Str) × (List PyData → Option RV))} (h : CalI P w K mg base j cl m s) (hj : j ≤ k) (t : ImsOk P w K mg base k ims) : ImsOk P w K mg base k (((cl, m), s) :: ims) := fun cl' m' s' e => by
  rw [List.lookup_cons] at e
  split at e
  · rename_i q
    cases e
    rw [beq_iff_eq] at q
    cases q
    exact ⟨j, hj, h⟩
  · exact t cl' m' s' e
theorem JasOk.cons {nm D : Str} {b : Bool} {E : Addr} {jas : List ((Str × Str) × Bool)} (hm : mg D = some (.ref E)) (h : ∀ C, ClsAt K nm C → IsJ K C E b) (t : JasOk K mg jas) : JasOk K mg (((nm, D), b) :: jas) := fun nm' D' b' e => by
  rw [List.lookup_cons] at e
  split at e
  · rename_i q
    cases e
    rw [beq_iff_eq] at q
    cases q
    exact ⟨E, hm, h⟩
  · exact t nm' D' b' e
theorem trs_j {cns : List (Nat × Str)} {ts : List (List (List Stp) → OT → List PyData → Option (RV × OT))} {tc : List (Option (Str × Str))} {ofs : List (Str × Str)} {ims : List ((Str × Str) × (List PyData → Option RV))} {jas : List ((Str × Str) × Bool)} (c : CalsC P w K mg base k ts tc cns) (o : OfsOk K ofs) (i : ImsOk P w K mg base k ims) (j : JasOk K mg jas) : TrsOk P w K mg base k ⟨[], [], cns⟩ ⟨ts, [], tc, ofs, [], ims, jas⟩ :=
  ⟨fun f cn x q h => by simp at h, fun f x h => c.get h, fun f x h => by simp at h, o, fun g d h => (by cases h), i, j⟩
end
end Mn
namespace Mn
open PySem PySem.Spec PyProof.Rows L2
@[simp] theorem plO_fz (d : PyData) : plO (.fz d) = some (.fz d) := rfl
@[simp] theorem plO_ol (d : List PyData) : plO (.ol d) = some (.ol d) := rfl
@[simp] theorem plO_od (d : List (PyData × PyData)) : plO (.od d) = some (.od d) := rfl
@[simp] theorem plO_on (d : List (List PyData)) : plO (.on d) = some (.on d) := rfl
@[simp] theorem q_ev_var (c : Cl) (env : Ev) (i : Nat) : ev c env (.var i) = ((env[i]?).join).bind plO := by simp only [ev]
@[simp] theorem q_ev_int (c : Cl) (env : Ev) (i : Int) : ev c env (.int i) = (some (.fz (.int i))) := by simp only [ev]
@[simp] theorem q_ev_str (c : Cl) (env : Ev) (x : Str) : ev c env (.str x) = (some (.fz (.str x))) := by simp only [ev]
@[simp] theorem q_ev_bl (c : Cl) (env : Ev) (b : Bool) : ev c env (.bl b) = (some (.fz (.bool b))) := by simp only [ev]
@[simp] theorem q_ev_non (c : Cl) (env : Ev)  : ev c env (.non ) = (some (.fz .none)) := by simp only [ev]
@[simp] theorem q_ev_glb (c : Cl) (env : Ev) (g : Nat) : ev c env (.glb g) = ((c.glb g).map .fz) := by simp only [ev]
@[simp] theorem q_ev_bin (c : Cl) (env : Ev) (o : Bo) (a : Ex) (b : Ex) : ev c env (.bin o a b) = ((ev c env a).bind fun x => (ev c env b).bind fun y => binD o x y) := by simp only [ev]
@[simp] theorem q_ev_neg (c : Cl) (env : Ev) (a : Ex) : ev c env (.neg a) = (((ev c env a).bind asInt).map fun i => .fz (.int (-i))) := by simp only [ev]
@[simp] theorem q_ev_not (c : Cl) (env : Ev) (a : Ex) : ev c env (.not a) = (((ev c env a).bind asBool).map fun b => .fz (.bool (!b))) := by simp only [ev]
@[simp] theorem q_ev_one (c : Cl) (env : Ev) (a : Ex) : ev c env (.one a) = ((ev c env a).bind fun r => (ownD a r).map .fz) := by simp only [ev]
@[simp] theorem q_ev_and (c : Cl) (env : Ev) (a : Ex) (b : Ex) : ev c env (.and a b) = (((ev c env a).bind asBool).bind fun k => if k then (ev c env b).bind fun r => (ownD b r).map .fz else some (.fz (.bool false))) := by simp only [ev]
@[simp] theorem q_ev_or (c : Cl) (env : Ev) (a : Ex) (b : Ex) : ev c env (.or a b) = (((ev c env a).bind asBool).bind fun k => if k then some (.fz (.bool true)) else (ev c env b).bind fun r => (ownD b r).map .fz) := by simp only [ev]
@[simp] theorem q_ev_cmp (c : Cl) (env : Ev) (o : Co) (a : Ex) (b : Ex) : ev c env (.cmp o a b) = ((ev c env a).bind fun x => (ev c env b).bind fun y => (cmpD o x.d y.d).map fun k => .fz (.bool k)) := by simp only [ev]
@[simp] theorem q_ev_chn (c : Cl) (env : Ev) (o : Co) (o' : Co) (a : Ex) (b : Ex) (e : Ex) : ev c env (.chn o o' a b e) = ((ev c env a).bind fun x => (ev c env b).bind fun y => (cmpD o x.d y.d).bind fun k => if k then (ev c env e).bind fun z => (cmpD o' y.d z.d).map fun k => .fz (.bool k) else some (.fz (.bool false))) := by simp only [ev]
@[simp] theorem q_ev_chn3 (c : Cl) (env : Ev) (o : Co) (o' : Co) (o2 : Co) (a : Ex) (b : Ex) (e : Ex) (d : Ex) : ev c env (.chn3 o o' o2 a b e d) = ((ev c env a).bind fun x => (ev c env b).bind fun y => (cmpD o x.d y.d).bind fun k => if k then (ev c env e).bind fun z => (cmpD o' y.d z.d).bind fun k => if k then (ev c env d).bind fun u => (cmpD o2 z.d u.d).map fun k => .fz (.bool k) else some (.fz (.bool false)) else some (.fz (.bool false))) := by simp only [ev]
@[simp] theorem q_ev_dsx (c : Cl) (env : Ev) (kvs : List (Str × Str)) (k : Ex) : ev c env (.dsx kvs k) = (ev c env k).bind fun r => dsxD kvs r := by simp only [ev]
@[simp] theorem q_isVar_dsx (kvs : List (Str × Str)) (k : Ex) : isVar (.dsx kvs k) = false := rfl
@[simp] theorem q_dsx (kvs : List (Str × Str)) (s : Str) : dsxD kvs (.fz (.str s)) = (strLook kvs s).map fun v => .fz (.str v) := rfl
@[simp] theorem q_mtI (x y : RV) : mtD .index x [y] = indexD x y := rfl
@[simp] theorem q_mtC (x y : RV) : mtD .count x [y] = countD x y := rfl
@[simp] theorem q_mtJ (x y : RV) : mtD .join x [y] = joinD x y := rfl
@[simp] theorem q_isVar_mkx (C : Str) (e : Ex) : isVar (.mkx C e) = false := rfl
@[simp] theorem q_isVar_gdx (x : Str) (k : Ex) : isVar (.gdx x k) = false := rfl
@[simp] theorem q_isVar_gin (x : Str) (k : Ex) (neg : Bool) : isVar (.gin x k neg) = false := rfl
@[simp] theorem q_isVar_lenD (i : Nat) : isVar (.lenD i) = false := rfl
@[simp] theorem q_isVar_lenI (i : Nat) (k : Ex) : isVar (.lenI i k) = false := rfl
@[simp] theorem q_isVar_jrv (a b : Ex) : isVar (.jrv a b) = false := rfl
@[simp] theorem q_isVar_rvt (a : Ex) : isVar (.rvt a) = false := rfl
@[simp] theorem q_isVar_rvl (a : Ex) : isVar (.rvl a) = false := rfl
@[simp] theorem q_isVar_sls (a : Ex) (lo st : Int) : isVar (.sls a lo st) = false := rfl
@[simp] theorem q_isVar_dsv (k1 k2 : Str) (a b k : Ex) : isVar (.dsv k1 k2 a b k) = false := rfl
@[simp] theorem q_ev_ite (c : Cl) (env : Ev) (t : Ex) (a : Ex) (b : Ex) : ev c env (.ite t a b) = (((ev c env t).bind asBool).bind fun k => if k then (ev c env a).bind fun r => (ownD a r).map .fz else (ev c env b).bind fun r => (ownD b r).map .fz) := by simp only [ev]
@[simp] theorem q_ev_tup (c : Cl) (env : Ev) (es : Exs) : ev c env (.tup es) = ((evs c env es).bind fun ds => if ds.length ≤ LIM then some (.fz (.tuple ds)) else none) := by simp only [ev]
@[simp] theorem q_ev_lst (c : Cl) (env : Ev) (es : Exs) : ev c env (.lst es) = ((evs c env es).bind fun ds => if ds.length ≤ LIM then some (.ol ds) else none) := by simp only [ev]
@[simp] theorem q_ev_call (c : Cl) (env : Ev) (f : Nat) (es : Exs) : ev c env (.call f es) = ((evb c env es).bind fun p => callD (c.call f p.1) p.2 (tpE env es)) := by simp only [ev]
@[simp] theorem q_ev_bi (c : Cl) (env : Ev) (b : Bi) (es : Exs) : ev c env (.bi b es) = ((evr c env es).bind fun rs => biD b rs) := by simp only [ev]
@[simp] theorem q_ev_mt (c : Cl) (env : Ev) (m : Mt) (a : Ex) (es : Exs) : ev c env (.mt m a es) = ((ev c env a).bind fun x => (evr c env es).bind fun rs => mtD m x rs) := by simp only [ev]
@[simp] theorem q_ev_idx (c : Cl) (env : Ev) (a : Ex) (i : Ex) : ev c env (.idx a i) = ((ev c env a).bind fun x => (ev c env i).bind fun y => idxD x y) := by simp only [ev]
@[simp] theorem q_ev_slc (c : Cl) (env : Ev) (a : Ex) (lo : Ex) (hi : Ex) : ev c env (.slc a lo hi) = ((ev c env a).bind fun x => (evo c env lo).bind fun l => (evo c env hi).bind fun h => slcD x l h) := by simp only [ev]
@[simp] theorem q_ev_emp (c : Cl) (env : Ev)  : ev c env (.emp ) = (none) := by simp only [ev]
def cmpB (c : Cl) (env : Ev) (e : Ex) (tg : Tg) (t : Ex) : PyData → Option (Option PyData) := fun x => (bindT tg env x).bind fun env' => (evt c env' t).bind fun k => if k then (ev c env' e).bind fun r => (ownD e r).map some else some none
@[simp] theorem q_ev_comp (c : Cl) (env : Ev) (e : Ex) (tg : Tg) (it : Mn.Itr) (t : Ex) (own : List Nat) : ev c env (.comp e tg it t own) = ((evi c env it).bind fun items => (compL (cmpB c (wipeE env own) e tg t) items).bind fun ds => if items.length ≤ LIM then some (.ol ds) else none) := by simp only [ev]; rfl
@[simp] theorem q_evs_nil (c : Cl) (env : Ev)  : evs c env (.nil ) = (some []) := by simp only [evs]
@[simp] theorem q_evs_cons (c : Cl) (env : Ev) (e : Ex) (es : Exs) : evs c env (.cons e es) = ((ev c env e).bind fun r => (ownD e r).bind fun d => (evs c env es).bind fun ds => some (d :: ds)) := by simp only [evs]
@[simp] theorem q_evb_nil (c : Cl) (env : Ev)  : evb c env (.nil ) = (some ([], false)) := by simp only [evb]
@[simp] theorem lnd_var (i : Nat) : lndOf (.var i) = none := rfl
@[simp] theorem lnd_int (i : Int) : lndOf (.int i) = none := rfl
@[simp] theorem lnd_bin (o : Bo) (a b : Ex) : lndOf (.bin o a b) = none := rfl
@[simp] theorem lnd_call (f : Nat) (es : Exs) : lndOf (.call f es) = none := rfl
@[simp] theorem lnd_idx (a b : Ex) : lndOf (.idx a b) = none := rfl
@[simp] theorem q_evb_cons (c : Cl) (env : Ev) (e : Ex) (es : Exs) (hl : lndOf e = none := by rfl) : evb c env (.cons e es) = ((ev c env e).bind fun r => (evb c env es).bind fun p => some (r.d :: p.1, (isVar e && r.isOwn) || p.2)) := by
  simp only [evb]
  rw [hl]
@[simp] theorem q_evr_nil (c : Cl) (env : Ev)  : evr c env (.nil ) = (some []) := by simp only [evr]
@[simp] theorem q_evr_cons (c : Cl) (env : Ev) (e : Ex) (es : Exs) : evr c env (.cons e es) = ((ev c env e).bind fun r => (evr c env es).bind fun rs => some (r :: rs)) := by simp only [evr]
@[simp] theorem q_evi_ex (c : Cl) (env : Ev) (e : Ex) : evi c env (.ex e) = ((ev c env e).bind itemsX) := by simp only [evi]
@[simp] theorem q_evi_r1 (c : Cl) (env : Ev) (a : Ex) : evi c env (.r1 a) = (((ev c env a).bind asInt).bind fun n => if -1000000 ≤ n ∧ n ≤ 1000000 then some (rngD 0 n.toNat) else none) := by simp only [evi]
@[simp] theorem q_evi_r2 (c : Cl) (env : Ev) (a : Ex) (b : Ex) : evi c env (.r2 a b) = (((ev c env a).bind asInt).bind fun m => ((ev c env b).bind asInt).bind fun n => if -1000000 ≤ m ∧ m ≤ 1000000 ∧ -1000000 ≤ n ∧ n ≤ 1000000 then some (rngD m (n - m).toNat) else none) := by simp only [evi]
@[simp] theorem q_evi_r3 (c : Cl) (env : Ev) (a : Ex) (b : Ex) (e : Ex) : evi c env (.r3 a b e) = (((ev c env a).bind asInt).bind fun m => ((ev c env b).bind asInt).bind fun n => ((ev c env e).bind asInt).bind fun k => if -1000000 ≤ m ∧ m ≤ 1000000 ∧ -1000000 ≤ n ∧ n ≤ 1000000 ∧ k = -1 then some (rngC m (-1) (m - n).toNat) else none) := by simp only [evi]
@[simp] theorem q_evi_zip (c : Cl) (env : Ev) (a : Ex) (b : Ex) : evi c env (.zip a b) = ((ev c env a).bind fun x => (ev c env b).bind fun y => zipR x y) := by simp only [evi]
@[simp] theorem q_evi_en (c : Cl) (env : Ev) (a : Ex) : evi c env (.en a) = ((ev c env a).bind fun x => (itemsOf x).map fun xs => enD 0 xs) := by simp only [evi]
@[simp] theorem q_evi_rv (c : Cl) (env : Ev) (a : Ex) : evi c env (.rv a) = (((ev c env a).bind RV.seq).map List.reverse) := by simp only [evi]
@[simp] theorem q_flat_fz (d : PyData) : RV.flat (.fz d) = true := rfl
@[simp] theorem q_flat_ol (d : List PyData) : RV.flat (.ol d) = true := rfl
@[simp] theorem q_flat_od (d : List (PyData × PyData)) : RV.flat (.od d) = true := rfl
@[simp] theorem q_exS_asg (c : Cl) (env : Ev) (i : Nat) (e : Ex) : exS c (.asg i e) env = ((ev c env e).bind fun r => if isVar e && r.isOwn then none else some (.nx (env.set i (some r)))) := by simp only [exS]
@[simp] theorem q_exS_unp (c : Cl) (env : Ev) (is : List Nat) (e : Ex) : exS c (.unp is e) env = ((ev c env e).bind fun r => (ownD e r).bind fun d => (bindT (.tp is) env d).map .nx) := by simp only [exS]
@[simp] theorem q_exS_app (c : Cl) (env : Ev) (i : Nat) (e : Ex) : exS c (.app i e) env = ((olAt env i).bind fun ds => (ev c env e).bind fun r => (ownD e r).bind fun d => if ds.length < LIM then some (.nx (env.set i (some (.ol (ds ++ [d]))))) else none) := by simp only [exS]
@[simp] theorem q_exS_ext (c : Cl) (env : Ev) (i : Nat) (e : Ex) : exS c (.ext i e) env = ((olAt env i).bind fun ds => (ev c env e).bind fun r => r.seqT.bind fun es => if ds.length + es.length ≤ LIM then some (.nx (env.set i (some (.ol (ds ++ es))))) else none) := by simp only [exS]
@[simp] theorem q_exS_ins (c : Cl) (env : Ev) (i : Nat) (k e : Ex) : exS c (.ins i k e) env = ((olAt env i).bind fun ds => ((ev c env k).bind asInt).bind fun n => (ev c env e).bind fun r => (ownD e r).bind fun d => if 0 ≤ n ∧ n ≤ LIM ∧ ds.length < LIM then some (.nx (env.set i (some (.ol (ds.take n.toNat ++ [d] ++ ds.drop n.toNat))))) else none) := by simp only [exS]
@[simp] theorem q_exS_pop (c : Cl) (env : Ev) (j : Nat) (i : Nat) (e : Ex) : exS c (.pop j i e) env = (if i = j then none else (olAt env i).bind fun ds => ((ev c env e).bind asInt).bind fun k => if 0 ≤ k then (ds[k.toNat]?).bind fun d => if ds.length ≤ LIM then some (.nx ((env.set i (some (.ol (ds.eraseIdx k.toNat)))).set j (some (.fz d)))) else none else none) := by simp only [exS]
@[simp] theorem q_exS_sti (c : Cl) (env : Ev) (i : Nat) (k : Ex) (e : Ex) : exS c (.sti i k e) env = ((ev c env e).bind fun r => (ownD e r).bind fun d => (olAt env i).bind fun ds => ((ev c env k).bind asInt).bind fun n => (ixN ds.length n).bind fun j => some (.nx (env.set i (some (.ol (ds.set j d)))))) := by simp only [exS]
@[simp] theorem q_exS_clr (c : Cl) (env : Ev) (i : Nat) : exS c (.clr i) env = ((olAt env i).bind fun ds => some (.nx (env.set i (some (.ol []))))) := by simp only [exS]
def ifK (c : Cl) (a b : Sms) (env : Ev) (k : Bool) : Option Out := if k then exSs c a env else exSs c b env
@[simp] theorem q_ifK_t (c : Cl) (a b : Sms) (env : Ev) : ifK c a b env true = exSs c a env := rfl
@[simp] theorem q_ifK_f (c : Cl) (a b : Sms) (env : Ev) : ifK c a b env false = exSs c b env := rfl
@[simp] theorem q_ifK (c : Cl) (a b : Sms) (env : Ev) (p : Prop) [Decidable p] : ifK c a b env (decide p) = if p then exSs c a env else exSs c b env := by unfold ifK; simp
@[simp] theorem q_exS_ifs (c : Cl) (env : Ev) (t : Ex) (a b : Sms) : exS c (.ifs t a b) env = ((ev c env t).bind asBool).bind (ifK c a b env) := by simp only [exS]; rfl
def forB (c : Cl) (tg : Tg) (b : Sms) : Ev → PyData → Option Out := fun env x => (bindT tg env x).bind fun env' => exSs c b env'
def whlT (c : Cl) (t : Ex) : Ev → Option Bool := fun env => (ev c env t).bind asBool
def whlB (c : Cl) (b : Sms) : Ev → Option Out := fun env => exSs c b env
@[simp] theorem q_exS_for_ (c : Cl) (env : Ev) (tg : Tg) (it : Mn.Itr) (b : Sms) : exS c (.for_ tg it b) env = if borI c env it = true then none else (evi c env it).bind fun items => forL (forB c tg b) items env := by simp only [exS]; rfl
@[simp] theorem q_exS_whl (c : Cl) (env : Ev) (t : Ex) (b : Sms) : exS c (.whl t b) env = whlL (whlT c t) (whlB c b) FUEL env := by simp only [exS]; rfl
@[simp] theorem q_exS_ret (c : Cl) (env : Ev) (e : Ex) : exS c (.ret e) env = ((ev c env e).map .rt) := by simp only [exS]
@[simp] theorem q_exS_retN (c : Cl) (env : Ev)  : exS c (.retN ) env = (some (.rt (.fz .none))) := by simp only [exS]
@[simp] theorem q_exS_drp (c : Cl) (env : Ev) (e : Ex) : exS c (.drp e) env = ((ev c env e).map fun _ => .nx env) := by simp only [exS]
@[simp] theorem q_exS_nop (c : Cl) (env : Ev)  : exS c (.nop ) env = (some (.nx env)) := by simp only [exS]
@[simp] theorem q_exS_nev (c : Cl) (env : Ev)  : exS c (.nev ) env = (none) := by simp only [exS]
@[simp] theorem q_exS_cont (c : Cl) (env : Ev)  : exS c (.cont ) env = (some (.ct env)) := by simp only [exS]
@[simp] theorem q_exS_brk (c : Cl) (env : Ev)  : exS c (.brk ) env = (some (.bk env)) := by simp only [exS]
@[simp] theorem q_exSs_nil (c : Cl) (env : Ev)  : exSs c (.nil ) env = (some (.nx env)) := by simp only [exSs]
def thenO (o : Out) (k : Ev → Option Out) : Option Out := match o with
  | .nx e => k e
  | o => some o
@[simp] theorem q_thenO_nx (e : Ev) (k : Ev → Option Out) : thenO (.nx e) k = k e := rfl
@[simp] theorem q_thenO_rt (r : RV) (k : Ev → Option Out) : thenO (.rt r) k = some (.rt r) := rfl
@[simp] theorem q_thenO_bk (e : Ev) (k : Ev → Option Out) : thenO (.bk e) k = some (.bk e) := rfl
@[simp] theorem q_thenO_ct (e : Ev) (k : Ev → Option Out) : thenO (.ct e) k = some (.ct e) := rfl
def seqK (c : Cl) (r : Sms) (o : Out) : Option Out := thenO o fun e => exSs c r e
@[simp] theorem q_seqK_nx (c : Cl) (r : Sms) (e : Ev) : seqK c r (.nx e) = exSs c r e := rfl
@[simp] theorem q_seqK_rt (c : Cl) (r : Sms) (v : RV) : seqK c r (.rt v) = some (.rt v) := rfl
@[simp] theorem q_seqK_bk (c : Cl) (r : Sms) (e : Ev) : seqK c r (.bk e) = some (.bk e) := rfl
@[simp] theorem q_seqK_ct (c : Cl) (r : Sms) (e : Ev) : seqK c r (.ct e) = some (.ct e) := rfl
@[simp] theorem q_exSs_cons (c : Cl) (env : Ev) (s : Sm) (r : Sms) : exSs c (.cons s r) env = (exS c s env).bind (seqK c r) := by
  simp only [exSs]
  rfl
def frzK (c : Cl) (i : Nat) (r : Sms) (env : Ev) (v : RV) : Option Out := if v.frzOk then exSs c r (env.set i (some (.fz v.fzD))) else none
theorem q_frzK (c : Cl) (i : Nat) (r : Sms) (env : Ev) (v : RV) (h : v.pl = true) : frzK c i r env v = exSs c r (env.set i (some (.fz v.d))) := by
  unfold frzK
  cases v <;> first | (cases h; done) | exact if_pos rfl
@[simp] theorem q_exSs_frz (c : Cl) (env : Ev) (i : Nat) (r : Sms) : exSs c (.frz i r) env = ((env[i]?).join).bind (frzK c i r env) := by
  simp only [exSs]
  rfl
@[simp] theorem q_exSs_del (c : Cl) (env : Ev) (i : Nat) (r : Sms) : exSs c (.del i r) env = exSs c r (env.set i none) := by
  simp only [exSs]
theorem run_rt {c : Cl} {f : Df} {ds : List PyData} {r : RV} (h : ds.length = f.np) (e : exSs c f.body (ds.map (fun d => some (RV.fz d)) ++ List.replicate (f.n - f.np) none) = some (.rt r)) (hx : r.isX = false := by rfl) (hp : r.pl = true := by rfl) : runD c f ds = some r := by
  unfold runD
  rw [if_pos h, e, Option.bind_some]
  dsimp only
  rw [hx, hp, if_neg (by decide)]
@[simp] theorem q_isVar_var (i : Nat) : isVar (.var i) = true := rfl
@[simp] theorem q_isVar_int (i : Int) : isVar (.int i) = false := rfl
@[simp] theorem q_isVar_str (x : Str) : isVar (.str x) = false := rfl
@[simp] theorem q_isVar_bl (b : Bool) : isVar (.bl b) = false := rfl
@[simp] theorem q_isVar_non  : isVar (.non ) = false := rfl
@[simp] theorem q_isVar_glb (g : Nat) : isVar (.glb g) = false := rfl
@[simp] theorem q_isVar_bin (o : Bo) (a b : Ex) : isVar (.bin o a b) = false := rfl
@[simp] theorem q_isVar_neg (a : Ex) : isVar (.neg a) = false := rfl
@[simp] theorem q_isVar_not (a : Ex) : isVar (.not a) = false := rfl
@[simp] theorem q_isVar_one (a : Ex) : isVar (.one a) = false := rfl
@[simp] theorem q_isVar_and (a b : Ex) : isVar (.and a b) = false := rfl
@[simp] theorem q_isVar_or (a b : Ex) : isVar (.or a b) = false := rfl
@[simp] theorem q_isVar_cmp (o : Co) (a b : Ex) : isVar (.cmp o a b) = false := rfl
@[simp] theorem q_isVar_chn (o p : Co) (a b d : Ex) : isVar (.chn o p a b d) = false := rfl
@[simp] theorem q_isVar_chn3 (o p q : Co) (a b d e : Ex) : isVar (.chn3 o p q a b d e) = false := rfl
@[simp] theorem q_isVar_ite (t a b : Ex) : isVar (.ite t a b) = false := rfl
@[simp] theorem q_isVar_tup (es : Exs) : isVar (.tup es) = false := rfl
@[simp] theorem q_isVar_lst (es : Exs) : isVar (.lst es) = false := rfl
@[simp] theorem q_isVar_call (f : Nat) (es : Exs) : isVar (.call f es) = false := rfl
@[simp] theorem q_isVar_bi (b : Bi) (es : Exs) : isVar (.bi b es) = false := rfl
@[simp] theorem q_isVar_mt (m : Mt) (a : Ex) (es : Exs) : isVar (.mt m a es) = false := rfl
@[simp] theorem q_isVar_idx (a i : Ex) : isVar (.idx a i) = false := rfl
@[simp] theorem q_isVar_slc (a l h : Ex) : isVar (.slc a l h) = false := rfl
@[simp] theorem q_isVar_emp  : isVar (.emp ) = false := rfl
@[simp] theorem q_isVar_comp (e : Ex) (g : Tg) (i : Itr) (t : Ex) (o : List Nat) : isVar (.comp e g i t o) = false := rfl
@[simp] theorem q_isOwn_fz (d : PyData) : RV.isOwn (.fz d) = false := rfl
@[simp] theorem q_isOwn_ol (d : List PyData) : RV.isOwn (.ol d) = true := rfl
@[simp] theorem q_d_fz (d : PyData) : RV.d (.fz d) = d := rfl
@[simp] theorem q_d_ol (d : List PyData) : RV.d (.ol d) = .list d := rfl
@[simp] theorem q_asInt (i : Int) : asInt (.fz (.int i)) = some i := rfl
@[simp] theorem q_asBool (i : Bool) : asBool (.fz (.bool i)) = some i := rfl
@[simp] theorem q_seq_fl (d : List PyData) : RV.seq (.fz (.list d)) = some d := rfl
@[simp] theorem q_seq_ft (d : List PyData) : RV.seq (.fz (.tuple d)) = some d := rfl
@[simp] theorem q_seq_ol (d : List PyData) : RV.seq (.ol d) = some d := rfl
@[simp] theorem q_lst_fl (d : List PyData) : RV.lst (.fz (.list d)) = some d := rfl
@[simp] theorem q_lst_ol (d : List PyData) : RV.lst (.ol d) = some d := rfl
@[simp] theorem q_items_s (z : Str) : itemsOf (.fz (.str z)) = some (z.cps.toList.map fun c => .str ⟨#[c]⟩) := rfl
theorem eqDict_shp {d : PyData} (e : PyData) (h : SeqAt.shaped d = true) : eqDict d e = none := by
  unfold eqDict
  split
  · rw [SeqAt.shaped, PyData.canLay0] at h
    cases h
  · rfl
theorem cmp_eq_shp {d : PyData} (e : PyData) (h : SeqAt.shaped d = true) : cmpD .eq d e = if SeqAt.shaped d && SeqAt.shaped e then some (PyData.eqv d e) else none := by
  show (match eqDict d e with | some b => some b | none => _) = _
  rw [eqDict_shp e h]
theorem cmp_ne_shp {d : PyData} (e : PyData) (h : SeqAt.shaped d = true) : cmpD .ne d e = if SeqAt.shaped d && SeqAt.shaped e then some (!PyData.eqv d e) else none := by
  show (match eqDict d e with | some b => some (!b) | none => _) = _
  rw [eqDict_shp e h]
theorem seq_rows {r : RV} {ds : List PyData} (h : r.seq = some ds) : r.rows = none := by
  unfold RV.seq at h
  split at h <;> first | rfl | cases h
theorem items_x {r : RV} {ds : List PyData} (h : itemsOf r = some ds) : itemsX r = some ds := by
  unfold itemsX
  have : r.rows = none := by
    unfold itemsOf at h
    split at h
    · rfl
    · exact seq_rows h
  rw [this]
  exact h
@[simp] theorem q_items_sx (z : Str) : itemsX (.fz (.str z)) = some (z.cps.toList.map fun c => .str ⟨#[c]⟩) := rfl
@[simp] theorem q_items_fl (d : List PyData) : itemsOf (.fz (.list d)) = some d := rfl
@[simp] theorem q_items_flx (d : List PyData) : itemsX (.fz (.list d)) = some d := rfl
@[simp] theorem q_items_ft (d : List PyData) : itemsOf (.fz (.tuple d)) = some d := rfl
@[simp] theorem q_items_ftx (d : List PyData) : itemsX (.fz (.tuple d)) = some d := rfl
@[simp] theorem q_items_ol (d : List PyData) : itemsOf (.ol d) = some d := rfl
@[simp] theorem q_items_olx (d : List PyData) : itemsX (.ol d) = some d := rfl
@[simp] theorem q_bindT_nm (i : Nat) (env : Ev) (d : PyData) : bindT (.nm i) env d = some (env.set i (some (.fz d))) := rfl
@[simp] theorem q_bindT_tpL (is : List Nat) (env : Ev) (ds : List PyData) : bindT (.tp is) env (.list ds) = if ds.length = is.length then some (setAll env is ds) else none := rfl
@[simp] theorem q_bindT_tp (is : List Nat) (env : Ev) (ds : List PyData) : bindT (.tp is) env (.tuple ds) = if ds.length = is.length then some (setAll env is ds) else none := rfl
@[simp] theorem q_setAll_nil (env : Ev) (ds : List PyData) : setAll env [] ds = env := by cases ds <;> rfl
@[simp] theorem q_setAll_cons (env : Ev) (i : Nat) (is : List Nat) (d : PyData) (ds : List PyData) : setAll env (i :: is) (d :: ds) = setAll (env.set i (some (.fz d))) is ds := rfl
@[simp] theorem q_wipe_nil (env : Ev) : wipeE env [] = env := rfl
@[simp] theorem q_wipe_cons (env : Ev) (i : Nat) (is : List Nat) : wipeE env (i :: is) = (wipeE env is).set i none := rfl
@[simp] theorem q_bor_ex (c : Cl) (env : Ev) (e : Ex) : borI c env (.ex e) = (isVar e && ((ev c env e).map RV.isOwn).getD true) := rfl
@[simp] theorem q_bor_r1 (c : Cl) (env : Ev) (a : Ex) : borI c env (.r1 a) = false := rfl
@[simp] theorem q_bor_r2 (c : Cl) (env : Ev) (a b : Ex) : borI c env (.r2 a b) = false := rfl
@[simp] theorem q_bor_r3 (c : Cl) (env : Ev) (a b d : Ex) : borI c env (.r3 a b d) = false := rfl
@[simp] theorem q_bor_zip (c : Cl) (env : Ev) (a b : Ex) : borI c env (.zip a b) = ((isVar a && ((ev c env a).map RV.isOwn).getD true) || (isVar b && ((ev c env b).map RV.isOwn).getD true)) := rfl
@[simp] theorem q_bor_en (c : Cl) (env : Ev) (a : Ex) : borI c env (.en a) = (isVar a && ((ev c env a).map RV.isOwn).getD true) := rfl
@[simp] theorem q_bor_rv (c : Cl) (env : Ev) (a : Ex) : borI c env (.rv a) = (isVar a && ((ev c env a).map RV.isOwn).getD true) := rfl
@[simp] theorem q_evo_emp (c : Cl) (env : Ev) : evo c env .emp = some none := by simp only [evo]
@[simp] theorem q_evo_one (c : Cl) (env : Ev) (a : Ex) : evo c env (.one a) = ((ev c env a).bind asInt).map some := by simp only [evo]
@[simp] theorem q_evt_emp (c : Cl) (env : Ev) : evt c env .emp = some true := by simp only [evt]
@[simp] theorem q_evt_one (c : Cl) (env : Ev) (a : Ex) : evt c env (.one a) = (ev c env a).bind asBool := by simp only [evt]
theorem olAt_of {env : Ev} {i : Nat} {ds : List PyData} (h : (env[i]?).join = some (.ol ds)) : olAt env i = some ds := by unfold olAt; rw [h]; rfl
def asOl : RV → Option (List PyData)
  | .ol ds => some ds
  | _ => none
@[simp] theorem q_asOl (ds : List PyData) : asOl (.ol ds) = some ds := rfl
@[simp] theorem q_olAt (env : Ev) (i : Nat) : olAt env i = ((env[i]?).join).bind asOl := by
  unfold olAt
  congr 1
@[simp] theorem q_sc_bool (b : Bool) : scalD (.bool b) = true := rfl
@[simp] theorem q_sc_int (b : Int) : scalD (.int b) = true := rfl
@[simp] theorem q_sc_str (b : Str) : scalD (.str b) = true := rfl
@[simp] theorem q_sc_none : scalD .none = true := rfl
@[simp] theorem q_isI (t : Ty) (r : RV) (h : notScr r.d = true) : biD (.isI t) [r] = some (.fz (.bool (isD t r.d))) := if_pos h
@[simp] theorem q_tab (ss : List (List PyData → Option RV)) (gs : List PyData) (ds : List PyData) (j : Nat) : (tabC ss gs).call j ds = (ss[j]?).bind fun s => s ds := rfl
@[simp] theorem q_glb (ss : List (List PyData → Option RV)) (gs : List PyData) (j : Nat) : (tabC ss gs).glb j = gs[j]? := rfl
@[simp] theorem own_fz (e : Ex) (d : PyData) : ownD e (.fz d) = some d := by simp [ownD]
@[simp] theorem own_ol (e : Ex) (d : List PyData) (h : isVar e = false) : ownD e (.ol d) = some (.list d) := by simp [ownD, h]
@[simp] theorem z_add_int (i j : Int) : binD .add (.fz (.int i)) (.fz (.int j)) = some (.fz (.int (i + j))) := rfl
@[simp] theorem z_sub_int (i j : Int) : binD .sub (.fz (.int i)) (.fz (.int j)) = some (.fz (.int (i - j))) := rfl
@[simp] theorem z_fdiv_9 (i : Int) : binD .fdiv (.fz (.int i)) (.fz (.int 1000000000)) = some (.fz (.int (i / 1000000000))) := rfl
@[simp] theorem z_pow_9 : binD .pow (.fz (.int 10)) (.fz (.int 9)) = some (.fz (.int 1000000000)) := rfl
@[simp] theorem z_pow_30 : binD .pow (.fz (.int 10)) (.fz (.int 30)) = some (.fz (.int 1000000000000000000000000000000)) := rfl
@[simp] theorem z_eq_int (i j : Int) : cmpD .eq (.int i) (.int j) = some (decide (i = j)) := by
  show some (PyData.eqv (.int i) (.int j)) = _
  rw [PyData.eqv]
  by_cases h : i = j <;> simp [h]
@[simp] theorem z_ne_int (i j : Int) : cmpD .ne (.int i) (.int j) = some (!decide (i = j)) := by
  show some (!PyData.eqv (.int i) (.int j)) = _
  rw [PyData.eqv]
  by_cases h : i = j <;> simp [h]
@[simp] theorem z_lt_int (i j : Int) : cmpD .lt (.int i) (.int j) = some (decide (i < j)) := rfl
@[simp] theorem z_le_int (i j : Int) : cmpD .le (.int i) (.int j) = some (decide (i ≤ j)) := rfl
@[simp] theorem z_gt_int (i j : Int) : cmpD .gt (.int i) (.int j) = some (decide (j < i)) := rfl
@[simp] theorem z_ge_int (i j : Int) : cmpD .ge (.int i) (.int j) = some (decide (j ≤ i)) := rfl
@[simp] theorem len_fl (ds : List PyData) : biD .len [.fz (.list ds)] = some (.fz (.int ds.length)) := rfl
@[simp] theorem len_ft (ds : List PyData) : biD .len [.fz (.tuple ds)] = some (.fz (.int ds.length)) := rfl
@[simp] theorem len_ol (ds : List PyData) : biD .len [.ol ds] = some (.fz (.int ds.length)) := rfl
@[simp] theorem z_min_2 (i j : Int) : biD .min2 [.fz (.int i), .fz (.int j)] = some (.fz (.int (min i j))) := by
  show some _ = some _
  have : (if j < i then j else i) = min i j := by omega
  rw [this]
@[simp] theorem z_max_2 (i j : Int) : biD .max2 [.fz (.int i), .fz (.int j)] = some (.fz (.int (max i j))) := by
  show some _ = some _
  have : (if j > i then j else i) = max i j := by omega
  rw [this]
@[simp] theorem ix_fl (ds : List PyData) (i : Int) : idxD (.fz (.list ds)) (.fz (.int i)) = (atI ds i).map .fz := rfl
@[simp] theorem ix_ft (ds : List PyData) (i : Int) : idxD (.fz (.tuple ds)) (.fz (.int i)) = (atI ds i).map .fz := rfl
@[simp] theorem ix_ol (ds : List PyData) (i : Int) : idxD (.ol ds) (.fz (.int i)) = (atI ds i).map .fz := rfl
@[simp] theorem call_false (r : Option RV) (t : Bool) : callD r false t = r := by cases r <;> rfl
@[simp] theorem call_true (d : PyData) : callD (some (.fz d)) true false = if flatD d = true then some (.fz d) else none := by
  show (if (flatD d && true) = true then some (RV.fz d) else none) = _
  rw [Bool.and_true]
@[simp] theorem call_none (b t : Bool) : callD none b t = none := rfl
theorem scr_seq (ns : List Int) : RV.seq (.fz (scrD ns)) = some (ns.map PyData.int) := rfl
@[simp] theorem scr_len (ns : List Int) : biD .len [.fz (scrD ns)] = some (.fz (.int ns.length)) := by show some _ = some _; simp
@[simp] theorem scr_ix (ns : List Int) (i : Int) : idxD (.fz (scrD ns)) (.fz (.int i)) = (atI (ns.map PyData.int) i).map .fz := rfl
theorem z_small_of {i : Int} (h1 : -1000000000000000 ≤ i) (h2 : i ≤ 1000000000000000) : smallI i = true := by
  unfold smallI
  simp only [Bool.and_eq_true, decide_eq_true_eq]
  omega
end Mn
namespace Mn
open PySem
def wS (l : List Bool) : Str := ⟨(l.map fun b => if b then 108 else 114).toArray⟩
end Mn
namespace Mn
open PySem
@[simp] theorem q_slcT (ds : List PyData) (lo hi : Option Int) : slcD (.fz (.tuple ds)) lo hi = some (.fz (.tuple (cutD ds lo hi))) := rfl
@[simp] theorem q_slcL (ds : List PyData) (lo hi : Option Int) : slcD (.fz (.list ds)) lo hi = some (.ol (cutD ds lo hi)) := rfl
@[simp] theorem q_slcO (ds : List PyData) (lo hi : Option Int) : slcD (.ol ds) lo hi = some (.ol (cutD ds lo hi)) := rfl
@[simp] theorem q_tupT (ds : List PyData) : biD .tup [.fz (.tuple ds)] = some (.fz (.tuple ds)) := rfl
@[simp] theorem q_tupL (ds : List PyData) : biD .tup [.fz (.list ds)] = some (.fz (.tuple ds)) := rfl
@[simp] theorem q_tupO (ds : List PyData) : biD .tup [.ol ds] = some (.fz (.tuple ds)) := rfl
@[simp] theorem q_lisT (ds : List PyData) : biD .list [.fz (.tuple ds)] = some (.ol ds) := rfl
@[simp] theorem q_lisL (ds : List PyData) : biD .list [.fz (.list ds)] = some (.ol ds) := rfl
@[simp] theorem q_lisO (ds : List PyData) : biD .list [.ol ds] = some (.ol ds) := rfl
theorem ints_map (ns : List Int) : intsOf (ns.map PyData.int) = some ns := by
  induction ns with
  | nil => rfl
  | cons n r ih => rw [List.map_cons, intsOf, ih]; rfl
theorem bools_map (ns : List Bool) : boolsOf (ns.map PyData.bool) = some ns := by
  induction ns with
  | nil => rfl
  | cons n r ih => rw [List.map_cons, boolsOf, ih]; rfl
@[simp] theorem z_sumO (ns : List Int) : biD .sum [.ol (ns.map PyData.int)] = some (.fz (.int ns.sum)) := by
  show ((some (ns.map PyData.int)).bind intsOf).map _ = _
  rw [Option.bind_some, ints_map]
  rfl
@[simp] theorem z_allO (ns : List Bool) : biD .all [.ol (ns.map PyData.bool)] = some (.fz (.bool (ns.all id))) := by
  show ((some (ns.map PyData.bool)).bind boolsOf).map _ = _
  rw [Option.bind_some, bools_map]
  rfl
@[simp] theorem z_anyO (ns : List Bool) : biD .any [.ol (ns.map PyData.bool)] = some (.fz (.bool (ns.any id))) := by
  have : (match (some (ns.map PyData.bool)).bind boolsOf with
    | some ns => some (RV.fz (.bool (ns.any id)))
    | none => ((some (ns.map PyData.bool)).bind intsOf).map fun ns => RV.fz (.bool (ns.any fun i => i != 0))) = some (.fz (.bool (ns.any id))) := by
    rw [Option.bind_some, bools_map]
  exact this
theorem can_map {α : Type} (f : α → PyData) (h : ∀ a, (f a).canLay0 = true) : ∀ xs : List α, PyData.canLayAll0 (xs.map f) = true
  | [] => rfl
  | x :: r => by
    rw [List.map_cons]
    show ((f x).canLay0 && PyData.canLayAll0 (r.map f)) = true
    rw [h x, can_map f h r]
    rfl
theorem dep_map {α : Type} (f : α → PyData) (n : Nat) (h : ∀ a, (f a).depth ≤ n) : ∀ xs : List α, PyData.depthAll (xs.map f) ≤ n
  | [] => Nat.zero_le _
  | x :: r => by
    rw [List.map_cons]
    show max (f x).depth (PyData.depthAll (r.map f)) ≤ n
    exact Nat.max_le.mpr ⟨h x, dep_map f n h r⟩
theorem shp_of {d : PyData} (h : d.canLay0 = true) (h2 : d.depth ≤ 64) : SeqAt.shaped d = true := by
  unfold SeqAt.shaped
  rw [h, decide_eq_true h2]
  rfl
@[simp] theorem wS_chars (l : List Bool) : (wS l).cps.toList.map (fun c => PyData.str ⟨#[c]⟩) = l.map fun b => PyData.str (wS [b]) := by
  unfold wS
  rw [List.map_map]
  rfl
end Mn
namespace Mn
open PySem PySem.Spec PyProof.Rows
open L2 (atI ixN cutS)
abbrev encL {α : Type} (e : α → PyData) : List α → PyData := fun xs => .list (xs.map e)
abbrev encU {α : Type} (e : α → PyData) : List α → PyData := fun xs => .tuple (xs.map e)
abbrev encN : Unit → PyData := fun _ => .none
abbrev encP1 {α : Type} (e : α → PyData) : α → PyData := fun x => .tuple [e x]
abbrev encP2 {α β : Type} (e : α → PyData) (f : β → PyData) : α × β → PyData := fun x => .tuple [e x.1, f x.2]
abbrev encP3 {α β γ : Type} (e : α → PyData) (f : β → PyData) (g : γ → PyData) : α × β × γ → PyData := fun x => .tuple [e x.1, f x.2.1, g x.2.2]
abbrev encP4 {α β γ δ : Type} (e : α → PyData) (f : β → PyData) (g : γ → PyData) (h : δ → PyData) : α × β × γ × δ → PyData := fun x => .tuple [e x.1, f x.2.1, g x.2.2.1, h x.2.2.2]
abbrev encP5 {α β γ δ ε : Type} (e : α → PyData) (f : β → PyData) (g : γ → PyData) (h : δ → PyData) (k : ε → PyData) : α × β × γ × δ × ε → PyData := fun x => .tuple [e x.1, f x.2.1, g x.2.2.1, h x.2.2.2.1, k x.2.2.2.2]
abbrev encP0 : Unit → PyData := fun _ => .tuple []
def encO {α : Type} (e : α → PyData) : Option α → PyData
  | none => .none
  | some x => e x
abbrev fz {α : Type} (e : α → PyData) : α → RV := fun x => .fz (e x)
abbrev ol {α : Type} (e : α → PyData) : List α → RV := fun xs => .ol (xs.map e)
def mulG (x y : Int) : Option Int := if smallI x || smallI y then some (x * y) else none
def modG (x y : Int) : Option Int := if 0 < y then some (x % y) else none
def fdivG (x y : Int) : Option Int := if 0 < y ∧ y < 1073741824 then some (x / y) else none
def powG (x y : Int) : Option Int := if 0 ≤ y ∧ y ≤ 1000000 ∧ x.natAbs < 18446744073709551616 then some (x ^ y.toNat) else none
def catG {α : Type} (xs ys : List α) : Option (List α) := if xs.length + ys.length ≤ LIM then some (xs ++ ys) else none
def appG {α : Type} (xs : List α) (x : α) : Option (List α) := if xs.length < LIM then some (xs ++ [x]) else none
def popG {α : Type} (xs : List α) (k : Int) : Option (List α × α) := if 0 ≤ k then (xs[k.toNat]?).bind fun d => if xs.length ≤ LIM then some (xs.eraseIdx k.toNat, d) else none else none
def setG {α : Type} (xs : List α) (n : Int) (v : α) : Option (List α) := (ixN xs.length n).bind fun j => some (xs.set j v)
def mapO {α β : Type} (f : α → Option β) : List α → Option (List β)
  | [] => some []
  | x :: xs => (f x).bind fun y => (mapO f xs).bind fun ys => some (y :: ys)
def filO {α β : Type} (f : α → Option (Option β)) : List α → Option (List β)
  | [] => some []
  | x :: xs => (f x).bind fun o => (filO f xs).bind fun r => some (match o with | some y => y :: r | none => r)
def mapG {α β : Type} (xs : List α) (f : α → Option β) : Option (List β) := if xs.length ≤ LIM then mapO f xs else none
def filG {α β : Type} (xs : List α) (f : α → Option (Option β)) : Option (List β) := if xs.length ≤ LIM then filO f xs else none
inductive Lp (σ ρ : Type) where
  | nx (s : σ)
  | bk (s : σ)
  | rt (r : ρ)
def foldO {σ α : Type} (f : α → σ → Option σ) : List α → σ → Option σ
  | [], s => some s
  | x :: xs, s => (f x s).bind (foldO f xs)
def loopO {σ ρ α : Type} (f : α → σ → Option (Lp σ ρ)) : List α → σ → Option (Lp σ ρ)
  | [], s => some (.nx s)
  | x :: xs, s => (f x s).bind fun o => match o with
    | .nx s => loopO f xs s
    | .bk s => some (.nx s)
    | .rt r => some (.rt r)
def lpK {σ ρ R : Type} (k : σ → Option R) (m : ρ → Option R) : Lp σ ρ → Option R
  | .nx s => k s
  | .bk s => k s
  | .rt v => m v
def rng1 (b : Int) : Option (List Int) := if -1000000 ≤ b ∧ b ≤ 1000000 then some ((List.range b.toNat).map fun i : Nat => (i : Int)) else none
def rng2 (a b : Int) : Option (List Int) := if -1000000 ≤ a ∧ a ≤ 1000000 ∧ -1000000 ≤ b ∧ b ≤ 1000000 then some ((List.range (b - a).toNat).map fun i : Nat => a + (i : Int)) else none
def enI {α : Type} : Nat → List α → List (Int × α)
  | _, [] => []
  | i, x :: r => ((i : Nat), x) :: enI (i + 1) r
def Sim {α β : Type} (x : Option α) (M : Option β) (φ : β → α) : Prop := ∀ v, M = some v → x = some (φ v)
def SimS {R : Type} (x : Option Out) (M : Option R) (P : R → Out → Prop) : Prop := ∀ v, M = some v → ∃ o, x = some o ∧ P v o
abbrev PRt {ρ : Type} (φ : ρ → RV) : ρ → Out → Prop := fun r o => o = .rt (φ r)
abbrev PNx {σ : Type} (E : σ → Ev) : σ → Out → Prop := fun s o => o = .nx (E s)
abbrev PLn {σ : Type} (E : σ → Ev) : σ → Out → Prop := fun s o => o = .nx (E s) ∨ o = .ct (E s)
abbrev PLp {σ ρ : Type} (E : σ → Ev) (φ : ρ → RV) : Lp σ ρ → Out → Prop := fun v o => match v with
  | .nx s => o = .nx (E s) ∨ o = .ct (E s)
  | .bk s => o = .bk (E s)
  | .rt r => o = .rt (φ r)
variable {α β γ δ σ ρ R : Type}
theorem sim_p {x : Option α} {v : β} {φ : β → α} (h : x = some (φ v)) : Sim x (some v) φ := fun w e => by cases e; exact h
theorem sim_b {x : Option α} {y : Option γ} {M : Option β} {K : β → Option δ} {φ : β → α} {ψ : δ → γ} (h : Sim x M φ) (k : ∀ v, x = some (φ v) → Sim y (K v) ψ) : Sim y (M.bind K) ψ := fun w e => by
  cases q : M with
  | none => rw [q] at e; cases e
  | some v => rw [q] at e; exact k v (h v q) w e
theorem sms_b {x : Option α} {y : Option Out} {M : Option β} {K : β → Option R} {φ : β → α} {P : R → Out → Prop} (h : Sim x M φ) (k : ∀ v, x = some (φ v) → SimS y (K v) P) : SimS y (M.bind K) P := fun w e => by
  cases q : M with
  | none => rw [q] at e; cases e
  | some v => rw [q] at e; exact k v (h v q) w e
theorem bind_of {M : Option β} {K : β → Option δ} {w : δ} (e : M.bind K = some w) : ∃ v, M = some v ∧ K v = some w := by
  cases M with
  | none => cases e
  | some v => exact ⟨v, rfl, e⟩
section
variable {c : Cl} {env : Ev}
theorem e_var {i : Nat} {r : RV} (h : (env[i]?).join = some r) (hp : r.pl = true := by rfl) : ev c env (.var i) = some r := by rw [q_ev_var, h]; exact if_pos hp
theorem e_int (i : Int) : ev c env (.int i) = some (.fz (.int i)) := q_ev_int _ _ _
theorem e_bl (i : Bool) : ev c env (.bl i) = some (.fz (.bool i)) := q_ev_bl _ _ _
theorem e_non : ev c env .non = some (.fz .none) := q_ev_non _ _
theorem e_add {a b : Ex} {x y : Int} (ha : ev c env a = some (.fz (.int x))) (hb : ev c env b = some (.fz (.int y))) : ev c env (.bin .add a b) = some (.fz (.int (x + y))) := by rw [q_ev_bin, ha, hb]; rfl
theorem e_sub {a b : Ex} {x y : Int} (ha : ev c env a = some (.fz (.int x))) (hb : ev c env b = some (.fz (.int y))) : ev c env (.bin .sub a b) = some (.fz (.int (x - y))) := by rw [q_ev_bin, ha, hb]; rfl
theorem m_mul {a b : Ex} {x y : Int} (ha : ev c env a = some (.fz (.int x))) (hb : ev c env b = some (.fz (.int y))) : Sim (ev c env (.bin .mul a b)) (mulG x y) (fz PyData.int) := fun v e => by
  unfold mulG at e
  split at e
  · cases e
    rw [q_ev_bin, ha, hb]
    exact if_pos (by assumption)
  · cases e
theorem m_mod {a b : Ex} {x y : Int} (ha : ev c env a = some (.fz (.int x))) (hb : ev c env b = some (.fz (.int y))) : Sim (ev c env (.bin .mod a b)) (modG x y) (fz PyData.int) := fun v e => by
  unfold modG at e
  split at e
  · cases e
    rw [q_ev_bin, ha, hb]
    exact if_pos (by assumption)
  · cases e
theorem m_fdiv {a b : Ex} {x y : Int} (ha : ev c env a = some (.fz (.int x))) (hb : ev c env b = some (.fz (.int y))) : Sim (ev c env (.bin .fdiv a b)) (fdivG x y) (fz PyData.int) := fun v e => by
  unfold fdivG at e
  split at e
  · cases e
    rw [q_ev_bin, ha, hb]
    exact if_pos (by assumption)
  · cases e
theorem m_pow {a b : Ex} {x y : Int} (ha : ev c env a = some (.fz (.int x))) (hb : ev c env b = some (.fz (.int y))) : Sim (ev c env (.bin .pow a b)) (powG x y) (fz PyData.int) := fun v e => by
  unfold powG at e
  split at e
  · cases e
    rw [q_ev_bin, ha, hb]
    exact if_pos (by assumption)
  · cases e
theorem m_catU {e : α → PyData} {a b : Ex} {x y : List α} (ha : ev c env a = some (.fz (.tuple (x.map e)))) (hb : ev c env b = some (.fz (.tuple (y.map e)))) : Sim (ev c env (.bin .add a b)) (catG x y) (fz (encU e)) := fun v h => by
  unfold catG at h
  split at h
  · cases h
    rw [q_ev_bin, ha, hb]
    show addD (.fz (.tuple (x.map e))) (.fz (.tuple (y.map e))) = _
    unfold addD
    simp only [List.length_map]
    rw [if_pos (by assumption), ← List.map_append]
  · cases h
theorem add_lst {r s : RV} {xs ys : List PyData} (h : r.lst = some xs) (g : s.lst = some ys) (l : xs.length + ys.length ≤ LIM) : binD .add r s = some (.ol (xs ++ ys)) := by
  show addD r s = _
  unfold RV.lst at h g
  split at h <;> cases h <;> (split at g <;> cases g <;> exact if_pos l)
theorem m_catL {e : α → PyData} {a b : Ex} {x y : List α} {r s : RV} (ha : ev c env a = some r) (hb : ev c env b = some s) (hx : r.lst = some (x.map e)) (hy : s.lst = some (y.map e)) : Sim (ev c env (.bin .add a b)) (catG x y) (ol e) := fun v h => by
  unfold catG at h
  split at h
  · cases h
    rw [q_ev_bin, ha, hb]
    have := add_lst hx hy (by simpa using (by assumption : x.length + y.length ≤ LIM))
    rw [← List.map_append] at this
    exact this
  · cases h
theorem e_not {a : Ex} {x : Bool} (ha : ev c env a = some (.fz (.bool x))) : ev c env (.not a) = some (.fz (.bool (!x))) := by rw [q_ev_not, ha]; rfl
theorem e_one {a : Ex} {d : PyData} (ha : ev c env a = some (.fz d)) : ev c env (.one a) = some (.fz d) := by rw [q_ev_one, ha]; simp
theorem e_and {a b : Ex} {x y : Bool} (ha : ev c env a = some (.fz (.bool x))) (hb : ev c env b = some (.fz (.bool y))) : ev c env (.and a b) = some (.fz (.bool (x && y))) := by
  rw [q_ev_and, ha, hb]
  cases x <;> simp
theorem e_or {a b : Ex} {x y : Bool} (ha : ev c env a = some (.fz (.bool x))) (hb : ev c env b = some (.fz (.bool y))) : ev c env (.or a b) = some (.fz (.bool (x || y))) := by
  rw [q_ev_or, ha, hb]
  cases x <;> simp
theorem m_and {a b : Ex} {x : Bool} {M : Option Bool} (ha : ev c env a = some (.fz (.bool x))) (hb : Sim (ev c env b) M (fz PyData.bool)) : Sim (ev c env (.and a b)) (if x = true then M else some false) (fz PyData.bool) := fun v h => by
  rw [q_ev_and, ha]
  cases x with
  | true => simp only [if_true] at h; simp [hb v h]
  | false => cases h; rfl
theorem m_or {a b : Ex} {x : Bool} {M : Option Bool} (ha : ev c env a = some (.fz (.bool x))) (hb : Sim (ev c env b) M (fz PyData.bool)) : Sim (ev c env (.or a b)) (if x = true then some true else M) (fz PyData.bool) := fun v h => by
  rw [q_ev_or, ha]
  cases x with
  | false => simp only [Bool.false_eq_true, if_false] at h; simp [hb v h]
  | true => cases h; rfl
theorem e_gt {a b : Ex} {x y : Int} (ha : ev c env a = some (.fz (.int x))) (hb : ev c env b = some (.fz (.int y))) : ev c env (.cmp .gt a b) = some (.fz (.bool (decide (y < x)))) := by rw [q_ev_cmp, ha, hb]; rfl
theorem e_eqI {a b : Ex} {x y : Int} (ha : ev c env a = some (.fz (.int x))) (hb : ev c env b = some (.fz (.int y))) : ev c env (.cmp .eq a b) = some (.fz (.bool (decide (x = y)))) := by rw [q_ev_cmp, ha, hb]; simp
theorem e_neI {a b : Ex} {x y : Int} (ha : ev c env a = some (.fz (.int x))) (hb : ev c env b = some (.fz (.int y))) : ev c env (.cmp .ne a b) = some (.fz (.bool (!decide (x = y)))) := by rw [q_ev_cmp, ha, hb]; simp
structure Good (e : α → PyData) (n : Nat) : Prop where
  can : ∀ x, (e x).canLay0 = true
  dep : ∀ x, (e x).depth ≤ n
  inj : ∀ x y, PyData.eqv (e x) (e y) = true ↔ x = y
theorem good_I : Good PyData.int 0 := ⟨fun _ => rfl, fun _ => Nat.le_refl _, fun x y => by rw [PyData.eqv]; simp⟩
theorem eqvAll_map {e : α → PyData} (h : ∀ x y, PyData.eqv (e x) (e y) = true ↔ x = y) : ∀ xs ys : List α, PyData.eqvAll (xs.map e) (ys.map e) = true ↔ xs = ys
  | [], [] => by simp [PyData.eqvAll]
  | [], _ :: _ => by simp [PyData.eqvAll]
  | _ :: _, [] => by simp [PyData.eqvAll]
  | x :: xs, y :: ys => by simp [PyData.eqvAll, h, eqvAll_map h xs ys]
theorem good_L {e : α → PyData} {n : Nat} (g : Good e n) : Good (encL e) (n + 1) :=
  ⟨fun x => by show PyData.canLay0 (.list _) = true; rw [PyData.canLay0]; exact can_map e g.can x,
   fun x => by show PyData.depth (.list _) ≤ _; rw [PyData.depth]; exact Nat.succ_le_succ (dep_map e n g.dep x),
   fun x y => by show PyData.eqv (.list _) (.list _) = true ↔ _; rw [PyData.eqv]; exact eqvAll_map g.inj x y⟩
theorem good_U {e : α → PyData} {n : Nat} (g : Good e n) : Good (encU e) (n + 1) :=
  ⟨fun x => by show PyData.canLay0 (.tuple _) = true; rw [PyData.canLay0]; exact can_map e g.can x,
   fun x => by show PyData.depth (.tuple _) ≤ _; rw [PyData.depth]; exact Nat.succ_le_succ (dep_map e n g.dep x),
   fun x y => by show PyData.eqv (.tuple _) (.tuple _) = true ↔ _; rw [PyData.eqv]; exact eqvAll_map g.inj x y⟩
def NotN (e : α → PyData) : Prop := ∀ x, PyData.eqv (e x) .none = false ∧ PyData.eqv .none (e x) = false
theorem notN_I : NotN PyData.int := fun x => ⟨by simp [PyData.eqv], by simp [PyData.eqv]⟩
theorem Good.shp {e : α → PyData} {n : Nat} (g : Good e n) (h : n ≤ 64) (x : α) : SeqAt.shaped (e x) = true := shp_of (g.can x) (Nat.le_trans (g.dep x) h)
theorem Good.dec [DecidableEq α] {e : α → PyData} {n : Nat} (g : Good e n) (x y : α) : PyData.eqv (e x) (e y) = decide (x = y) := by
  by_cases h : x = y
  · rw [decide_eq_true h]; exact (g.inj x y).mpr h
  · rw [decide_eq_false h]
    cases q : PyData.eqv (e x) (e y)
    · rfl
    · exact absurd ((g.inj x y).mp q) h
theorem e_eqv {e : α → PyData} [DecidableEq α] {n : Nat} {a b : Ex} {x y : α} {r s : RV} (g : Good e n) (hn : n ≤ 64) (ha : ev c env a = some r) (hb : ev c env b = some s) (hr : r.d = e x) (hs : s.d = e y) : ev c env (.cmp .eq a b) = some (.fz (.bool (decide (x = y)))) := by
  rw [q_ev_cmp, ha, hb]
  show (cmpD .eq r.d s.d).map _ = _
  rw [hr, hs]
  rw [cmp_eq_shp _ (g.shp hn x), g.shp hn, g.shp hn, g.dec]
  rfl
theorem flat_I : ∀ v : Int, flatD (.int v) = true := fun _ => rfl
theorem flat_B : ∀ v : Bool, flatD (.bool v) = true := fun _ => rfl
theorem flat_O {e : α → PyData} (h : ∀ v, flatD (e v) = true) : ∀ v, flatD (encO e v) = true := fun v => by
  cases v with
  | none => rfl
  | some x => exact h x
theorem e_nev {e : α → PyData} [DecidableEq α] {n : Nat} {a b : Ex} {x y : α} {r s : RV} (g : Good e n) (hn : n ≤ 64) (ha : ev c env a = some r) (hb : ev c env b = some s) (hr : r.d = e x) (hs : s.d = e y) : ev c env (.cmp .ne a b) = some (.fz (.bool (!decide (x = y)))) := by
  rw [q_ev_cmp, ha, hb]
  show (cmpD .ne r.d s.d).map _ = _
  rw [hr, hs]
  rw [cmp_ne_shp _ (g.shp hn x), g.shp hn, g.shp hn, g.dec]
  rfl
theorem e_inL {e : α → PyData} [DecidableEq α] {n : Nat} {a b : Ex} {x : α} {ys : List α} {r s : RV} (g : Good e n) (hn : n + 1 ≤ 64) (ha : ev c env a = some r) (hb : ev c env b = some s) (hr : r.d = e x) (hs : s.d = .list (ys.map e)) : ev c env (.cmp .inn a b) = some (.fz (.bool (decide (x ∈ ys)))) := by
  have h1 := g.shp (by omega) x
  have h2 := (good_L g).shp hn ys
  rw [q_ev_cmp, ha, hb]
  show (inD r.d s.d).map _ = _
  rw [hr, hs]
  have : inD (e x) (.list (ys.map e)) = some (decide (x ∈ ys)) := by
    have k : (ys.map e).any (fun z => PyData.eqv z (e x)) = decide (x ∈ ys) := by
      rw [List.any_map]
      have : ((fun z => PyData.eqv z (e x)) ∘ e) = fun y => decide (y = x) := funext fun y => g.dec y x
      rw [this]
      by_cases q : x ∈ ys
      · rw [decide_eq_true q]; exact List.any_eq_true.mpr ⟨x, q, by simp⟩
      · rw [decide_eq_false q]
        rw [List.any_eq_false]
        intro y hy
        simp
        rintro rfl
        exact q hy
    have h2' : SeqAt.shaped (.list (ys.map e)) = true := h2
    generalize e x = d at h1 k ⊢
    show inD d (.list _) = _
    have : inD d (.list (ys.map e)) = if SeqAt.shaped d && SeqAt.shaped (.list (ys.map e)) then some ((ys.map e).any fun z => PyData.eqv z d) else none := by cases d <;> rfl
    rw [this, h1, h2', k]
    rfl
  rw [this]
  rfl
theorem e_ninL {e : α → PyData} [DecidableEq α] {n : Nat} {a b : Ex} {x : α} {ys : List α} {r s : RV} (g : Good e n) (hn : n + 1 ≤ 64) (ha : ev c env a = some r) (hb : ev c env b = some s) (hr : r.d = e x) (hs : s.d = .list (ys.map e)) : ev c env (.cmp .nin a b) = some (.fz (.bool (!decide (x ∈ ys)))) := by
  have h := e_inL g hn ha hb hr hs
  rw [q_ev_cmp, ha, hb] at h ⊢
  have h : ((inD r.d s.d).map fun k => RV.fz (.bool k)) = some (.fz (.bool (decide (x ∈ ys)))) := h
  show (((inD r.d s.d).map not).map fun k => RV.fz (.bool k)) = _
  cases q : inD r.d s.d with
  | none => rw [q] at h; cases h
  | some k => rw [q] at h; cases h; rfl
theorem e_noNn {a : Ex} {x : Option α} {e : α → PyData} (g : NotN e) (ha : ev c env a = some (.fz (encO e x))) : ev c env (.cmp .noN a .non) = some (.fz (.bool x.isSome)) := by
  rw [q_ev_cmp, ha, q_ev_non]
  show (cmpD .noN (encO e x) .none).map (fun k => RV.fz (.bool k)) = _
  have cm : ∀ d : PyData, cmpD .noN d .none = some (!isNone d) := fun d => by cases d <;> rfl
  rw [cm]
  cases x with
  | none => rfl
  | some x =>
    have := (g x).1
    show some (RV.fz (.bool (!isNone (e x)))) = _
    cases h : e x <;> first | rfl | (rw [h] at this; simp [PyData.eqv] at this)
theorem m_un {a : Ex} {x : Option α} {e : α → PyData} (ha : ev c env a = some (.fz (encO e x))) : Sim (ev c env a) x (fz e) := fun v h => by rw [ha, h]; rfl
theorem es_nil : evs c env .nil = some [] := q_evs_nil _ _
theorem es_cons {a : Ex} {as : Exs} {r : RV} {d : PyData} {ds : List PyData} (ha : ev c env a = some r) (ho : ownD a r = some d) (hs : evs c env as = some ds) : evs c env (.cons a as) = some (d :: ds) := by rw [q_evs_cons, ha]; show (ownD a r).bind _ = _; rw [ho, hs]; rfl
theorem e_tup {es : Exs} {ds : List PyData} (h : evs c env es = some ds) (l : ds.length ≤ LIM) : ev c env (.tup es) = some (.fz (.tuple ds)) := by rw [q_ev_tup, h]; exact if_pos l
theorem e_lst {es : Exs} {ds : List PyData} (h : evs c env es = some ds) (l : ds.length ≤ LIM) : ev c env (.lst es) = some (.ol ds) := by rw [q_ev_lst, h]; exact if_pos l
theorem eb_nil : evb c env .nil = some ([], false) := q_evb_nil _ _
theorem eb_cons {a : Ex} {as : Exs} {r : RV} {d : PyData} {ds : List PyData} {p q : Bool} (ha : ev c env a = some r) (hd : r.d = d) (hs : evb c env as = some (ds, p)) (hq : ((isVar a && r.isOwn) || p) = q) (hl : lndOf a = none := by rfl) : evb c env (.cons a as) = some (d :: ds, q) := by rw [q_evb_cons c env a as hl, ha, hs, ← hd, ← hq]; rfl
theorem m_call {f : Nat} {es : Exs} {ds : List PyData} {M : Option β} {φ : β → RV} (h : evb c env es = some (ds, false)) (k : Sim (c.call f ds) M φ) : Sim (ev c env (.call f es)) M φ := fun v e => by
  rw [q_ev_call, h]
  show callD (c.call f ds) false _ = _
  rw [k v e]
  rfl
theorem m_callS {f : Nat} {es : Exs} {ds : List PyData} {M : Option β} {φ : β → PyData} (h : evb c env es = some (ds, true)) (k : Sim (c.call f ds) M (fz φ)) (hs : ∀ v, flatD (φ v) = true) (ht : tpE env es = false := by rfl) : Sim (ev c env (.call f es)) M (fz φ) := fun v e => by
  rw [q_ev_call, h]
  show callD (c.call f ds) true _ = _
  rw [k v e, ht]
  show (if (flatD (φ v) && true) = true then _ else _) = _
  rw [Bool.and_true, if_pos (hs v)]
theorem er_1 {a : Ex} {r : RV} (ha : ev c env a = some r) : evr c env (.cons a .nil) = some [r] := by rw [q_evr_cons, ha, q_evr_nil]; rfl
theorem er_2 {a b : Ex} {r s : RV} (ha : ev c env a = some r) (hb : ev c env b = some s) : evr c env (.cons a (.cons b .nil)) = some [r, s] := by rw [q_evr_cons, ha, q_evr_cons, hb, q_evr_nil]; rfl
theorem biLen {r : RV} {ds : List PyData} (h : r.seq = some ds) : biD .len [r] = some (.fz (.int ds.length)) := by
  have hr := seq_rows h
  have e : biD .len [r] = r.seq.map fun ds => .fz (.int ds.length) := by
    cases r with
    | fz d =>
      cases d with
      | str z => cases h
      | dict kvs =>
        show (match RV.rows _ with | some kvs => some (RV.fz (.int kvs.length)) | none => _) = _
        rw [hr]
      | _ => rfl
    | ol _ => rfl
    | od _ => cases h
    | on _ => cases h
    | xr _ => cases h
    | tr _ _ => cases h
    | al _ _ => cases h
  rw [e, h]
  rfl
theorem e_len {e : α → PyData} {a : Ex} {x : List α} {r : RV} (ha : ev c env a = some r) (hs : r.seq = some (x.map e)) : ev c env (.bi .len (.cons a .nil)) = some (.fz (.int (x.length : Nat))) := by
  rw [q_ev_bi, er_1 ha]
  show biD .len [r] = _
  rw [biLen hs, List.length_map]
theorem e_lenZ {a : Ex} {x : List Int} (ha : ev c env a = some (.fz (scrD x))) : ev c env (.bi .len (.cons a .nil)) = some (.fz (.int (x.length : Nat))) := e_len (e := PyData.int) ha (scr_seq x)
theorem e_sumS {a : Ex} {x : List Int} {r : RV} (ha : ev c env a = some r) (hs : r.seq = some (x.map PyData.int)) : ev c env (.bi .sum (.cons a .nil)) = some (.fz (.int x.sum)) := by
  rw [q_ev_bi, er_1 ha]
  show (r.seq.bind intsOf).map _ = _
  rw [hs]
  show (intsOf (x.map PyData.int)).map _ = _
  rw [ints_map]
  rfl
theorem lst_seq {r : RV} {ds : List PyData} (h : r.lst = some ds) : r.seq = some ds := by
  unfold RV.lst at h
  split at h <;> cases h <;> rfl
theorem e_sum {a : Ex} {x : List Int} {r : RV} (ha : ev c env a = some r) (hs : r.lst = some (x.map PyData.int)) : ev c env (.bi .sum (.cons a .nil)) = some (.fz (.int x.sum)) := e_sumS ha (lst_seq hs)
theorem e_all {a : Ex} {x : List Bool} {r : RV} (ha : ev c env a = some r) (hs : r.lst = some (x.map PyData.bool)) : ev c env (.bi .all (.cons a .nil)) = some (.fz (.bool (x.all id))) := by
  rw [q_ev_bi, er_1 ha]
  show (r.lst.bind boolsOf).map _ = _
  rw [hs]
  show (boolsOf (x.map PyData.bool)).map _ = _
  rw [bools_map]
  rfl
theorem e_min2 {a b : Ex} {x y : Int} (ha : ev c env a = some (.fz (.int x))) (hb : ev c env b = some (.fz (.int y))) : ev c env (.bi .min2 (.cons a (.cons b .nil))) = some (.fz (.int (min x y))) := by rw [q_ev_bi, er_2 ha hb]; exact z_min_2 x y
theorem e_intB {a : Ex} {x : Bool} (ha : ev c env a = some (.fz (.bool x))) : ev c env (.bi .int (.cons a .nil)) = some (.fz (.int (if x = true then 1 else 0))) := by rw [q_ev_bi, er_1 ha]; rfl
theorem e_tupO {e : α → PyData} {a : Ex} {x : List α} {r : RV} (ha : ev c env a = some r) (hs : r.seq = some (x.map e)) : ev c env (.bi .tup (.cons a .nil)) = some (.fz (.tuple (x.map e))) := by
  rw [q_ev_bi, er_1 ha]
  show (r.seq).map _ = _
  rw [hs]
  rfl
theorem e_lisO {e : α → PyData} {a : Ex} {x : List α} {r : RV} (ha : ev c env a = some r) (hs : r.seq = some (x.map e)) : ev c env (.bi .list (.cons a .nil)) = some (.ol (x.map e)) := by
  rw [q_ev_bi, er_1 ha]
  show (match r.rows with | some kvs => some (RV.ol (kvs.map fun p : PyData × PyData => p.1)) | none => r.seq.map RV.ol) = _
  have hr : r.rows = none := by
    unfold RV.seq at hs
    split at hs <;> first | rfl | cases hs
  rw [hr]
  show r.seq.map _ = _
  rw [hs]
  rfl
theorem e_isI {t : Ty} {a : Ex} {r : RV} {b : Bool} (ha : ev c env a = some r) (hn : notScr r.d = true) (hb : isD t r.d = b) : ev c env (.bi (.isI t) (.cons a .nil)) = some (.fz (.bool b)) := by
  rw [q_ev_bi, er_1 ha]
  show (if notScr r.d then _ else _) = _
  rw [if_pos hn, hb]
theorem atI_map {e : α → PyData} {x : List α} {i : Int} {v : α} (h : atI x i = some v) : atI (x.map e) i = some (e v) := by
  unfold atI at h ⊢
  rw [List.length_map]
  cases q : ixN x.length i with
  | none => rw [q] at h; cases h
  | some j =>
    rw [q] at h
    have h : x[j]? = some v := h
    show (x.map e)[j]? = _
    rw [List.getElem?_map, h]
    rfl
theorem idx_seq {r : RV} {ds : List PyData} {i : Int} {d : PyData} (hs : r.seq = some ds) (h : atI ds i = some d) : idxD r (.fz (.int i)) = some (.fz d) := by
  have hd : (r.dic.bind fun kvs => dGet kvs (RV.fz (.int i)).d) = none := by
    have hr := seq_rows hs
    unfold RV.rows at hr
    cases e : r.dic with
    | none => rfl
    | some kvs =>
      rw [e] at hr
      show dGet kvs (.int i) = none
      cases q : dGet kvs (.int i) with
      | none => rfl
      | some o =>
        unfold dGet at q
        split at q
        · cases hr
        · cases hr
        · cases q
  unfold idxD
  rw [hd]
  show idx0 r (.fz (.int i)) = _
  unfold idx0
  split
  · cases hs
  · rename_i e2
    cases e2
    rw [hs]
    show (atI ds i).map _ = _
    rw [h]
    rfl
  · rename_i h1 h2; exact absurd rfl (h1 i)
theorem m_idx {e : α → PyData} {a b : Ex} {x : List α} {i : Int} {r : RV} (ha : ev c env a = some r) (hb : ev c env b = some (.fz (.int i))) (hs : r.seq = some (x.map e)) : Sim (ev c env (.idx a b)) (atI x i) (fz e) := fun v h => by
  rw [q_ev_idx, ha, hb]
  exact idx_seq hs (atI_map h)
theorem e_idxP {a b : Ex} {i : Int} {r : RV} {ds : List PyData} {d : PyData} (ha : ev c env a = some r) (hb : ev c env b = some (.fz (.int i))) (hs : r.seq = some ds) (h : atI ds i = some d) : ev c env (.idx a b) = some (.fz d) := by
  rw [q_ev_idx, ha, hb]
  exact idx_seq hs h
theorem o_emp : evo c env .emp = some none := q_evo_emp _ _
theorem o_one {a : Ex} {i : Int} (ha : ev c env a = some (.fz (.int i))) : evo c env (.one a) = some (some i) := by rw [q_evo_one, ha]; rfl
theorem cut_map {e : α → PyData} (x : List α) (lo hi : Option Int) : cutD (x.map e) lo hi = (cutD x lo hi).map e := by
  unfold cutD
  simp only [List.length_map, List.map_take, List.map_drop]
theorem e_slcU {e : α → PyData} {a l h : Ex} {x : List α} {lo hi : Option Int} (ha : ev c env a = some (.fz (.tuple (x.map e)))) (hl : evo c env l = some lo) (hh : evo c env h = some hi) : ev c env (.slc a l h) = some (.fz (.tuple ((cutD x lo hi).map e))) := by
  rw [q_ev_slc, ha, hl, hh, ← cut_map]
  rfl
theorem i_ex {e : α → PyData} {a : Ex} {x : List α} {r : RV} (ha : ev c env a = some r) (hs : itemsOf r = some (x.map e)) : Sim (evi c env (.ex a)) (some x) (List.map e) := fun v h => by cases h; rw [q_evi_ex, ha]; exact items_x hs
theorem i_r1 {a : Ex} {x : Int} (ha : ev c env a = some (.fz (.int x))) : Sim (evi c env (.r1 a)) (rng1 x) (List.map PyData.int) := fun v h => by
  unfold rng1 at h
  split at h
  · cases h
    rw [q_evi_r1, ha]
    show (if _ then _ else _) = _
    rw [if_pos (by assumption)]
    unfold rngD
    rw [List.map_map]
    congr 1
    refine List.map_congr_left fun i _ => ?_
    show PyData.int (0 + _) = PyData.int _
    rw [Int.zero_add]
  · cases h
theorem i_r2 {a b : Ex} {x y : Int} (ha : ev c env a = some (.fz (.int x))) (hb : ev c env b = some (.fz (.int y))) : Sim (evi c env (.r2 a b)) (rng2 x y) (List.map PyData.int) := fun v h => by
  unfold rng2 at h
  split at h
  · cases h
    rw [q_evi_r2, ha, hb]
    show (if _ then _ else _) = _
    rw [if_pos (by assumption)]
    unfold rngD
    rw [List.map_map]
    rfl
  · cases h
theorem zip_enc {e : α → PyData} {f : β → PyData} : ∀ (x : List α) (y : List β), zipD (x.map e) (y.map f) = (List.zip x y).map (encP2 e f)
  | [], _ => rfl
  | _ :: _, [] => rfl
  | a :: x, b :: y => by
    show _ :: zipD (x.map e) (y.map f) = _
    rw [zip_enc x y]
    rfl
theorem i_zip {e : α → PyData} {f : β → PyData} {a b : Ex} {x : List α} {y : List β} {r s : RV} (ha : ev c env a = some r) (hb : ev c env b = some s) (hr : r.seq = some (x.map e)) (hs : s.seq = some (y.map f)) : Sim (evi c env (.zip a b)) (some (List.zip x y)) (List.map (encP2 e f)) := fun v h => by
  cases h
  rw [q_evi_zip, ha, hb]
  show zipR r s = _
  unfold zipR
  rw [hr]
  show (s.seq).bind _ = _
  rw [hs]
  show some (zipD _ _) = _
  rw [zip_enc]
theorem en_enc {e : α → PyData} : ∀ (i : Nat) (x : List α), enD i (x.map e) = (enI i x).map (encP2 PyData.int e)
  | _, [] => rfl
  | i, a :: x => by
    show _ :: enD (i + 1) (x.map e) = _
    rw [en_enc (i + 1) x]
    rfl
theorem i_en {e : α → PyData} {a : Ex} {x : List α} {r : RV} (ha : ev c env a = some r) (hs : itemsOf r = some (x.map e)) : Sim (evi c env (.en a)) (some (enI 0 x)) (List.map (encP2 PyData.int e)) := fun v h => by
  cases h
  rw [q_evi_en, ha]
  show (itemsOf r).map _ = _
  rw [hs]
  show some (enD 0 _) = _
  rw [en_enc]
def bo (c : Cl) (env : Ev) (e : Ex) : Bool := isVar e && ((ev c env e).map RV.isOwn).getD true
theorem bo_n {e : Ex} (h : isVar e = false) : bo c env e = false := by unfold bo; rw [h]; rfl
theorem bo_v {e : Ex} {d : PyData} (h : ev c env e = some (.fz d)) : bo c env e = false := by unfold bo; rw [h]; cases isVar e <;> rfl
theorem b_ex {a : Ex} (h : bo c env a = false) : borI c env (.ex a) = false := h
theorem b_en {a : Ex} (h : bo c env a = false) : borI c env (.en a) = false := h
theorem b_zip {a b : Ex} (h : bo c env a = false) (g : bo c env b = false) : borI c env (.zip a b) = false := by
  show (bo c env a || bo c env b) = false
  rw [h, g]
  rfl
theorem sim_bx {e' : Ex} {M : Option β} {K : β → Option δ} {ψ : δ → RV} (e : Ex) (φ : β → RV) (h : Sim (ev c env e) M φ) (k : ∀ v, ev c env e = some (φ v) → Sim (ev c env e') (K v) ψ) : Sim (ev c env e') (M.bind K) ψ := sim_b h k
theorem comp_map {e : α → PyData} {f : β → PyData} {F : α → Option β} {g : PyData → Option (Option PyData)} (h : ∀ x y, F x = some y → g (e x) = some (some (f y))) : ∀ (x : List α) (y : List β), mapO F x = some y → compL g (x.map e) = some (y.map f)
  | [], y, q => by cases q; rfl
  | a :: x, y, q => by
    unfold mapO at q
    obtain ⟨b, h1, q⟩ := bind_of q
    obtain ⟨r, h2, q⟩ := bind_of q
    cases q
    show (g (e a)).bind _ = _
    rw [h a b h1]
    show (compL g (x.map e)).bind _ = _
    rw [comp_map h x r h2]
    rfl
theorem comp_fil {e : α → PyData} {f : β → PyData} {F : α → Option (Option β)} {g : PyData → Option (Option PyData)} (h : ∀ x y, F x = some y → g (e x) = some (y.map f)) : ∀ (x : List α) (y : List β), filO F x = some y → compL g (x.map e) = some (y.map f)
  | [], y, q => by cases q; rfl
  | a :: x, y, q => by
    unfold filO at q
    obtain ⟨b, h1, q⟩ := bind_of q
    obtain ⟨r, h2, q⟩ := bind_of q
    cases q
    show (g (e a)).bind _ = _
    rw [h a b h1]
    show (compL g (x.map e)).bind _ = _
    rw [comp_fil h x r h2]
    cases b <;> rfl
theorem m_comp {e : α → PyData} {f : β → PyData} {b : Ex} {tg : Tg} {it : Mn.Itr} {own : List Nat} {x : List α} {F : α → Option β} {φ : β → RV} (hi : Sim (evi c env it) (some x) (List.map e))
    (hb : ∀ y, ∃ env', bindT tg (wipeE env own) (e y) = some env' ∧ Sim (ev c env' b) (F y) φ) (ho : ∀ v, ownD b (φ v) = some (f v)) : Sim (ev c env (.comp b tg it .emp own)) (mapG x F) (ol f) := fun v h => by
  unfold mapG at h
  split at h
  · rw [q_ev_comp, hi x rfl]
    show (compL (cmpB c (wipeE env own) b tg .emp) (x.map e)).bind _ = _
    rw [comp_map (f := f) (F := F) (fun y z hz => by
      obtain ⟨env', h1, h2⟩ := hb y
      unfold cmpB
      simp [h1, q_evt_emp, h2 z hz, ho]) x v h]
    show (if _ then _ else _) = _
    rw [if_pos (by rw [List.length_map]; assumption)]
  · cases h
def filB (t : Option Bool) (M : Option β) : Option (Option β) := t.bind fun k => if k = true then M.bind fun y => some (some y) else some none
theorem m_compT {e : α → PyData} {f : β → PyData} {b t : Ex} {tg : Tg} {it : Mn.Itr} {own : List Nat} {x : List α} {F : α → Option β} {T : α → Option Bool} {φ : β → RV} (hi : Sim (evi c env it) (some x) (List.map e))
    (hb : ∀ y, ∃ env', bindT tg (wipeE env own) (e y) = some env' ∧ Sim (ev c env' t) (T y) (fz PyData.bool) ∧ Sim (ev c env' b) (F y) φ) (ho : ∀ v, ownD b (φ v) = some (f v)) : Sim (ev c env (.comp b tg it (.one t) own)) (filG x fun y => filB (T y) (F y)) (ol f) := fun v h => by
  unfold filG at h
  split at h
  · rw [q_ev_comp, hi x rfl]
    show (compL (cmpB c (wipeE env own) b tg (.one t)) (x.map e)).bind _ = _
    rw [comp_fil (f := f) (F := fun y => filB (T y) (F y)) (fun y z hz => by
      obtain ⟨env', h1, h2, h3⟩ := hb y
      unfold cmpB
      obtain ⟨k, q1, q2⟩ := bind_of hz
      cases k with
      | false => cases q2; simp [h1, q_evt_one, h2 _ q1]
      | true =>
        obtain ⟨w, q3, q4⟩ := bind_of q2
        cases q4
        simp [h1, q_evt_one, h2 _ q1, h3 w q3, ho]) x v h]
    show (if _ then _ else _) = _
    rw [if_pos (by rw [List.length_map]; assumption)]
  · cases h
theorem own_v {a : Ex} {r : RV} {d : PyData} (h : r = .fz d) : ownD a r = some d := by subst h; exact own_fz _ _
theorem own_o {a : Ex} {r : RV} {d : PyData} (hv : isVar a = false) (h : r.d = d) : ownD a r = some d := by subst h; unfold ownD; rw [hv]; rfl
end
def runS (c : Cl) : List Sms → Ev → Option Out
  | [], env => some (.nx env)
  | b :: bs, env => (exSs c b env).bind fun o => thenO o (runS c bs)
section
variable {c : Cl} {env : Ev} {P : R → Out → Prop} {bs : List Sms} {r : Sms}
theorem run_cons (s : Sm) : runS c (.cons s r :: bs) env = (exS c s env).bind fun o => thenO o (runS c (r :: bs)) := by
  show (exSs c (.cons s r) env).bind _ = _
  rw [q_exSs_cons]
  cases exS c s env with
  | none => rfl
  | some o => cases o <;> rfl
theorem run_stop {o : Out} (ho : ∀ k : Ev → Option Out, thenO o k = some o) {s : Sm} (h : exS c s env = some o) : runS c (.cons s r :: bs) env = some o := by rw [run_cons, h]; exact ho _
theorem sms_bx {M : Option β} {K : β → Option R} (e : Ex) (φ : β → RV) (h : Sim (ev c env e) M φ) (k : ∀ v, ev c env e = some (φ v) → SimS (runS c bs env) (K v) P) : SimS (runS c bs env) (M.bind K) P := sms_b h k
theorem sms_bi {M : Option (List β)} {K : List β → Option R} (e : Mn.Itr) (φ : List β → List PyData) (h : Sim (evi c env e) M φ) (k : ∀ v, evi c env e = some (φ v) → SimS (runS c bs env) (K v) P) : SimS (runS c bs env) (M.bind K) P := sms_b h k
theorem s_nil {M : Option R} (h : SimS (runS c bs env) M P) : SimS (runS c (.nil :: bs) env) M P := fun v e => by
  obtain ⟨o, h1, h2⟩ := h v e
  exact ⟨o, by show (exSs c .nil env).bind _ = _; rw [q_exSs_nil]; exact h1, h2⟩
theorem s_end {v : R} (h : P v (.nx env)) : SimS (runS c [] env) (some v) P := fun w e => by cases e; exact ⟨_, rfl, h⟩
theorem s_frz {M : Option R} {i : Nat} {x : RV} (hi : (env[i]?).join = some x) (h : SimS (runS c (r :: bs) (env.set i (some (.fz x.d)))) M P) (hp : x.pl = true := by rfl) : SimS (runS c (.frz i r :: bs) env) M P := fun v e => by
  obtain ⟨o, h1, h2⟩ := h v e
  exact ⟨o, by show (exSs c (.frz i r) env).bind _ = _; rw [q_exSs_frz, hi]; show (frzK c i r env x).bind _ = _; rw [q_frzK _ _ _ _ _ hp]; exact h1, h2⟩
theorem s_norm {M : Option R} {env env' : Ev} {bs : List Sms} {P : R → Out → Prop} (e : env = env') (h : SimS (runS c bs env') M P) : SimS (runS c bs env) M P := e ▸ h
theorem s_del {M : Option R} {i : Nat} (h : SimS (runS c (r :: bs) (env.set i none)) M P) : SimS (runS c (.del i r :: bs) env) M P := fun v e => by
  obtain ⟨o, h1, h2⟩ := h v e
  exact ⟨o, by show (exSs c (.del i r) env).bind _ = _; rw [q_exSs_del]; exact h1, h2⟩
theorem s_step {M : Option R} {s : Sm} {env' : Ev} (hs : exS c s env = some (.nx env')) (h : SimS (runS c (r :: bs) env') M P) : SimS (runS c (.cons s r :: bs) env) M P := fun v e => by
  obtain ⟨o, h1, h2⟩ := h v e
  exact ⟨o, by rw [run_cons, hs]; exact h1, h2⟩
theorem s_asg {M : Option β} {K : β → Option R} {φ : β → RV} {i : Nat} {e : Ex} (he : Sim (ev c env e) M φ) (hv : ∀ v, (isVar e && (φ v).isOwn) = false) (h : ∀ v, SimS (runS c (r :: bs) (env.set i (some (φ v)))) (K v) P) : SimS (runS c (.cons (.asg i e) r :: bs) env) (M.bind K) P := fun w q => by
  obtain ⟨v, q1, q2⟩ := bind_of q
  exact s_step (M := K v) (by rw [q_exS_asg, he v q1]; show (if _ then _ else _) = _; rw [hv]; rfl) (h v) w q2
theorem s_unp {M : Option R} {is : List Nat} {e : Ex} {x : RV} {d : PyData} {env' : Ev} (he : ev c env e = some x) (ho : ownD e x = some d) (hb : bindT (.tp is) env d = some env') (h : SimS (runS c (r :: bs) env') M P) : SimS (runS c (.cons (.unp is e) r :: bs) env) M P :=
  s_step (by rw [q_exS_unp, he]; show (ownD e x).bind _ = _; rw [ho]; show (bindT _ _ _).map _ = _; rw [hb]; rfl) h
theorem s_app {f : β → PyData} {x : β} {xs : List β} {K : List β → Option R} {i : Nat} {e : Ex} {y : RV} (hi : (env[i]?).join = some (.ol (xs.map f))) (he : ev c env e = some y) (ho : ownD e y = some (f x)) (h : ∀ v : List β, SimS (runS c (r :: bs) (env.set i (some (.ol (v.map f))))) (K v) P) :
    SimS (runS c (.cons (.app i e) r :: bs) env) ((appG xs x).bind K) P := fun w q => by
  obtain ⟨v, q1, q2⟩ := bind_of q
  unfold appG at q1
  split at q1
  · cases q1
    refine s_step (M := K _) ?_ (h _) w q2
    rw [q_exS_app, olAt_of hi, he]
    show (ownD e y).bind _ = _
    rw [ho]
    show (if _ then _ else _) = _
    rw [if_pos (by rw [List.length_map]; assumption), List.map_append]
    rfl
  · cases q1
theorem s_ext {f : β → PyData} {xs ys : List β} {K : List β → Option R} {i : Nat} {e : Ex} {y : RV} (hi : (env[i]?).join = some (.ol (xs.map f))) (he : ev c env e = some y) (ho : y.seqT = some (ys.map f)) (h : ∀ v : List β, SimS (runS c (r :: bs) (env.set i (some (.ol (v.map f))))) (K v) P) :
    SimS (runS c (.cons (.ext i e) r :: bs) env) ((catG xs ys).bind K) P := fun w q => by
  obtain ⟨v, q1, q2⟩ := bind_of q
  unfold catG at q1
  split at q1
  · cases q1
    refine s_step (M := K _) ?_ (h _) w q2
    rw [q_exS_ext, olAt_of hi, he]
    show (y.seqT).bind _ = _
    rw [ho]
    show (if _ then _ else _) = _
    rw [if_pos (by rw [List.length_map, List.length_map]; assumption), List.map_append]
  · cases q1
theorem map_erase {f : β → PyData} : ∀ (xs : List β) (k : Nat), (xs.map f).eraseIdx k = (xs.eraseIdx k).map f
  | [], k => by simp
  | _ :: _, 0 => rfl
  | x :: xs, k + 1 => by simp [map_erase xs k]
theorem s_pop {f : β → PyData} {xs : List β} {k : Int} {K : List β × β → Option R} {i j : Nat} {e : Ex} (hj : i ≠ j) (hi : (env[i]?).join = some (.ol (xs.map f))) (he : ev c env e = some (.fz (.int k))) (h : ∀ v : List β × β, SimS (runS c (r :: bs) ((env.set i (some (.ol (v.1.map f)))).set j (some (.fz (f v.2))))) (K v) P) :
    SimS (runS c (.cons (.pop j i e) r :: bs) env) ((popG xs k).bind K) P := fun w q => by
  obtain ⟨v, q1, q2⟩ := bind_of q
  unfold popG at q1
  split at q1
  · obtain ⟨d, z1, z2⟩ := bind_of q1
    split at z2
    · cases z2
      refine s_step (M := K _) ?_ (h _) w q2
      rw [q_exS_pop, if_neg hj, olAt_of hi, he]
      show (if 0 ≤ k then ((xs.map f)[k.toNat]?).bind _ else _) = _
      rw [if_pos (by assumption), List.getElem?_map, z1]
      show (if _ then _ else _) = _
      rw [if_pos (by rw [List.length_map]; assumption), map_erase]
    · cases z2
  · cases q1
theorem s_sti {f : β → PyData} {xs : List β} {k : Int} {x : β} {K : List β → Option R} {i : Nat} {e g : Ex} {y : RV} (hi : (env[i]?).join = some (.ol (xs.map f))) (he : ev c env e = some y) (ho : ownD e y = some (f x)) (hk : ev c env g = some (.fz (.int k))) (h : ∀ v : List β, SimS (runS c (r :: bs) (env.set i (some (.ol (v.map f))))) (K v) P) :
    SimS (runS c (.cons (.sti i g e) r :: bs) env) ((setG xs k x).bind K) P := fun w q => by
  obtain ⟨v, q1, q2⟩ := bind_of q
  unfold setG at q1
  obtain ⟨j, z1, z2⟩ := bind_of q1
  cases z2
  refine s_step (M := K _) ?_ (h _) w q2
  rw [q_exS_sti, he]
  show (ownD e y).bind _ = _
  rw [ho]
  show (olAt env i).bind _ = _
  rw [olAt_of hi, hk]
  show (ixN (xs.map f).length k).bind _ = _
  rw [List.length_map, z1]
  show some (Out.nx (env.set i (some (.ol ((xs.map f).set j (f x)))))) = _
  rw [← List.map_set]
theorem run_if (t : Ex) (a b : Sms) {k : Bool} (ht : ev c env t = some (.fz (.bool k))) : runS c (.cons (.ifs t a b) r :: bs) env = if k = true then runS c (a :: r :: bs) env else runS c (b :: r :: bs) env := by
  rw [run_cons, q_exS_ifs, ht]
  show (ifK c a b env k).bind _ = _
  cases k <;> rfl
theorem s_if {t : Ex} {a b : Sms} {k : Bool} {A B : Option R} (ht : ev c env t = some (.fz (.bool k))) (ha : SimS (runS c (a :: r :: bs) env) A P) (hb : SimS (runS c (b :: r :: bs) env) B P) :
    SimS (runS c (.cons (.ifs t a b) r :: bs) env) (if k = true then A else B) P := fun v e => by
  rw [run_if t a b ht]
  cases k with
  | true => exact ha v e
  | false => exact hb v e
theorem s_cut {A : Option σ} {E : σ → Ev} {K : σ → Option R} {s : Sm} (ha : SimS (runS c [.cons s .nil] env) A (PNx E)) (h : ∀ v, SimS (runS c (r :: bs) (E v)) (K v) P) : SimS (runS c (.cons s r :: bs) env) (A.bind K) P := fun w q => by
  obtain ⟨v, q1, q2⟩ := bind_of q
  obtain ⟨o, h1, rfl⟩ := ha v q1
  have e : exS c s env = some (.nx (E v)) := by
    rw [run_cons] at h1
    obtain ⟨o, z1, z2⟩ := bind_of h1
    rw [z1]
    cases o with
    | nx e =>
      have z2 : (exSs c .nil e).bind (fun o => thenO o (runS c [])) = _ := z2
      rw [q_exSs_nil] at z2
      exact z2
    | rt _ => cases z2
    | bk _ => cases z2
    | ct _ => cases z2
    | re _ _ => cases z2
  exact s_step e (h v) w q2
theorem s_ret {M : Option β} {φ : β → RV} {mk : β → R} {e : Ex} (he : Sim (ev c env e) M φ) (hP : ∀ v, P (mk v) (.rt (φ v))) : SimS (runS c (.cons (.ret e) r :: bs) env) (M.bind fun v => some (mk v)) P := fun w q => by
  obtain ⟨v, q1, q2⟩ := bind_of q
  cases q2
  exact ⟨_, run_stop (fun _ => rfl) (by rw [q_exS_ret, he v q1]; rfl), hP v⟩
theorem s_ret1 {M : Option R} {φ : R → RV} {e : Ex} (he : Sim (ev c env e) M φ) (hP : ∀ v, P v (.rt (φ v))) : SimS (runS c (.cons (.ret e) r :: bs) env) M P := fun w q =>
  ⟨_, run_stop (fun _ => rfl) (by rw [q_exS_ret, he w q]; rfl), hP w⟩
theorem s_nev : SimS (runS c (.cons .nev r :: bs) env) (none : Option R) P := fun w q => by cases q
theorem exSs_run (b : Sms) (env : Ev) : runS c [b] env = exSs c b env := by
  show (exSs c b env).bind _ = _
  cases exSs c b env with
  | none => rfl
  | some o => cases o <;> rfl
abbrev on {α : Type} (e : α → PyData) : List (List α) → RV := fun xs => .on (xs.map (List.map e))
theorem forL_fold {e : α → PyData} {E : σ → Ev} {F : α → σ → Option σ} {g : Ev → PyData → Option Out} (h : ∀ x s, SimS (g (E s) (e x)) (F x s) (PLn E)) : ∀ (xs : List α) (s s' : σ), foldO F xs s = some s' → forL g (xs.map e) (E s) = some (.nx (E s'))
  | [], s, s', q => by cases q; rfl
  | x :: xs, s, s', q => by
    obtain ⟨t, q1, q2⟩ := bind_of q
    obtain ⟨o, h1, h2⟩ := h x s t q1
    show (g (E s) (e x)).bind _ = _
    rw [h1]
    rcases h2 with rfl | rfl
    · exact forL_fold h xs t s' q2
    · exact forL_fold h xs t s' q2
def LpO (E : σ → Ev) (φ : ρ → RV) : Lp σ ρ → Out
  | .nx s => .nx (E s)
  | .bk s => .nx (E s)
  | .rt r => .rt (φ r)
theorem forL_loop {e : α → PyData} {E : σ → Ev} {φ : ρ → RV} {F : α → σ → Option (Lp σ ρ)} {g : Ev → PyData → Option Out} (h : ∀ x s, SimS (g (E s) (e x)) (F x s) (PLp E φ)) : ∀ (xs : List α) (s : σ) (s' : Lp σ ρ), loopO F xs s = some s' → forL g (xs.map e) (E s) = some (LpO E φ s')
  | [], s, s', q => by cases q; rfl
  | x :: xs, s, s', q => by
    obtain ⟨t, q1, q2⟩ := bind_of q
    obtain ⟨o, h1, h2⟩ := h x s t q1
    show (g (E s) (e x)).bind _ = _
    rw [h1]
    cases t with
    | nx t =>
      rcases h2 with rfl | rfl
      · exact forL_loop h xs t s' q2
      · exact forL_loop h xs t s' q2
    | bk t => cases h2; cases q2; rfl
    | rt t => cases h2; cases q2; rfl
theorem s_for {e : α → PyData} {E : σ → Ev} {F : α → σ → Option σ} {K : σ → Option R} {tg : Tg} {it : Mn.Itr} {b : Sms} {xs : List α} (s0 : σ) (h0 : env = E s0) (hi : Sim (evi c env it) (some xs) (List.map e)) (hb : borI c env it = false)
    (h : ∀ x s, ∃ env', bindT tg (E s) (e x) = some env' ∧ SimS (runS c [b] env') (F x s) (PLn E)) (hr : ∀ s, SimS (runS c (r :: bs) (E s)) (K s) P) : SimS (runS c (.cons (.for_ tg it b) r :: bs) env) ((foldO F xs s0).bind K) P := fun w q => by
  obtain ⟨s', q1, q2⟩ := bind_of q
  refine s_step (M := K s') ?_ (hr s') w q2
  rw [q_exS_for_, if_neg (by rw [hb]; exact Bool.false_ne_true), hi xs rfl]
  show forL (forB c tg b) (xs.map e) env = _
  rw [h0]
  refine forL_fold (fun x s v hv => ?_) xs s0 s' q1
  obtain ⟨env', h1, h2⟩ := h x s
  obtain ⟨o, h3, h4⟩ := h2 v hv
  refine ⟨o, ?_, h4⟩
  unfold forB
  rw [h1]
  rw [exSs_run] at h3
  exact h3
theorem s_forL {e : α → PyData} {E : σ → Ev} {φ : ρ → RV} {F : α → σ → Option (Lp σ ρ)} {K : σ → Option R} {mk : ρ → R} {tg : Tg} {it : Mn.Itr} {b : Sms} {xs : List α} (s0 : σ) (h0 : env = E s0) (hi : Sim (evi c env it) (some xs) (List.map e)) (hb : borI c env it = false)
    (h : ∀ x s, ∃ env', bindT tg (E s) (e x) = some env' ∧ SimS (runS c [b] env') (F x s) (PLp E φ)) (hm : ∀ v, P (mk v) (.rt (φ v))) (hr : ∀ s, SimS (runS c (r :: bs) (E s)) (K s) P) :
    SimS (runS c (.cons (.for_ tg it b) r :: bs) env) ((loopO F xs s0).bind (lpK K fun v => some (mk v))) P := fun w q => by
  obtain ⟨s', q1, q2⟩ := bind_of q
  have lp : exS c (.for_ tg it b) env = some (LpO E φ s') := by
    rw [q_exS_for_, if_neg (by rw [hb]; exact Bool.false_ne_true), hi xs rfl]
    show forL (forB c tg b) (xs.map e) env = _
    rw [h0]
    refine forL_loop (fun x s v hv => ?_) xs s0 s' q1
    obtain ⟨env', h1, h2⟩ := h x s
    obtain ⟨o, h3, h4⟩ := h2 v hv
    refine ⟨o, ?_, h4⟩
    unfold forB
    rw [h1]
    rw [exSs_run] at h3
    exact h3
  cases s' with
  | nx s => exact s_step (M := K s) lp (hr s) w q2
  | bk s => exact s_step (M := K s) lp (hr s) w q2
  | rt v => cases q2; exact ⟨_, run_stop (fun _ => rfl) lp, hm v⟩
end
theorem s_def {c : Cl} {f : Df} {ds : List PyData} {M : Option ρ} {φ : ρ → RV} (hl : ds.length = f.np) (h : SimS (runS c [f.body] (ds.map (fun d => some (RV.fz d)) ++ List.replicate (f.n - f.np) none)) M (PRt φ)) (hx : ∀ v, (φ v).isX = false := by intros; rfl) (hp : ∀ v, (φ v).pl = true := by intros; rfl) : Sim (runD c f ds) M φ := fun v e => by
  obtain ⟨o, h1, rfl⟩ := h v e
  rw [exSs_run] at h1
  exact run_rt hl h1 (hx v) (hp v)
end Mn
namespace Mn
open PySem PySem.Spec PyProof.Rows
open L2 (atI ixN cutS)
variable {α β γ δ σ ρ R : Type}
abbrev strOk (x : Str) : Bool := PyData.strOk x
structure GoodK (e : α → PyData) (ok : α → Bool) (n : Nat) : Prop where
  can : ∀ x, ok x = true → (e x).canLay0 = true
  dep : ∀ x, (e x).depth ≤ n
  inj : ∀ x y, PyData.eqv (e x) (e y) = true ↔ x = y
theorem GoodK.shp {e : α → PyData} {ok : α → Bool} {n : Nat} (g : GoodK e ok n) (h : n ≤ 64) {x : α} (hx : ok x = true) : SeqAt.shaped (e x) = true := shp_of (g.can x hx) (Nat.le_trans (g.dep x) h)
theorem GoodK.dec [DecidableEq α] {e : α → PyData} {ok : α → Bool} {n : Nat} (g : GoodK e ok n) (x y : α) : PyData.eqv (e x) (e y) = decide (x = y) := by
  by_cases h : x = y
  · rw [decide_eq_true h]; exact (g.inj x y).mpr h
  · rw [decide_eq_false h]
    cases q : PyData.eqv (e x) (e y)
    · rfl
    · exact absurd ((g.inj x y).mp q) h
section
variable {c : Cl} {env : Ev}
end
section
variable {β R : Type} {c : Cl} {env : Ev} {P : R → Out → Prop} {bs : List Sms} {r : Sms}
def lenI (xs : List (List β)) (n : Int) : Option Int := (atI xs n).map fun ys => (ys.length : Int)
end
section
variable {α : Type} {c : Cl} {env : Ev}
end
section
variable {α β R : Type} {c : Cl} {env : Ev} {P : R → Out → Prop} {bs : List Sms} {r : Sms}
end
section
variable {c : Cl} {env : Ev}
end
section
variable {α β γ : Type} {c : Cl} {env : Ev}
end
section
variable {α : Type} {c : Cl} {env : Ev}
end
section
variable {α R : Type} {c : Cl} {env : Ev} {P : R → Out → Prop} {bs : List Sms} {r : Sms}
end
end Mn
set_option synthInstance.maxSize 100000
set_option synthInstance.maxHeartbeats 0
namespace Mn
open PySem PySem.Spec PyProof.Rows
open L2 (atI ixN cutS)
def b_law_cell_0 : Sms := (.cons (.asg 4 (.idx (.var 0) (.bin .mod (.var 1) (.bi .len (.cons (.var 0) .nil)))))
    (.del 0 .nil))
def b_law_cell_1 : Sms := (.del 0 .nil)
def b_law_cell_2 : Sms := (.cons (.asg 2 (.bin .fdiv (.var 2) (.bin .pow (.int 10) (.int 9))))
    (.del 3 .nil))
def b_law_cell_3 : Sms := (.cons (.asg 2 (.idx (.var 0) (.bin .add (.int 1) (.bin .mod (.var 1) (.bin .sub (.bi .len (.cons (.var 0) .nil)) (.int 1))))))
    (.cons (.for_ (.nm 3) (.r1 (.bi .min2 (.cons (.int 60) (.cons (.bin .fdiv (.var 1) (.bin .sub (.bi .len (.cons (.var 0) .nil)) (.int 1))) .nil)))) b_law_cell_2)
    (.cons (.ret (.bin .mod (.var 2) (.bin .pow (.int 10) (.int 9))))
    .nil)))
def d_law_cell : Df := ⟨5, 2, (.cons (.ifs (.and (.cmp .gt (.bi .len (.cons (.var 0) .nil)) (.int 1)) (.one (.cmp .eq (.bin .mod (.idx (.var 0) (.int 0)) (.int 2)) (.int 1)))) b_law_cell_3 .nil)
    (.cons (.asg 4 (.var 1))
    (.cons (.ifs (.cmp .gt (.bi .len (.cons (.var 0) .nil)) (.int 0)) b_law_cell_0 b_law_cell_1)
    (.cons (.ret (.bin .mod (.bin .mul (.bin .mod (.bin .add (.bin .add (.bin .add (.bin .mul (.bin .mod (.var 4) (.bin .pow (.int 10) (.int 30))) (.int 48271)) (.bin .mul (.bin .mul (.int 7) (.var 1)) (.var 1))) (.bin .mul (.int 13) (.var 1))) (.int 5)) (.int 2147483647)) (.int 69621)) (.int 1000000007)))
    .nil))))⟩
def s_law_cell : List PyData → Option RV := runD (tabC [] []) d_law_cell
end Mn
namespace Mn
open PySem PySem.Spec PyProof.Rows
open L2 (atI ixN cutS)
def b_law_table_v4_0 : Sms := (.cons (.asg 7 (.comp (.call 0 (.cons (.var 0) (.cons (.bin .add (.bin .add (.var 1) (.bin .mul (.var 6) (.var 4))) (.var 8)) .nil))) (.nm 8) (.r1 (.var 4)) .emp [8]))
    (.cons (.app 5 (.bi .tup (.cons (.comp (.bin .mul (.bin .mod (.bin .fdiv (.var 9) (.int 4)) (.var 2)) (.bi .int (.cons (.cmp .gt (.bin .mod (.var 9) (.int 4)) (.int 0)) .nil))) (.nm 9) (.ex (.var 7)) .emp [9]) .nil)))
    (.del 6 (.del 7 .nil))))
def d_law_table_v4 : Df := ⟨10, 5, (.cons (.asg 5 (.lst .nil))
    (.cons (.for_ (.nm 6) (.r1 (.var 3)) b_law_table_v4_0)
    (.cons (.ret (.tup (.cons (.var 3) (.cons (.var 4) (.cons (.bi .tup (.cons (.var 5) .nil)) .nil)))))
    .nil)))⟩
def s_law_table_v4 : List PyData → Option RV := runD (tabC [s_law_cell] []) d_law_table_v4
end Mn
namespace Mn
open PySem PySem.Spec PyProof.Rows
open L2 (atI ixN cutS)
def d_less : Df := ⟨6, 4, (.cons (.ret (.comp (.bin .mod (.bin .sub (.var 4) (.bin .mul (.var 3) (.var 5))) (.var 0)) (.tp [4, 5]) (.zip (.var 1) (.var 2)) .emp [4, 5]))
    .nil)⟩
def s_less : List PyData → Option RV := runD (tabC [] []) d_less
end Mn
namespace Mn
open PySem PySem.Spec PyProof.Rows
open L2 (atI ixN cutS)
def b_law_base_v2_0 : Sms := (.cons (.asg 8 (.idx (.comp (.var 11) (.nm 11) (.r1 (.var 0)) (.one (.cmp .eq (.bin .mod (.bin .mul (.var 11) (.idx (.idx (.var 7) (.int 0)) (.var 6))) (.var 0)) (.int 1))) [11]) (.int 0)))
    (.cons (.asg 9 (.comp (.bin .mod (.bin .mul (.var 8) (.var 11)) (.var 0)) (.nm 11) (.ex (.idx (.var 7) (.int 0))) .emp [11]))
    (.frz 9 (.cons (.asg 3 (.comp (.call 0 (.cons (.var 0) (.cons (.var 10) (.cons (.var 9) (.cons (.idx (.var 10) (.var 6)) .nil))))) (.nm 10) (.ex (.var 3)) .emp [10]))
    (.cons (.asg 5 (.bin .add (.comp (.call 0 (.cons (.var 0) (.cons (.var 10) (.cons (.var 9) (.cons (.idx (.var 10) (.var 6)) .nil))))) (.nm 10) (.ex (.var 5)) .emp [10]) (.lst (.cons (.var 9) .nil))))
    (.del 6 (.del 7 (.del 8 (.del 9 .nil)))))))))
def b_law_base_v2_1 : Sms := (.del 6 (.del 7 .nil))
def b_law_base_v2_2 : Sms := (.cons (.asg 7 (.comp (.var 10) (.nm 10) (.ex (.var 3)) (.one (.cmp .ne (.idx (.var 10) (.var 6)) (.int 0))) [10]))
    (.cons (.ifs (.cmp .gt (.bi .len (.cons (.var 7) .nil)) (.int 0)) b_law_base_v2_0 b_law_base_v2_1)
    .nil))
def d_law_base_v2 : Df := ⟨12, 3, (.cons (.asg 3 (.comp (.bi .list (.cons (.var 4) .nil)) (.nm 4) (.ex (.var 2)) .emp [4]))
    (.cons (.asg 5 (.lst .nil))
    (.del 2 (.cons (.for_ (.nm 6) (.r1 (.var 1)) b_law_base_v2_2)
    (.cons (.ret (.comp (.bi .tup (.cons (.var 10) .nil)) (.nm 10) (.ex (.var 5)) .emp [10]))
    .nil)))))⟩
def s_law_base_v2 : List PyData → Option RV := runD (tabC [s_less] []) d_law_base_v2
end Mn
namespace Mn
open PySem PySem.Spec PyProof.Rows
open L2 (atI ixN cutS)
def b_law_loads_v2_0 : Sms := (.cons (.app 4 (.bi .tup (.cons (.comp (.bin .mod (.bin .fdiv (.call 0 (.cons (.var 0) (.cons (.bin .add (.bin .add (.bin .add (.var 1) (.int 1)) (.bin .mul (.int 5) (.var 5))) (.var 6)) .nil))) (.int 4)) (.var 2)) (.nm 6) (.r1 (.var 3)) .emp [6]) .nil)))
    (.del 5 .nil))
def d_law_loads_v2 : Df := ⟨7, 4, (.cons (.asg 4 (.lst .nil))
    (.cons (.for_ (.nm 5) (.r1 (.bin .mod (.call 0 (.cons (.var 0) (.cons (.var 1) .nil))) (.int 4))) b_law_loads_v2_0)
    (.cons (.ret (.var 4))
    .nil)))⟩
def s_law_loads_v2 : List PyData → Option RV := runD (tabC [s_law_cell] []) d_law_loads_v2
end Mn
namespace Mn
open PySem PySem.Spec PyProof.Rows
open L2 (atI ixN cutS)
def d_law_led_v2 : Df := ⟨6, 3, (.cons (.ret (.bi .tup (.cons (.comp (.bin .mod (.bi .sum (.cons (.comp (.bin .mul (.var 4) (.var 5)) (.tp [4, 5]) (.zip (.var 3) (.var 2)) .emp [4, 5]) .nil)) (.var 0)) (.nm 3) (.ex (.var 1)) .emp [3]) .nil)))
    .nil)⟩
def s_law_led_v2 : List PyData → Option RV := runD (tabC [] []) d_law_led_v2
end Mn
namespace Mn
open PySem PySem.Spec PyProof.Rows
open L2 (atI ixN cutS)
def b_law_span_0 : Sms := (.cons (.stk 3 (.bi .tup (.cons (.comp (.bin .mod (.bin .add (.var 8) (.bin .mul (.var 7) (.var 9))) (.var 0)) (.tp [8, 9]) (.zip (.var 6) (.var 5)) .emp [8, 9]) .nil)) (.bl true))
    (.del 7 .nil))
def b_law_span_1 : Sms := (.cons (.for_ (.nm 7) (.r2 (.int 1) (.var 0)) b_law_span_0)
    (.del 6 .nil))
def b_law_span_2 : Sms := (.cons (.for_ (.nm 6) (.ex (.bi .list (.cons (.var 3) .nil))) b_law_span_1)
    (.del 5 .nil))
def d_law_span : Df := ⟨10, 3, (.cons (.asg 3 (.dT1 (.bi .tup (.cons (.comp (.int 0) (.nm 4) (.r1 (.var 1)) .emp [4]) .nil)) (.bl true)))
    (.del 1 (.cons (.for_ (.nm 5) (.ex (.var 2)) b_law_span_2)
    (.cons (.ret (.var 3))
    .nil))))⟩
def s_law_span : List PyData → Option RV := runD (tabC [] []) d_law_span
end Mn
namespace Mn
open PySem PySem.Spec PyProof.Rows
open L2 (atI ixN cutS)
def b_law_all_0 : Sms := (.cons (.ext 4 (.comp (.bin .add (.var 5) (.tup (.cons (.var 6) .nil))) (.nm 6) (.r1 (.var 0)) .emp [6]))
    (.del 5 .nil))
def b_law_all_1 : Sms := (.cons (.asg 4 (.lst .nil))
    (.del 3 (.cons (.for_ (.nm 5) (.ex (.var 2)) b_law_all_0)
    (.frz 4 (.cons (.asg 2 (.var 4))
    (.del 4 .nil))))))
def d_law_all : Df := ⟨7, 2, (.cons (.asg 2 (.lst (.cons (.tup .nil) .nil)))
    (.frz 2 (.cons (.for_ (.nm 3) (.r1 (.var 1)) b_law_all_1)
    (.cons (.ret (.var 2))
    .nil))))⟩
def s_law_all : List PyData → Option RV := runD (tabC [] []) d_law_all
end Mn
namespace Mn
open PySem PySem.Spec PyProof.Rows
open L2 (atI ixN cutS)
def b_law_due_v10_0 : Sms := (.cons (.ret (.call 0 (.cons (.var 0) (.cons (.var 4) (.cons (.comp (.call 1 (.cons (.var 0) (.cons (.var 6) (.cons (.var 7) .nil)))) (.nm 7) (.ex (.var 2)) .emp [7]) .nil)))))
    .nil)
def d_law_due_v10 : Df := ⟨9, 4, (.cons (.unp [4, 5, 6] (.var 1))
    (.cons (.ifs (.var 3) b_law_due_v10_0 .nil)
    (.cons (.asg 8 (.call 2 (.cons (.var 0) (.cons (.var 4) (.cons (.var 2) .nil)))))
    (.cons (.ret (.call 0 (.cons (.var 0) (.cons (.var 5) (.cons (.comp (.var 7) (.nm 7) (.ex (.call 3 (.cons (.var 0) (.cons (.var 5) .nil)))) (.one (.cmp .inn (.call 1 (.cons (.var 0) (.cons (.var 6) (.cons (.var 7) .nil)))) (.var 8))) [7]) .nil)))))
    .nil))))⟩
def s_law_due_v10 : List PyData → Option RV := runD (tabC [s_law_base_v2, s_law_led_v2, s_law_span, s_law_all] []) d_law_due_v10
end Mn
namespace Mn
open PySem PySem.Spec PyProof.Rows
open L2 (atI ixN cutS)
def d_law_whole : Df := ⟨1, 1, (.cons (.ret (.and (.bi (.isI .int) (.cons (.var 0) .nil)) (.one (.not (.bi (.isI .bool) (.cons (.var 0) .nil))))))
    .nil)⟩
def s_law_whole : List PyData → Option RV := runD (tabC [] []) d_law_whole
end Mn
namespace Mn
open PySem PySem.Spec PyProof.Rows
open L2 (atI ixN cutS)
def b_law_is_base_v2_0 : Sms := (.cons (.ret (.bl false))
    .nil)
def b_law_is_base_v2_1 : Sms := (.cons (.ifs (.or (.not (.bi (.isI .tuple) (.cons (.var 2) .nil))) (.or (.not (.bi .all (.cons (.comp (.call 0 (.cons (.var 4) .nil)) (.nm 4) (.ex (.var 2)) .emp [4]) .nil))) (.one (.cmp .ne (.var 2) (.var 3))))) b_law_is_base_v2_0 .nil)
    (.del 2 (.del 3 .nil)))
def b_law_is_base_v2_2 : Sms := (.cons (.ret (.bl false))
    .nil)
def d_law_is_base_v2 : Df := ⟨5, 2, (.cons (.ifs (.or (.not (.bi (.isI .list) (.cons (.var 0) .nil))) (.one (.cmp .ne (.bi .len (.cons (.var 0) .nil)) (.bi .len (.cons (.var 1) .nil))))) b_law_is_base_v2_2 .nil)
    (.cons (.for_ (.tp [2, 3]) (.zip (.var 0) (.var 1)) b_law_is_base_v2_1)
    (.cons (.ret (.bl true))
    .nil)))⟩
def s_law_is_base_v2 : List PyData → Option RV := runD (tabC [s_law_whole] []) d_law_is_base_v2
end Mn
namespace Mn
open PySem PySem.Spec PyProof.Rows
open L2 (atI ixN cutS)
def b_first_with_0 : Sms := (.cons (.ret (.var 2))
    .nil)
def b_first_with_1 : Sms := (.cons (.ifs (.cmp .ne (.idx (.var 3) (.var 1)) (.int 0)) b_first_with_0 .nil)
    (.del 2 (.del 3 .nil)))
def d_first_with : Df := ⟨4, 2, (.cons (.for_ (.tp [2, 3]) (.en (.var 0)) b_first_with_1)
    (.cons (.ret .non)
    .nil))⟩
def s_first_with : List PyData → Option RV := runD (tabC [] []) d_first_with
end Mn
namespace Mn
open PySem PySem.Spec PyProof.Rows
open L2 (atI ixN cutS)
def b_inverse_0 : Sms := (.cons (.ret (.var 2))
    .nil)
def b_inverse_1 : Sms := (.cons (.ifs (.cmp .eq (.bin .mod (.bin .mul (.var 2) (.var 1)) (.var 0)) (.int 1)) b_inverse_0 .nil)
    (.del 2 .nil))
def d_inverse : Df := ⟨3, 2, (.cons (.for_ (.nm 2) (.r2 (.int 1) (.var 0)) b_inverse_1)
    (.cons .nev
    .nil))⟩
def s_inverse : List PyData → Option RV := runD (tabC [] []) d_inverse
end Mn
namespace Mn
open PySem PySem.Spec PyProof.Rows
open L2 (atI ixN cutS)
def b_base_of_0 : Sms := (.cons (.pop 8 3 (.var 7))
    (.cons (.asg 9 (.call 1 (.cons (.var 0) (.cons (.idx (.var 8) (.var 6)) .nil))))
    (.cons (.asg 8 (.comp (.bin .mod (.bin .mul (.var 9) (.var 10)) (.var 0)) (.nm 10) (.ex (.var 8)) .emp [10]))
    (.frz 8 (.cons (.asg 3 (.comp (.call 2 (.cons (.var 0) (.cons (.var 11) (.cons (.var 8) (.cons (.idx (.var 11) (.var 6)) .nil))))) (.nm 11) (.ex (.var 3)) .emp [11]))
    (.cons (.asg 5 (.bin .add (.comp (.call 2 (.cons (.var 0) (.cons (.var 11) (.cons (.var 8) (.cons (.idx (.var 11) (.var 6)) .nil))))) (.nm 11) (.ex (.var 5)) .emp [11]) (.lst (.cons (.var 8) .nil))))
    (.del 6 (.del 7 (.del 8 (.del 9 .nil))))))))))
def b_base_of_1 : Sms := (.del 6 (.del 7 .nil))
def b_base_of_2 : Sms := (.cons (.asg 7 (.call 0 (.cons (.var 3) (.cons (.var 6) .nil))))
    (.cons (.ifs (.cmp .noN (.var 7) .non) b_base_of_0 b_base_of_1)
    .nil))
def d_base_of : Df := ⟨12, 3, (.cons (.asg 3 (.comp (.bi .list (.cons (.var 4) .nil)) (.nm 4) (.ex (.var 2)) .emp [4]))
    (.cons (.asg 5 (.lst .nil))
    (.del 2 (.cons (.for_ (.nm 6) (.r1 (.var 1)) b_base_of_2)
    (.cons (.ret (.comp (.bi .tup (.cons (.var 11) .nil)) (.nm 11) (.ex (.var 5)) .emp [11]))
    .nil)))))⟩
def s_base_of : List PyData → Option RV := runD (tabC [s_first_with, s_inverse, s_less] []) d_base_of
end Mn
namespace Mn
open PySem PySem.Spec PyProof.Rows
open L2 (atI ixN cutS)
def d_summed : Df := ⟨5, 3, (.cons (.ret (.bin .mod (.bi .sum (.cons (.comp (.bin .mul (.var 3) (.var 4)) (.tp [3, 4]) (.zip (.var 1) (.var 2)) .emp [3, 4]) .nil)) (.var 0)))
    .nil)⟩
def s_summed : List PyData → Option RV := runD (tabC [] []) d_summed
end Mn
namespace Mn
open PySem PySem.Spec PyProof.Rows
open L2 (atI ixN cutS)
def d_led : Df := ⟨4, 3, (.cons (.ret (.bi .tup (.cons (.comp (.call 0 (.cons (.var 0) (.cons (.var 3) (.cons (.var 2) .nil)))) (.nm 3) (.ex (.idx (.var 1) (.int 2))) .emp [3]) .nil)))
    .nil)⟩
def s_led : List PyData → Option RV := runD (tabC [s_summed] []) d_led
end Mn
namespace Mn
open PySem PySem.Spec PyProof.Rows
open L2 (atI ixN cutS)
def d_pressed : Df := ⟨4, 3, (.cons (.ret (.call 0 (.cons (.var 0) (.cons (.idx (.var 1) (.int 0)) (.cons (.comp (.call 1 (.cons (.var 0) (.cons (.var 1) (.cons (.var 3) .nil)))) (.nm 3) (.ex (.var 2)) .emp [3]) .nil)))))
    .nil)⟩
def s_pressed : List PyData → Option RV := runD (tabC [s_base_of, s_led] []) d_pressed
end Mn
namespace Mn
open PySem PySem.Spec PyProof.Rows
open L2 (atI ixN cutS)
variable {α β γ δ σ ρ R κ : Type}
def lookA [DecidableEq κ] (x : List (κ × β)) (a : κ) : Option β := (x.find? fun p => decide (p.1 = a)).map fun p => p.2
def putA [DecidableEq κ] (x : List (κ × β)) (a : κ) (v : β) : List (κ × β) := if (lookA x a).isSome then x.map (fun p => if p.1 = a then (p.1, v) else p) else x ++ [(a, v)]
def putG [DecidableEq κ] (x : List (κ × β)) (a : κ) (v : β) : Option (List (κ × β)) := if x.length < LIM then some (putA x a v) else none
def dkR (f : β → PyData) (x : List (Int × β)) : List (PyData × PyData) := (.none, .bool false) :: x.map fun p => (PyData.int p.1, f p.2)
def dtR (k : κ → List Int) (f : β → PyData) (x : List (κ × β)) : List (PyData × PyData) := (.none, .bool true) :: x.map fun p => (keyT (k p.1), f p.2)
abbrev encD (e : α → List (PyData × PyData)) (x : α) : PyData := .dict (e x)
abbrev odv (e : α → List (PyData × PyData)) (x : α) : RV := .od (e x)
def kU (p : List Int) : List Int := p
theorem kU_inj : ∀ a b, kU a = kU b → a = b := fun a b h => h
theorem look_tA [DecidableEq κ] {k : κ → List Int} (hk : ∀ a b, k a = k b → a = b) (f : β → PyData) (i : κ) : ∀ x : List (κ × β), lookD (fun z => eqT z (k i)) (x.map fun p => (keyT (k p.1), f p.2)) = (lookA x i).map f
  | [] => rfl
  | p :: r => by
    have ih := look_tA hk f i r
    unfold lookD lookA at ih ⊢
    rw [List.map_cons, List.find?_cons, List.find?_cons]
    show Option.map _ (match eqT (keyT (k p.1)) (k i) with | true => _ | false => _) = _
    have e : eqT (keyT (k p.1)) (k i) = decide (p.1 = i) := by
      rw [eqT_key]
      by_cases h : p.1 = i
      · rw [h]; simp
      · rw [decide_eq_false h, decide_eq_false fun z => h (hk _ _ z)]
    rw [e]
    cases decide (p.1 = i) with
    | true => rfl
    | false => exact ih
theorem get_t [DecidableEq κ] {k : κ → List Int} (hk : ∀ a b, k a = k b → a = b) {f : β → PyData} {x : List (κ × β)} {i : κ} : dGet (dtR k f x) (keyT (k i)) = some ((lookA x i).map f) := by
  show (intsOf ((k i).map PyData.int)).map _ = _
  rw [intsOf_map]
  exact congrArg some (look_tA hk f i x)
theorem put_tA [DecidableEq κ] {k : κ → List Int} (hk : ∀ a b, k a = k b → a = b) {f : β → PyData} {x : List (κ × β)} {i : κ} {v : β} : dPut (dtR k f x) (keyT (k i)) (f v) = some (dtR k f (putA x i v)) := by
  show (intsOf ((k i).map PyData.int)).map _ = _
  rw [intsOf_map]
  show some (_ :: putD (fun z => eqT z (k i)) (x.map fun p => (keyT (k p.1), f p.2)) (keyT (k i)) (f v)) = some (_ :: _)
  unfold putD putA
  rw [look_tA hk, Option.isSome_map]
  by_cases c : (lookA x i).isSome = true
  · rw [if_pos c, if_pos c, List.map_map, List.map_map]
    congr 2
    refine List.map_congr_left fun p _ => ?_
    show (if eqT (keyT (k p.1)) (k i) then (keyT (k p.1), f v) else (keyT (k p.1), f p.2)) = _
    rw [eqT_key]
    by_cases h : p.1 = i
    · simp [h]
    · have h2 : ¬ k p.1 = k i := fun z => h (hk _ _ z)
      simp [h, h2]
  · rw [if_neg c, if_neg c, List.map_append]
    rfl
structure KeyR [DecidableEq κ] (rows : List (κ × β) → List (PyData × PyData)) (ek : κ → PyData) (f : β → PyData) : Prop where
  get : ∀ x i, dGet (rows x) (ek i) = some ((lookA x i).map f)
  put : ∀ x i v, dPut (rows x) (ek i) (f v) = some (rows (putA x i v))
  row : ∀ x, dRows (.dict (rows x)) = some (x.map fun p => (ek p.1, f p.2))
theorem keyR_U (f : β → PyData) : KeyR (dtR kU f) (encU PyData.int) f := ⟨fun _ _ => get_t kU_inj, fun _ _ _ => put_tA kU_inj, fun _ => rfl⟩
section
variable {c : Cl} {env : Ev} {r : Sms} {bs : List Sms} {P : R → Out → Prop} [DecidableEq κ] {rows : List (κ × β) → List (PyData × PyData)} {ek : κ → PyData} {f : β → PyData}
theorem rows_of (K : KeyR rows ek f) {q : RV} {x : List (κ × β)} (hd : q.dic = some (rows x)) : q.rows = some (x.map fun p => (ek p.1, f p.2)) := by
  unfold RV.rows
  rw [hd]
  exact K.row x
theorem dic_d {q : RV} {kvs : List (PyData × PyData)} (h : q.dic = some kvs) : q.d = .dict kvs := by
  unfold RV.dic at h
  split at h <;> cases h <;> rfl
theorem e_din (K : KeyR rows ek f) {a b : Ex} {x : List (κ × β)} {i : κ} {q : RV} (ha : ev c env a = some q) (hb : ev c env b = some (.fz (ek i))) (hd : q.dic = some (rows x)) : ev c env (.cmp .inn b a) = some (.fz (.bool (lookA x i).isSome)) := by
  rw [q_ev_cmp, hb, ha]
  show (inD (ek i) q.d).map _ = _
  rw [dic_d hd]
  show ((dGet (rows x) (ek i)).map Option.isSome).map _ = _
  rw [K.get]
  cases lookA x i <;> rfl
theorem odAt_of {env : Ev} {i : Nat} {kvs : List (PyData × PyData)} (h : (env[i]?).join = some (.od kvs)) : odAt env i = some kvs := by
  unfold odAt; rw [h]; rfl
theorem s_stk (K : KeyR rows ek f) {x : List (κ × β)} {a : κ} {v : β} {M : List (κ × β) → Option R} {i : Nat} {e g : Ex} {y : RV} (hi : (env[i]?).join = some (.od (rows x))) (he : ev c env e = some y) (ho : ownD e y = some (f v)) (hk : ev c env g = some (.fz (ek a)))
    (hl : (rows x).length = x.length + 1) (h : ∀ z : List (κ × β), SimS (runS c (r :: bs) (env.set i (some (.od (rows z))))) (M z) P) :
    SimS (runS c (.cons (.stk i g e) r :: bs) env) ((putG x a v).bind M) P := fun w q => by
  obtain ⟨z, q1, q2⟩ := bind_of q
  unfold putG at q1
  split at q1
  · rename_i hx
    cases q1
    refine s_step (M := M _) ?_ (h _) w q2
    have e : exS c (.stk i g e) env = (ev c env e).bind fun r => (ownD e r).bind fun d => (odAt env i).bind fun kvs => (ev c env g).bind fun y => if y.isOwn then none else (dPut kvs y.d d).bind fun kvs' => if kvs.length ≤ LIM then some (.nx (env.set i (some (.od kvs')))) else none := by simp only [exS]
    rw [e, he]
    show (ownD _ y).bind _ = _
    rw [ho]
    show (odAt env i).bind _ = _
    rw [odAt_of hi, hk]
    show (dPut (rows x) (ek a) (f v)).bind _ = _
    rw [K.put]
    show (if (rows x).length ≤ LIM then _ else _) = _
    rw [if_pos (by rw [hl]; omega)]
  · cases q1
theorem dtR_len {k : κ → List Int} (x : List (κ × β)) : (dtR k f x).length = x.length + 1 := by unfold dtR; rw [List.length_cons, List.length_map]
end
end Mn
namespace Mn
open PySem PySem.Spec PyProof.Rows
open L2 (atI ixN cutS)
abbrev lfT {α : Type} (e : α → PyData) : α → OT := fun x => .lf (e x)
abbrev lsT {α : Type} (e : α → OT) : List α → OT := fun xs => .nd .ls (xs.map e)
variable {α β γ δ σ ρ R : Type}
section
variable {c : Cl} {env : Ev}
theorem root_of {i : Nat} {pw : List (List Stp)} {t : OT} (h : (env[i]?).join = some (.tr pw t)) : rootAt env i = some t := by
  show ((env[i]?).join).bind _ = _
  rw [h]
  rfl
theorem tree_of {i : Nat} {pw : List (List Stp)} {t u : OT} {w : List Stp} (h : (env[i]?).join = some (.tr pw t)) (hs : t.sub w = some u) : treeAt env i w = some u := by
  show (rootAt env i).bind _ = _
  rw [root_of h]
  exact hs
theorem p_nm {i : Nat} {pw : List (List Stp)} {t : OT} (h : (env[i]?).join = some (.tr pw t)) : evP c env (.nm i) = some (i, []) := by
  show ((env[i]?).join).bind _ = _
  rw [h]
  rfl
end
section
variable {c : Cl} {env : Ev} {P : R → Out → Prop} {bs : List Sms} {r : Sms}
end
end Mn
namespace Mn
open PySem PySem.Spec PyProof.Rows
open L2 (atI ixN cutS)
variable {α β γ δ σ ρ τ R : Type}
section
variable {c : Cl} {env : Ev}
end
section
variable {c : Cl} {env : Ev} {P : R → Out → Prop} {bs : List Sms} {r : Sms}
end
def PT (q : Nat) (pw : List (List Stp)) (φ : ρ → RV) (eT : τ → OT) : ρ × τ → Out → Prop := fun v o => ∃ env', (o = .re (φ v.1) env' ∨ (o = .nx env' ∧ φ v.1 = .fz .none)) ∧ (env'[q]?).join = some (.tr pw (eT v.2))
def PT0 (q : Nat) (pw : List (List Stp)) (eT : τ → OT) : τ → Out → Prop := fun v o => ∃ env', (o = .re (.fz .none) env' ∨ o = .nx env') ∧ (env'[q]?).join = some (.tr pw (eT v))
theorem treeOf_of {pw : List (List Stp)} {t : OT} : treeOf pw (some (.tr pw t)) = some t := by
  show (if pw = pw then some t else none) = _
  rw [if_pos rfl]
theorem s_defT0 {c : Cl} {f : Df} {q : Nat} {pw : List (List Stp)} {t : OT} {ds : List PyData} {M : Option τ} {eT : τ → OT} (hl : ds.length + 1 = f.np ∧ q < f.np) (h : SimS (runS c [f.body] ((ds.take q).map (fun d => some (RV.fz d)) ++ some (.tr (pw ++ [[]]) t) :: (ds.drop q).map (fun d => some (RV.fz d)) ++ List.replicate (f.n - f.np) none)) M (PT0 q (pw ++ [[]]) eT)) : ∀ v, M = some v → runT c f q pw t ds = some (.fz .none, eT v) := fun v e => by
  obtain ⟨o, h1, env', h2, h3⟩ := h v e
  rw [exSs_run] at h1
  unfold runT
  rw [if_pos hl, h1, Option.bind_some]
  rcases h2 with rfl | rfl
  · show (if (RV.fz .none).pl = true then _ else _) = _
    rw [if_pos (show (RV.fz .none).pl = true from rfl), h3, treeOf_of]
    rfl
  · show (treeOf (pw ++ [[]]) _).map _ = _
    rw [h3, treeOf_of]
    rfl
end Mn
namespace Mn
open PySem PySem.Spec PyProof.Rows
section
variable {c : Cl} {env : Ev} {α : Type}
theorem tof_fz {a : Ex} {d : PyData} : tofD a (.fz d) = some (.lf d) := by
  unfold tofD
  rw [show (RV.fz d).isOwn = false from rfl, Bool.and_false]
  rfl
end
end Mn
namespace Mn
open PySem PySem.Spec PyProof.Rows
open L2 (atI ixN cutS)
variable {α β γ δ σ ρ τ R κ : Type}
abbrev dkT (f : β → PyData) (d : List (Int × β)) : OT := .dk (d.map fun x => x.1) (d.map fun x => f x.2)
theorem putFs_new : ∀ {fs : List Str} {ts : List OT} {f : Str} {u : OT}, fs.length = ts.length → f ∉ fs → putFs fs ts f u = (fs ++ [f], ts ++ [u])
  | [], [], f, u, _, _ => rfl
  | g :: fs, s :: ts, f, u, h, hn => by
    have ih := putFs_new (fs := fs) (ts := ts) (f := f) (u := u) (by simpa using h) (fun z => hn (by simp [z]))
    show (if g = f then _ else (g :: (putFs fs ts f u).1, s :: (putFs fs ts f u).2)) = _
    rw [if_neg (fun z => hn (by simp [z])), ih]
    rfl
  | [], _ :: _, _, _, h, _ => by cases h
  | _ :: _, [], _, _, h, _ => by cases h
section
variable {c : Cl} {env : Ev}
theorem e_lisD [DecidableEq κ] {rows : List (κ × β) → List (PyData × PyData)} {ek : κ → PyData} {f : β → PyData} (K : KeyR rows ek f) {a : Ex} {x : List (κ × β)} {q : RV} (ha : ev c env a = some q) (hd : q.dic = some (rows x)) : ev c env (.bi .list (.cons a .nil)) = some (ol ek (x.map fun p => p.1)) := by
  rw [q_ev_bi, er_1 ha]
  show (match q.rows with | some kvs => some (RV.ol (kvs.map fun p : PyData × PyData => p.1)) | none => q.seq.map RV.ol) = _
  rw [rows_of K hd]
  show some (RV.ol ((x.map _).map _)) = some (RV.ol ((x.map _).map _))
  rw [List.map_map, List.map_map]
  rfl
end
section
variable {c : Cl} {env : Ev} {P : R → Out → Prop} {bs : List Sms} {r : Sms}
theorem s_tfl {M : Option R} {p : Pth} {f : Str} {e : Ex} {q : Nat × List Stp} {x : RV} {u : OT} {nm : Str} {fs : List Str} {ts : List OT} {env' : Ev} (he : ev c env e = some x) (hp : evP c env p = some q) (hu : tofD e x = some u) (ht : treeAt env q.1 q.2 = some (.nd (.ob nm fs) ts)) (ho : c.ofs.contains (nm, f) = true) (hl : fs.length < 1000)
    (hf : (match fldAt fs ts f with | some x => !x.isNd || free env q.1 (q.2 ++ [.fl f]) | none => true) = true) (hs : setTree env q.1 q.2 (.nd (.ob nm (putFs fs ts f u).1) (putFs fs ts f u).2) = some env') (h : SimS (runS c (r :: bs) env') M P) : SimS (runS c (.cons (.tfl p f e) r :: bs) env) M P :=
  s_step (by
    simp only [exS]
    rw [he, Option.bind_some, hp, Option.bind_some, hu, Option.bind_some, ht]
    show (if (c.ofs.contains (nm, f) && decide (fs.length < 1000) && (match fldAt fs ts f with | some x => !x.isNd || free env q.1 (q.2 ++ [.fl f]) | none => true)) = true then _ else _) = _
    rw [ho, decide_eq_true hl, hf, hs]
    rfl) h
end
end Mn
namespace Mn
open PySem PySem.Spec PyProof.Rows
open L2 (atI ixN cutS)
structure Spl where
  p : Int
  births : List Int
  ends : List (Option Int)
  loads : List (List (Int × List Int))
  order : List Int
abbrev SPF : List Str := ["p", "births", "ends", "loads", "order"]
abbrev OFS : List (Str × Str) := [("Splitting", "p"), ("Splitting", "births"), ("Splitting", "ends"), ("Splitting", "loads"), ("Splitting", "order")]
abbrev hereT : List (Int × List Int) → OT := dkT (encU PyData.int)
abbrev hereR : List (Int × List Int) → List (PyData × PyData) := dkR (encU PyData.int)
abbrev splN (p b e l o : OT) : OT := .nd (.ob "Splitting" SPF) [p, b, e, l, o]
abbrev splT (s : Spl) : OT := splN (.lf (.int s.p)) (lsT (lfT PyData.int) s.births) (lsT (lfT (encO PyData.int)) s.ends) (lsT hereT s.loads) (lsT (lfT PyData.int) s.order)
section
variable (p b e l o : OT) (r : List Stp) (u : OT)
end
section
variable {c : Cl} {env : Ev} {i : Nat} {pw : List (List Stp)} {s : Spl}
end
end Mn
namespace Mn
open PySem PySem.Spec PyProof.Rows
section
variable {β : Type} {c : Cl} {env : Ev}
end
section
variable {c : Cl} {env : Ev}
end
section
variable {c : Cl} {env : Ev}
end
end Mn
namespace Mn
open PySem PySem.Spec PyProof.Rows
open L2 (atI ixN cutS)
variable {α β γ δ σ ρ R : Type}
inductive Exn where
  | e0 (nm : Str)
  | e1 (nm f : Str) (i : Int)
def Exn.nm : Exn → Str
  | .e0 nm => nm
  | .e1 nm _ _ => nm
inductive Xr (ρ : Type) where
  | ok (x : ρ)
  | ex (e : Exn)
section
variable {c : Cl} {env : Ev} {P : R → Out → Prop} {bs : List Sms} {r : Sms}
end
end Mn
namespace Mn
open PySem PySem.Spec PyProof.Rows
open L2 (atI ixN cutS)
variable {α β γ δ σ ρ τ R κ : Type}
section
variable {c : Cl} {env : Ev} {P : R → Out → Prop} {bs : List Sms} {r : Sms}
end
end Mn
namespace Mn
open PySem PySem.Spec PyProof.Rows
open L2 (atI ixN cutS)
variable {α β γ δ σ ρ τ R : Type}
section
variable {c : Cl} {env : Ev} {P : R → Out → Prop} {bs : List Sms} {r : Sms}
end
abbrev tpT2 {α β : Type} (e : α → OT) (f : β → OT) : α × β → OT := fun x => .nd .tp [e x.1, f x.2]
abbrev tpT3 {α β γ : Type} (e : α → OT) (f : β → OT) (g : γ → OT) : α × β × γ → OT := fun x => .nd .tp [e x.1, f x.2.1, g x.2.2]
section
variable {c : Cl} {env : Ev}
end
section
variable {c : Cl} {env : Ev} {P : R → Out → Prop} {bs : List Sms} {r : Sms}
end
end Mn
namespace Mn
open PySem PySem.Spec PyProof.Rows
open L2 (atI ixN cutS)
section
variable {α β γ δ σ ρ τ R : Type} {c : Cl} {env : Ev} {P : R → Out → Prop} {bs : List Sms} {r : Sms}
end
abbrev idA : PyData → PyData := fun d => d
section
variable {c : Cl} {env : Ev}
end
def oo (e : α → PyData) : Option (List α) → RV
  | none => .fz .none
  | some xs => .ol (xs.map e)
end Mn
namespace Mn
open PySem PySem.Spec PyProof.Rows
open L2 (atI ixN cutS)
abbrev Arr : Type := Bool × Int × Int × Int × List (List Int)
abbrev encTab : Int × Int × List (List Int) → PyData := encP3 PyData.int PyData.int (encU (encU PyData.int))
def arrNm (b : Bool) : Str := if b then "Right" else "Left"
def encArr (v : Arr) : PyData := insD (arrNm v.1) ["prime", "table"] [.int v.2.1, encTab v.2.2]
abbrev OFA : List (Str × Str) := [("Right", "prime"), ("Right", "table"), ("Left", "prime"), ("Left", "table")]
abbrev tt_arr0 : TTab := ⟨[], [], [], OFA, [], [], []⟩
def d_arr_init : Df := ⟨3, 3, (.cons (.tfl (.nm 0) "prime" (.var 1)) (.cons (.tfl (.nm 0) "table" (.var 2)) .nil))⟩
def t_arr_init : List (List Stp) → OT → List PyData → Option (RV × OT) := runT (tabT [] [] [] {} tt_arr0) d_arr_init 0
theorem fld_no {ts : List OT} {f : Str} : ∀ {fs : List Str}, f ∉ fs → fldAt fs ts f = none := by
  intro fs
  induction fs generalizing ts with
  | nil => intro _; cases ts <;> rfl
  | cons g fs ih =>
    intro h
    cases ts with
    | nil => rfl
    | cons t ts =>
      show (if g = f then some t else fldAt fs ts f) = none
      rw [if_neg fun e => h (by simp [e])]
      exact ih fun z => h (by simp [z])
theorem w_arr_init (b : Bool) (p : Int) (t : PyData) : t_arr_init [] (.nd (.ob (arrNm b) []) []) [.int p, t] = some (.fz .none, .nd (.ob (arrNm b) ["prime", "table"]) [.lf (.int p), .lf t]) := by
  have o1 : OFA.contains (arrNm b, "prime") = true := by cases b <;> decide +kernel
  have o2 : OFA.contains (arrNm b, "table") = true := by cases b <;> decide +kernel
  exact s_defT0 (M := some ()) (eT := fun _ => .nd (.ob (arrNm b) ["prime", "table"]) [.lf (.int p), .lf t]) ⟨rfl, by decide⟩
    (s_tfl (u := .lf (.int p)) (nm := arrNm b) (fs := []) (ts := []) (env' := [some (.tr [[]] (.nd (.ob (arrNm b) ["prime"]) [.lf (.int p)])), some (.fz (.int p)), some (.fz t)]) (e_var rfl) (p_nm rfl) tof_fz (tree_of rfl rfl) o1 (by decide) rfl (by rw [putFs_new rfl (by simp)]; rfl)
    (s_tfl (u := .lf t) (nm := arrNm b) (fs := ["prime"]) (ts := [.lf (.int p)]) (env' := [some (.tr [[]] (.nd (.ob (arrNm b) ["prime", "table"]) [.lf (.int p), .lf t])), some (.fz (.int p)), some (.fz t)]) (e_var rfl) (p_nm rfl) tof_fz (tree_of rfl rfl) o2 (by decide) (by rw [fld_no (by decide +kernel)]) (by rw [putFs_new rfl (by decide +kernel)]; rfl)
    (s_nil (s_end ⟨_, .inr rfl, rfl⟩)))) () rfl
section
variable {c : Cl} {env : Ev} {a : Ex} {x : Arr} {β : Type}
theorem inm_arr : inm (.fz (encArr x)) = some (arrNm x.1) := rfl
theorem ino_arr {m : Str} (h : noF m [.str "prime", .str "table"] = true) : ino m (.fz (encArr x)) = true := h
theorem e_mkA {b : Bool} {p : Int} {t : Int × Int × List (List Int)} {f : Nat} {es : Exs} (hs : evs c env es = some [.int p, encTab t]) (ht : c.tcs f = some (arrNm b, ("__init__" : Str))) (hc : c.callt f = t_arr_init) : ev c env (.mkj f es) = some (.fz (encArr (b, p, t))) := by
  simp only [ev]
  rw [hs, Option.bind_some, ht, Option.bind_some, hc]
  show (t_arr_init [] (.nd (.ob (arrNm b) []) []) [.int p, encTab t]).bind mkjD = _
  rw [w_arr_init]
  rfl
theorem e_prime (ha : ev c env a = some (.fz (encArr x))) (ho : c.ofs = OFA) : ev c env (.fjd a "prime") = some (.fz (.int x.2.1)) := by
  simp only [ev]
  rw [ha, Option.bind_some, inm_arr, Option.bind_some, ho]
  have h : OFA.contains (arrNm x.1, "prime") = true := by cases x.1 <;> decide +kernel
  rw [if_pos h]
  show (lkF [.str "prime", .str "table"] [.int x.2.1, encTab x.2.2] "prime").map RV.fz = _
  rw [show lkF [.str "prime", .str "table"] [.int x.2.1, encTab x.2.2] "prime" = some (.int x.2.1) from if_pos rfl]
  rfl
theorem e_table (ha : ev c env a = some (.fz (encArr x))) (ho : c.ofs = OFA) : ev c env (.fjd a "table") = some (.fz (encTab x.2.2)) := by
  simp only [ev]
  rw [ha, Option.bind_some, inm_arr, Option.bind_some, ho]
  have h : OFA.contains (arrNm x.1, "table") = true := by cases x.1 <;> decide +kernel
  rw [if_pos h]
  show (lkF [.str "prime", .str "table"] [.int x.2.1, encTab x.2.2] "table").map RV.fz = _
  have e : ¬(("table" : Str) = "prime") := by decide +kernel
  rw [show lkF [.str "prime", .str "table"] [.int x.2.1, encTab x.2.2] "table" = some (encTab x.2.2) from (if_neg e).trans (if_pos rfl)]
  rfl
theorem e_isj {D : Str} {b1 b0 : Bool} (ha : ev c env a = some (.fz (encArr x))) (h1 : c.jas.lookup (("Right" : Str), D) = some b1) (h0 : c.jas.lookup (("Left" : Str), D) = some b0) : ev c env (.isj a D) = some (.fz (.bool (if x.1 = true then b1 else b0))) := by
  simp only [ev]
  rw [ha, Option.bind_some, inm_arr, Option.bind_some]
  obtain ⟨b, x⟩ := x
  cases b with
  | true => exact (congrArg (Option.map _) h1).trans rfl
  | false => exact (congrArg (Option.map _) h0).trans rfl
theorem m_mtj {m : Str} {es : Exs} {ds : List PyData} {s1 s0 : List PyData → Option RV} {M1 M0 : Option β} {φ : β → RV} (ha : ev c env a = some (.fz (encArr x))) (hs : evs c env es = some ds) (hm : noF m [.str "prime", .str "table"] = true)
    (h1 : c.ims.lookup (("Right" : Str), m) = some s1) (h0 : c.ims.lookup (("Left" : Str), m) = some s0) (k1 : Sim (s1 (encArr x :: ds)) M1 φ) (k0 : Sim (s0 (encArr x :: ds)) M0 φ) : Sim (ev c env (.mtj a m es)) (if x.1 = true then M1 else M0) φ := fun v h => by
  simp only [ev]
  rw [ha, Option.bind_some, inm_arr, Option.bind_some, hs, Option.bind_some, if_pos (ino_arr hm)]
  obtain ⟨b, x⟩ := x
  cases b with
  | true =>
    show (c.ims.lookup (("Right" : Str), m)).bind _ = _
    rw [h1]
    exact k1 v h
  | false =>
    show (c.ims.lookup (("Left" : Str), m)).bind _ = _
    rw [h0]
    exact k0 v h
theorem m_mtj1 {m : Str} {es : Exs} {ds : List PyData} {s : List PyData → Option RV} {M : Option β} {φ : β → RV} (ha : ev c env a = some (.fz (encArr x))) (hs : evs c env es = some ds) (hm : noF m [.str "prime", .str "table"] = true)
    (h1 : c.ims.lookup (("Right" : Str), m) = some s) (h0 : c.ims.lookup (("Left" : Str), m) = some s) (k : Sim (s (encArr x :: ds)) M φ) : Sim (ev c env (.mtj a m es)) M φ := fun v h =>
  m_mtj ha hs hm h1 h0 k k v (by split <;> exact h)
theorem e_dT1 {κ : Type} (k : κ → List Int) (f : β → PyData) {u w : Ex} {x : κ} {y : β} {r q : RV} (ha : ev c env u = some r) (ho : ownD u r = some (.tuple ((k x).map PyData.int))) (hb : ev c env w = some q) (hq : ownD w q = some (f y)) : ev c env (.dT1 u w) = some (odv (dtR k f) [(x, y)]) := by
  simp only [ev]
  rw [ha, Option.bind_some, ho, Option.bind_some, hb, Option.bind_some, hq, Option.bind_some]
  show (intsOf ((k x).map PyData.int)).map _ = _
  rw [intsOf_map]
  rfl
end
end Mn
namespace Mn
open PySem PySem.Spec PyProof.Rows
open L2 (atI ixN cutS)
def d_Arrow_along : Df := ⟨2, 2, (.cons (.ret (.call 0 (.cons (.fjd (.var 0) "prime") (.cons (.fjd (.var 0) "table") (.cons (.var 1) .nil)))))
    .nil)⟩
abbrev tt_Arrow_along : TTab := ⟨[], [], [], OFA, [], [], []⟩
def s_Arrow_along : List PyData → Option RV := runD (tabT [s_pressed] [] [] {} tt_Arrow_along) d_Arrow_along
end Mn
namespace Mn
open PySem PySem.Spec PyProof.Rows
open L2 (atI ixN cutS)
def d_Right_forth : Df := ⟨2, 2, (.cons (.ret (.mtj (.var 0) "along" (.cons (.var 1) .nil)))
    .nil)⟩
abbrev tt_Right_forth : TTab := ⟨[], [], [], OFA, [], [(("Right", "along"), s_Arrow_along), (("Left", "along"), s_Arrow_along)], []⟩
def s_Right_forth : List PyData → Option RV := runD (tabT [] [] [] {} tt_Right_forth) d_Right_forth
end Mn
namespace Mn
open PySem PySem.Spec PyProof.Rows
open L2 (atI ixN cutS)
def b_lead_of_0 : Sms := (.cons (.ret (.var 1))
    .nil)
def b_lead_of_1 : Sms := (.cons (.ifs (.cmp .ne (.var 2) (.int 0)) b_lead_of_0 .nil)
    (.del 1 (.del 2 .nil)))
def d_lead_of : Df := ⟨3, 1, (.cons (.for_ (.tp [1, 2]) (.en (.var 0)) b_lead_of_1)
    (.cons (.ret (.bi .len (.cons (.var 0) .nil)))
    .nil))⟩
def s_lead_of : List PyData → Option RV := runD (tabC [] []) d_lead_of
end Mn
namespace Mn
open PySem PySem.Spec PyProof.Rows
open L2 (atI ixN cutS)
def b_kernel_0 : Sms := (.cons (.sti 8 (.var 9) (.bin .mod (.bin .sub (.int 0) (.idx (.var 5) (.var 7))) (.var 0)))
    (.del 5 (.del 9 .nil)))
def b_kernel_1 : Sms := (.cons (.asg 8 (.comp (.bi .int (.cons (.cmp .eq (.var 10) (.var 7)) .nil)) (.nm 10) (.r1 (.var 2)) .emp [10]))
    (.cons (.for_ (.tp [5, 9]) (.zip (.var 3) (.var 4)) b_kernel_0)
    (.frz 8 (.cons (.app 6 (.var 8))
    (.del 7 (.del 8 .nil))))))
def b_kernel_2 : Sms := (.del 7 .nil)
def b_kernel_3 : Sms := (.cons (.ifs (.cmp .nin (.var 7) (.var 4)) b_kernel_1 b_kernel_2)
    .nil)
def d_kernel : Df := ⟨11, 2, (.cons (.asg 2 (.idx (.var 1) (.int 1)))
    (.cons (.asg 3 (.call 0 (.cons (.var 0) (.cons (.var 2) (.cons (.idx (.var 1) (.int 2)) .nil)))))
    (.cons (.asg 4 (.comp (.call 1 (.cons (.var 5) .nil)) (.nm 5) (.ex (.var 3)) .emp [5]))
    (.cons (.asg 6 (.lst .nil))
    (.del 1 (.frz 3 (.frz 4 (.cons (.for_ (.nm 7) (.r1 (.var 2)) b_kernel_3)
    (.frz 6 (.cons (.ret (.call 0 (.cons (.var 0) (.cons (.var 2) (.cons (.var 6) .nil)))))
    .nil))))))))))⟩
def s_kernel : List PyData → Option RV := runD (tabC [s_base_of, s_lead_of] []) d_kernel
end Mn
namespace Mn
open PySem PySem.Spec PyProof.Rows
open L2 (atI ixN cutS)
def b_joined_table_0 : Sms := (.cons (.app 3 (.bi .tup (.cons (.bin .add (.comp (.idx (.var 5) (.var 4)) (.nm 5) (.ex (.var 2)) .emp [5]) (.comp (.bin .mod (.bin .sub (.int 0) (.var 6)) (.var 0)) (.nm 6) (.ex (.idx (.idx (.var 1) (.int 2)) (.var 4))) .emp [6])) .nil)))
    (.del 4 .nil))
def d_joined_table : Df := ⟨7, 3, (.cons (.asg 3 (.lst .nil))
    (.cons (.for_ (.nm 4) (.r1 (.idx (.var 1) (.int 0))) b_joined_table_0)
    (.cons (.ret (.tup (.cons (.idx (.var 1) (.int 0)) (.cons (.bin .add (.bi .len (.cons (.var 2) .nil)) (.idx (.var 1) (.int 1))) (.cons (.bi .tup (.cons (.var 3) .nil)) .nil)))))
    .nil)))⟩
def s_joined_table : List PyData → Option RV := runD (tabC [] []) d_joined_table
end Mn
namespace Mn
open PySem PySem.Spec PyProof.Rows
open L2 (atI ixN cutS)
def d_leading_to : Df := ⟨5, 3, (.cons (.asg 3 (.call 0 (.cons (.var 0) (.cons (.call 1 (.cons (.var 0) (.cons (.var 1) (.cons (.var 2) .nil)))) .nil))))
    (.cons (.ret (.call 2 (.cons (.var 0) (.cons (.idx (.var 1) (.int 1)) (.cons (.comp (.slc (.var 4) (.one (.bi .len (.cons (.var 2) .nil))) .emp) (.nm 4) (.ex (.var 3)) .emp [4]) .nil)))))
    .nil))⟩
def s_leading_to : List PyData → Option RV := runD (tabC [s_kernel, s_joined_table, s_base_of] []) d_leading_to
end Mn
namespace Mn
open PySem PySem.Spec PyProof.Rows
open L2 (atI ixN cutS)
def d_Arrow_against : Df := ⟨2, 2, (.cons (.ret (.call 0 (.cons (.fjd (.var 0) "prime") (.cons (.fjd (.var 0) "table") (.cons (.var 1) .nil)))))
    .nil)⟩
abbrev tt_Arrow_against : TTab := ⟨[], [], [], OFA, [], [], []⟩
def s_Arrow_against : List PyData → Option RV := runD (tabT [s_leading_to] [] [] {} tt_Arrow_against) d_Arrow_against
end Mn
namespace Mn
open PySem PySem.Spec PyProof.Rows
open L2 (atI ixN cutS)
def d_Left_forth : Df := ⟨2, 2, (.cons (.ret (.mtj (.var 0) "against" (.cons (.var 1) .nil)))
    .nil)⟩
abbrev tt_Left_forth : TTab := ⟨[], [], [], OFA, [], [(("Right", "against"), s_Arrow_against), (("Left", "against"), s_Arrow_against)], []⟩
def s_Left_forth : List PyData → Option RV := runD (tabT [] [] [] {} tt_Left_forth) d_Left_forth
end Mn
namespace Mn
open PySem PySem.Spec PyProof.Rows
open L2 (atI ixN cutS)
def b_law_right_v11_0 : Sms := (.cons (.ret (.bl false))
    .nil)
def d_law_right_v11 : Df := ⟨8, 6, (.cons (.asg 6 (.bi .list (.cons (.var 4) .nil)))
    (.cons (.asg 7 (.call 0 (.cons (.var 1) (.cons (.var 2) (.cons (.var 4) (.cons (.var 3) .nil))))))
    (.frz 6 (.cons (.ifs (.or (.not (.call 1 (.cons (.mtj (.var 0) "forth" (.cons (.var 6) .nil)) (.cons (.var 7) .nil)))) (.one (.cmp .ne (.var 6) (.var 4)))) b_law_right_v11_0 .nil)
    (.cons (.asg 6 (.bi .list (.cons (.var 5) .nil)))
    (.cons (.asg 7 (.call 0 (.cons (.var 1) (.cons (.var 2) (.cons (.var 5) (.cons (.not (.var 3)) .nil))))))
    (.frz 6 (.cons (.ret (.and (.call 1 (.cons (.mtj (.var 0) "back" (.cons (.var 6) .nil)) (.cons (.var 7) .nil))) (.one (.cmp .eq (.var 6) (.var 5)))))
    .nil))))))))⟩
abbrev tt_law_right_v11 : TTab := ⟨[], [], [], OFA, [], [(("Right", "forth"), s_Right_forth), (("Left", "forth"), s_Left_forth), (("Right", "back"), s_Left_forth), (("Left", "back"), s_Right_forth)], []⟩
def s_law_right_v11 : List PyData → Option RV := runD (tabT [s_law_due_v10, s_law_is_base_v2] [] [] {} tt_law_right_v11) d_law_right_v11
end Mn
namespace Mn
open PySem PySem.Spec PyProof.Rows
open L2 (atI ixN cutS)
def b_law_k20_0 : Sms := (.cons (.ret (.bl false))
    .nil)
def b_law_k20_1 : Sms := (.cons (.asg 11 (.call 2 (.cons (.var 2) (.cons (.idx (.var 5) (.int 0)) (.cons (.call 3 (.cons (.var 0) (.cons (.bin .add (.int 10) (.bin .mul (.int 40) (.var 10))) (.cons (.var 2) (.cons (.idx (.var 5) (.int 0)) .nil))))) .nil)))))
    (.cons (.asg 12 (.call 2 (.cons (.var 2) (.cons (.idx (.var 5) (.int 1)) (.cons (.call 3 (.cons (.var 0) (.cons (.bin .add (.int 30) (.bin .mul (.int 40) (.var 10))) (.cons (.var 2) (.cons (.idx (.var 5) (.int 1)) .nil))))) .nil)))))
    (.cons (.ifs (.not (.call 4 (.cons (.var 9) (.cons (.var 2) (.cons (.var 8) (.cons (.var 4) (.cons (.var 11) (.cons (.var 12) .nil)))))))) b_law_k20_0 .nil)
    (.del 10 (.del 11 (.del 12 .nil))))))
def b_law_k20_2 : Sms := (.cons (.ret (.bl false))
    .nil)
def b_law_k20_3 : Sms := (.cons (.asg 9 (.mkj 0 (.cons (.var 2) (.cons (.var 8) .nil))))
    (.del 1 (.del 3 (.del 6 (.del 7 .nil)))))
def b_law_k20_4 : Sms := (.del 1 (.del 3 (.del 6 (.del 7 .nil))))
def d_law_k20 : Df := ⟨13, 1, (.cons (.asg 1 (.call 0 (.cons (.var 0) (.cons (.int 0) .nil))))
    (.cons (.asg 2 (.idx (.lst (.cons (.int 2) (.cons (.int 3) (.cons (.int 5) (.cons (.int 7) .nil))))) (.bin .mod (.var 1) (.int 4))))
    (.cons (.asg 3 (.idx (.lst (.cons (.int 4) (.cons (.int 4) (.cons (.int 3) (.cons (.int 3) .nil))))) (.bin .mod (.var 1) (.int 4))))
    (.cons (.asg 4 (.cmp .eq (.bin .mod (.bin .fdiv (.var 1) (.int 4)) (.int 2)) (.int 1)))
    (.cons (.asg 5 (.lst (.cons (.bin .mod (.bin .fdiv (.var 1) (.int 8)) (.var 3)) (.cons (.bin .mod (.bin .fdiv (.var 1) (.int 32)) (.var 3)) .nil))))
    (.cons (.parE 6 7 (.idx (.var 5) (.bi .int (.cons (.var 4) .nil))) (.idx (.var 5) (.bin .sub (.int 1) (.bi .int (.cons (.var 4) .nil)))))
    (.cons (.asg 8 (.call 1 (.cons (.var 0) (.cons (.int 1) (.cons (.var 2) (.cons (.var 6) (.cons (.var 7) .nil)))))))
    (.cons (.asg 9 (.mkj 1 (.cons (.var 2) (.cons (.var 8) .nil))))
    (.cons (.ifs (.var 4) b_law_k20_3 b_law_k20_4)
    (.cons (.ifs (.not (.isj (.var 9) "Arrow")) b_law_k20_2 .nil)
    (.cons (.for_ (.nm 10) (.r1 (.int 3)) b_law_k20_1)
    (.cons (.ret (.call 4 (.cons (.var 9) (.cons (.var 2) (.cons (.var 8) (.cons (.var 4) (.cons (.lst .nil) (.cons (.lst .nil) .nil))))))))
    .nil))))))))))))⟩
abbrev tt_law_k20 : TTab := ⟨[t_arr_init, t_arr_init], [], [some ("Right", "__init__"), some ("Left", "__init__")], OFA, [], [], [(("Right", "Arrow"), true), (("Left", "Arrow"), true)]⟩
def s_law_k20 : List PyData → Option RV := runD (tabT [s_law_cell, s_law_table_v4, s_law_base_v2, s_law_loads_v2, s_law_right_v11] [] [] {} tt_law_k20) d_law_k20
end Mn
namespace Lk20
open PySem PySem.Spec PyProof.Rows L2 Mn
abbrev topS (i : Nat) : Stmt := PySem.Challenge.pw_barsplit_k20_forth_and_back_by_an_arrow.main.body.getD i (.Pass ⟨0, 0, 0, 0⟩)
abbrev tm_arr_init : Stmt := match topS 17 with | .ClassDef (body := b) .. => b.getD 0 (.Pass ⟨0, 0, 0, 0⟩) | _ => .Pass ⟨0, 0, 0, 0⟩
theorem cm_arr_init : chkDT [] [] [] ⟨[], [], []⟩ ["self", "p", "table"] ["self", "p", "table"] d_arr_init tm_arr_init = true := by decide +kernel
abbrev tm_Arrow_along : Stmt := match topS 17 with | .ClassDef (body := b) .. => b.getD 1 (.Pass ⟨0, 0, 0, 0⟩) | _ => .Pass ⟨0, 0, 0, 0⟩
theorem cm_Arrow_along : chkDT ["pressed"] [] [] ⟨[], [], []⟩ ["self", "base"] ["self", "base"] d_Arrow_along tm_Arrow_along = true := by decide +kernel
abbrev tm_Right_forth : Stmt := match topS 18 with | .ClassDef (body := b) .. => b.getD 0 (.Pass ⟨0, 0, 0, 0⟩) | _ => .Pass ⟨0, 0, 0, 0⟩
theorem cm_Right_forth : chkDT [] [] [] ⟨[], [], []⟩ ["self", "base"] ["self", "base"] d_Right_forth tm_Right_forth = true := by decide +kernel
abbrev tm_Arrow_against : Stmt := match topS 17 with | .ClassDef (body := b) .. => b.getD 2 (.Pass ⟨0, 0, 0, 0⟩) | _ => .Pass ⟨0, 0, 0, 0⟩
theorem cm_Arrow_against : chkDT ["leading_to"] [] [] ⟨[], [], []⟩ ["self", "base"] ["self", "base"] d_Arrow_against tm_Arrow_against = true := by decide +kernel
abbrev tm_Left_forth : Stmt := match topS 19 with | .ClassDef (body := b) .. => b.getD 0 (.Pass ⟨0, 0, 0, 0⟩) | _ => .Pass ⟨0, 0, 0, 0⟩
theorem cm_Left_forth : chkDT [] [] [] ⟨[], [], []⟩ ["self", "base"] ["self", "base"] d_Left_forth tm_Left_forth = true := by decide +kernel
abbrev tm_Right_back : Stmt := match topS 18 with | .ClassDef (body := b) .. => b.getD 1 (.Pass ⟨0, 0, 0, 0⟩) | _ => .Pass ⟨0, 0, 0, 0⟩
theorem cm_Right_back : chkDT [] [] [] ⟨[], [], []⟩ ["self", "base"] ["self", "base"] d_Left_forth tm_Right_back = true := by decide +kernel
abbrev tm_Left_back : Stmt := match topS 19 with | .ClassDef (body := b) .. => b.getD 1 (.Pass ⟨0, 0, 0, 0⟩) | _ => .Pass ⟨0, 0, 0, 0⟩
theorem cm_Left_back : chkDT [] [] [] ⟨[], [], []⟩ ["self", "base"] ["self", "base"] d_Right_forth tm_Left_back = true := by decide +kernel
abbrev t__law_cell : Stmt := topS 21
theorem c__law_cell : chkD [] [] ["_law_script", "_law_k", "_law_cell_here", "_law_turn", "_law_given"] ["_law_script", "_law_k"] d_law_cell t__law_cell = true := by decide +kernel
abbrev t__law_table : Stmt := topS 29
theorem c__law_table : chkD ["_law_cell"] [] ["_law_script", "_law_at", "_law_p", "_law_high", "_law_wide", "_law_rows", "_law_x", "_law_cells", "_law_y", "_law_cell_here"] ["_law_script", "_law_at", "_law_p", "_law_high", "_law_wide"] d_law_table_v4 t__law_table = true := by decide +kernel
abbrev t__law_less : Stmt := topS 22
theorem c__law_less : chkD [] [] ["_law_p", "_law_row", "_law_other", "_law_times", "_law_one", "_law_two"] ["_law_p", "_law_row", "_law_other", "_law_times"] d_less t__law_less = true := by decide +kernel
abbrev t__law_base : Stmt := topS 23
theorem c__law_base : chkD ["_law_less"] [] ["_law_p", "_law_long", "_law_loads_here", "_law_rows", "_law_load", "_law_done", "_law_place", "_law_some", "_law_over", "_law_first", "_law_row", "_law_x"] ["_law_p", "_law_long", "_law_loads_here"] d_law_base_v2 t__law_base = true := by decide +kernel
abbrev t__law_loads : Stmt := topS 30
theorem c__law_loads : chkD ["_law_cell"] [] ["_law_script", "_law_at", "_law_p", "_law_long", "_law_loads_here", "_law_k", "_law_j"] ["_law_script", "_law_at", "_law_p", "_law_long"] d_law_loads_v2 t__law_loads = true := by decide +kernel
abbrev t__law_led : Stmt := topS 24
theorem c__law_led : chkD [] [] ["_law_p", "_law_rows", "_law_load", "_law_row", "_law_one", "_law_other"] ["_law_p", "_law_rows", "_law_load"] d_law_led_v2 t__law_led = true := by decide +kernel
abbrev t__law_span : Stmt := topS 26
theorem c__law_span : chkD [] [] ["_law_p", "_law_long", "_law_base_here", "_law_span_here", "_law_k", "_law_each", "_law_load", "_law_x", "_law_one", "_law_two"] ["_law_p", "_law_long", "_law_base_here"] d_law_span t__law_span = true := by decide +kernel
abbrev t__law_all : Stmt := topS 25
theorem c__law_all : chkD [] [] ["_law_p", "_law_long", "_law_loads_here", "_law_k", "_law_more", "_law_load", "_law_x"] ["_law_p", "_law_long"] d_law_all t__law_all = true := by decide +kernel
abbrev t__law_due : Stmt := topS 31
theorem c__law_due : chkD ["_law_base", "_law_led", "_law_span", "_law_all"] [] ["_law_p", "_law_table_here", "_law_base_here", "_law_along", "_law_high", "_law_wide", "_law_rows", "_law_load", "_law_span_here"] ["_law_p", "_law_table_here", "_law_base_here", "_law_along"] d_law_due_v10 t__law_due = true := by decide +kernel
abbrev t__law_whole : Stmt := topS 27
theorem c__law_whole : chkD [] [] ["_law_found"] ["_law_found"] d_law_whole t__law_whole = true := by decide +kernel
abbrev t__law_is_base : Stmt := topS 28
theorem c__law_is_base : chkD ["_law_whole"] [] ["_law_found", "_law_due_here", "_law_one", "_law_other", "_law_number"] ["_law_found", "_law_due_here"] d_law_is_base_v2 t__law_is_base = true := by decide +kernel
abbrev t_first_with : Stmt := topS 9
theorem c_first_with : chkD [] [] ["rows", "place", "k", "row"] ["rows", "place"] d_first_with t_first_with = true := by decide +kernel
abbrev t_inverse : Stmt := topS 4
theorem c_inverse : chkD [] [] ["p", "x", "other"] ["p", "x"] d_inverse t_inverse = true := by decide +kernel
abbrev t_less : Stmt := topS 8
theorem c_less : chkD [] [] ["p", "row", "other", "times", "one", "two"] ["p", "row", "other", "times"] d_less t_less = true := by decide +kernel
abbrev t_base_of : Stmt := topS 10
theorem c_base_of : chkD ["first_with", "inverse", "less"] [] ["p", "long", "loads", "rows", "load", "base", "place", "k", "chosen", "over", "number", "row"] ["p", "long", "loads"] d_base_of t_base_of = true := by decide +kernel
abbrev t_summed : Stmt := topS 5
theorem c_summed : chkD [] [] ["p", "row", "load", "one", "other"] ["p", "row", "load"] d_summed t_summed = true := by decide +kernel
abbrev t_led : Stmt := topS 6
theorem c_led : chkD ["summed"] [] ["p", "table", "load", "row"] ["p", "table", "load"] d_led t_led = true := by decide +kernel
abbrev t_pressed : Stmt := topS 14
theorem c_pressed : chkD ["base_of", "led"] [] ["p", "table", "base", "load"] ["p", "table", "base"] d_pressed t_pressed = true := by decide +kernel
abbrev t_lead_of : Stmt := topS 11
theorem c_lead_of : chkD [] [] ["load", "place", "number"] ["load"] d_lead_of t_lead_of = true := by decide +kernel
abbrev t_kernel : Stmt := topS 12
theorem c_kernel : chkD ["base_of", "lead_of"] [] ["p", "table", "wide", "base", "leads", "row", "loads", "place", "load", "lead", "j"] ["p", "table"] d_kernel t_kernel = true := by decide +kernel
abbrev t_joined_table : Stmt := topS 15
theorem c_joined_table : chkD [] [] ["p", "table", "loads", "rows", "k", "load", "number"] ["p", "table", "loads"] d_joined_table t_joined_table = true := by decide +kernel
abbrev t_leading_to : Stmt := topS 16
theorem c_leading_to : chkD ["kernel", "joined_table", "base_of"] [] ["p", "table", "base", "found", "load"] ["p", "table", "base"] d_leading_to t_leading_to = true := by decide +kernel
abbrev t__law_right : Stmt := topS 32
theorem c__law_right : chkDT ["_law_due", "_law_is_base"] [] [] ⟨[], [], []⟩ ["_law_arrow", "_law_p", "_law_table_here", "_law_right_here", "_law_left_base", "_law_right_base", "_law_handed", "_law_due_here"] ["_law_arrow", "_law_p", "_law_table_here", "_law_right_here", "_law_left_base", "_law_right_base"] d_law_right_v11 t__law_right = true := by decide +kernel
abbrev t_law : Stmt := topS 33
theorem c_law : chkDT ["_law_cell", "_law_table", "_law_base", "_law_loads", "_law_right"] [] [] ⟨[], [], [(0, "Right"), (1, "Left")]⟩ ["_law_script", "_law_cell_here", "_law_p", "_law_most", "_law_right_here", "_law_sizes", "_law_high", "_law_wide", "_law_table_here", "_law_arrow", "_law_k", "_law_left_base", "_law_right_base"] ["_law_script"] d_law_k20 t_law = true := by decide +kernel
end Lk20
namespace Mn
open PySem PySem.Spec PyProof.Rows L2
variable {c : Cl} {env : Ev} {r : Sms} {bs : List Sms} {R α β γ τ σ : Type} {P : R → Out → Prop}
theorem s_parE {d e : PyData} {i j : Nat} {a b : Ex} {env' : Ev} {K : Option R} (h1 : evs c env (.cons a (.cons b .nil)) = some [d, e]) (hij : decide (i = j) = false) (hE : (env.set i (some (.fz d))).set j (some (.fz e)) = env') (hk : SimS (runS c (r :: bs) env') K P) :
    SimS (runS c (.cons (.parE i j a b) r :: bs) env) K P := by
  refine s_step (env' := env') ?_ hk
  simp only [exS]
  rw [hij, if_neg Bool.false_ne_true, h1, Option.bind_some, ← hE]
end Mn
namespace Mn
open PySem PySem.Spec PyProof.Rows
open L2 (atI ixN cutS)
def F_less (v_p : Int) (v_row : List Int) (v_other : List Int) (v_times : Int) : Option (List Int) :=
  mapG (List.zip v_row v_other) fun (y1 : Int × Int) => ((mulG v_times y1.2).bind fun (t2 : Int) => modG (y1.1 - t2) v_p)
end Mn
namespace Mn
open PySem PySem.Spec PyProof.Rows
open L2 (atI ixN cutS)
def F_law_base_v2 (v_p : Int) (v_long : Int) (v_loads : List (List Int)) : Option (List (List Int)) :=
  (mapG v_loads fun (y1 : List Int) => some y1).bind fun (v_rows_here_3 : List (List Int)) =>
  (some (([] : List (List Int)))).bind fun (v_done_4 : List (List Int)) =>
  (rng1 v_long).bind fun (r6 : List Int) =>
  (foldO (fun (x7 : Int) (s5 : List (List Int) × List (List Int)) =>
  (filG s5.1 fun (y8 : List Int) => filB (((atI y8 x7).bind fun (t9 : Int) => some (!decide (t9 = (0 : Int))))) (some y8)).bind fun (v_some_11 : List (List Int)) =>
  if (decide ((0 : Int) < (v_some_11.length : Int))) = true then
  ((rng1 v_p).bind fun (r12 : List Int) =>
  (filG r12 fun (y13 : Int) => filB (((atI v_some_11 ((0 : Int))).bind fun (t14 : List Int) => (atI t14 x7).bind fun (t15 : Int) => (mulG y13 t15).bind fun (t16 : Int) => (modG t16 v_p).bind fun (t17 : Int) => some (decide (t17 = (1 : Int))))) (some y13)).bind fun (t18 : List Int) =>
  (atI t18 ((0 : Int))).bind fun (v_over_20 : Int) =>
  (atI v_some_11 ((0 : Int))).bind fun (t21 : List Int) =>
  (mapG t21 fun (y22 : Int) => ((mulG v_over_20 y22).bind fun (t23 : Int) => modG t23 v_p)).bind fun (v_first_26 : List Int) =>
  (mapG s5.1 fun (y27 : List Int) => ((atI y27 x7).bind fun (t28 : Int) => F_less v_p y27 v_first_26 t28)).bind fun (v_rows_here_31 : List (List Int)) =>
  (mapG s5.2 fun (y32 : List Int) => ((atI y32 x7).bind fun (t33 : Int) => F_less v_p y32 v_first_26 t33)).bind fun (t35 : List (List Int)) =>
  (catG t35 ([v_first_26])).bind fun (v_done_37 : List (List Int)) =>
  some ((v_rows_here_31, v_done_37)))
  else
  (some ((s5.1, s5.2)))) r6 ((v_rows_here_3, v_done_4))).bind fun (s5 : List (List Int) × List (List Int)) =>
  mapG s5.2 fun (y38 : List Int) => some y38
end Mn
namespace Mn
open PySem PySem.Spec PyProof.Rows
open L2 (atI ixN cutS)
def F_law_cell (v_script : List Int) (v_k : Int) : Option (Int) :=
  (if (decide ((1 : Int) < (v_script.length : Int))) = true then ((atI v_script ((0 : Int))).bind fun (t1 : Int) => (modG t1 ((2 : Int))).bind fun (t2 : Int) => some (decide (t2 = (1 : Int)))) else some false).bind fun (t3 : Bool) =>
  if t3 = true then
  ((modG v_k (((v_script.length : Int)) - ((1 : Int)))).bind fun (t4 : Int) =>
  (atI v_script (((1 : Int)) + t4)).bind fun (v_cell_here_6 : Int) =>
  (fdivG v_k (((v_script.length : Int)) - ((1 : Int)))).bind fun (t8 : Int) =>
  (rng1 (min ((60 : Int)) t8)).bind fun (r9 : List Int) =>
  (foldO (fun (x10 : Int) (s7 : Int) =>
  (powG ((10 : Int)) ((9 : Int))).bind fun (t11 : Int) =>
  (fdivG s7 t11).bind fun (v_cell_here_13 : Int) =>
  some v_cell_here_13) r9 v_cell_here_6).bind fun (s7 : Int) =>
  (powG ((10 : Int)) ((9 : Int))).bind fun (t14 : Int) =>
  modG s7 t14)
  else
  ((some v_k).bind fun (v_given_16 : Int) =>
  (if (decide ((0 : Int) < (v_script.length : Int))) = true then
  ((modG v_k ((v_script.length : Int))).bind fun (t18 : Int) =>
  (atI v_script t18).bind fun (v_given_20 : Int) =>
  some v_given_20)
  else
  (some v_given_16) : Option (Int)).bind fun (s17 : Int) =>
  (powG ((10 : Int)) ((30 : Int))).bind fun (t21 : Int) =>
  (modG s17 t21).bind fun (t22 : Int) =>
  (mulG t22 ((48271 : Int))).bind fun (t23 : Int) =>
  (mulG ((7 : Int)) v_k).bind fun (t24 : Int) =>
  (mulG t24 v_k).bind fun (t25 : Int) =>
  (mulG ((13 : Int)) v_k).bind fun (t26 : Int) =>
  (modG (((t23 + t25) + t26) + ((5 : Int))) ((2147483647 : Int))).bind fun (t27 : Int) =>
  (mulG t27 ((69621 : Int))).bind fun (t28 : Int) =>
  modG t28 ((1000000007 : Int)))
end Mn
namespace Mn
open PySem PySem.Spec PyProof.Rows
open L2 (atI ixN cutS)
def F_law_loads_v2 (v_script : List Int) (v_at : Int) (v_p : Int) (v_long : Int) : Option (List (List Int)) :=
  (some (([] : List (List Int)))).bind fun (v_loads_here_1 : List (List Int)) =>
  (F_law_cell v_script v_at).bind fun (t3 : Int) =>
  (modG t3 ((4 : Int))).bind fun (t4 : Int) =>
  (rng1 t4).bind fun (r5 : List Int) =>
  (foldO (fun (x6 : Int) (s2 : List (List Int)) =>
  (rng1 v_long).bind fun (r8 : List Int) =>
  (mapG r8 fun (y9 : Int) => ((mulG ((5 : Int)) x6).bind fun (t10 : Int) => (F_law_cell v_script (((v_at + ((1 : Int))) + t10) + y9)).bind fun (t11 : Int) => (fdivG t11 ((4 : Int))).bind fun (t12 : Int) => modG t12 v_p)).bind fun (t14 : List Int) =>
  (appG s2 t14).bind fun (v_loads_here_7 : List (List Int)) =>
  some v_loads_here_7) r5 v_loads_here_1).bind fun (s2 : List (List Int)) =>
  some s2
end Mn
namespace Mn
open PySem PySem.Spec PyProof.Rows
open L2 (atI ixN cutS)
def F_first_with (v_rows : List (List Int)) (v_place : Int) : Option (Option Int) :=
  (loopO (ρ := Option Int) (fun (x2 : Int × List Int) (s1 : Unit) =>
  (atI x2.2 v_place).bind fun (t3 : Int) =>
  if (!decide (t3 = (0 : Int))) = true then
  ((some ((some x2.1))).bind fun r => some (Lp.rt r))
  else
  (some (Lp.nx (())))) (enI 0 v_rows) (())).bind (lpK (fun (s1 : Unit) => some none) fun v => some v)
end Mn
namespace Mn
open PySem PySem.Spec PyProof.Rows
open L2 (atI ixN cutS)
def F_inverse (v_p : Int) (v_x : Int) : Option (Int) :=
  (rng2 ((1 : Int)) v_p).bind fun (r2 : List Int) =>
  (loopO (ρ := Int) (fun (x3 : Int) (s1 : Unit) =>
  (mulG x3 v_x).bind fun (t4 : Int) =>
  (modG t4 v_p).bind fun (t5 : Int) =>
  if (decide (t5 = (1 : Int))) = true then
  ((some x3).bind fun r => some (Lp.rt r))
  else
  (some (Lp.nx (())))) r2 (())).bind (lpK (fun (s1 : Unit) => none) fun v => some v)
end Mn
namespace Mn
open PySem PySem.Spec PyProof.Rows
open L2 (atI ixN cutS)
def F_base_of (v_p : Int) (v_long : Int) (v_loads : List (List Int)) : Option (List (List Int)) :=
  (mapG v_loads fun (y1 : List Int) => some y1).bind fun (v_rows_3 : List (List Int)) =>
  (some (([] : List (List Int)))).bind fun (v_base_4 : List (List Int)) =>
  (rng1 v_long).bind fun (r6 : List Int) =>
  (foldO (fun (x7 : Int) (s5 : List (List Int) × List (List Int)) =>
  (F_first_with s5.1 x7).bind fun (v_k_9 : Option Int) =>
  if v_k_9.isSome = true then
  ((v_k_9).bind fun (u10 : Int) =>
  (popG s5.1 u10).bind fun (q11 : (List (List Int)) × (List Int)) =>
  (atI q11.2 x7).bind fun (t12 : Int) =>
  (F_inverse v_p t12).bind fun (v_over_14 : Int) =>
  (mapG q11.2 fun (y15 : Int) => ((mulG v_over_14 y15).bind fun (t16 : Int) => modG t16 v_p)).bind fun (v_chosen_19 : List Int) =>
  (mapG q11.1 fun (y20 : List Int) => ((atI y20 x7).bind fun (t21 : Int) => F_less v_p y20 v_chosen_19 t21)).bind fun (v_rows_24 : List (List Int)) =>
  (mapG s5.2 fun (y25 : List Int) => ((atI y25 x7).bind fun (t26 : Int) => F_less v_p y25 v_chosen_19 t26)).bind fun (t28 : List (List Int)) =>
  (catG t28 ([v_chosen_19])).bind fun (v_base_30 : List (List Int)) =>
  some ((v_rows_24, v_base_30)))
  else
  (some ((s5.1, s5.2)))) r6 ((v_rows_3, v_base_4))).bind fun (s5 : List (List Int) × List (List Int)) =>
  mapG s5.2 fun (y31 : List Int) => some y31
end Mn
namespace Mn
open PySem PySem.Spec PyProof.Rows
open L2 (atI ixN cutS)
def F_joined_table (v_p : Int) (v_table : Int × Int × List (List Int)) (v_loads : List (List Int)) : Option (Int × Int × List (List Int)) :=
  (some (([] : List (List Int)))).bind fun (v_rows_1 : List (List Int)) =>
  (rng1 v_table.1).bind fun (r3 : List Int) =>
  (foldO (fun (x4 : Int) (s2 : List (List Int)) =>
  (mapG v_loads fun (y6 : List Int) => atI y6 x4).bind fun (t8 : List Int) =>
  (atI v_table.2.2 x4).bind fun (t9 : List Int) =>
  (mapG t9 fun (y10 : Int) => modG (((0 : Int)) - y10) v_p).bind fun (t12 : List Int) =>
  (catG t8 t12).bind fun (t13 : List Int) =>
  (appG s2 t13).bind fun (v_rows_5 : List (List Int)) =>
  some v_rows_5) r3 v_rows_1).bind fun (s2 : List (List Int)) =>
  some ((v_table.1, ((v_loads.length : Int)) + v_table.2.1, s2))
end Mn
namespace Mn
open PySem PySem.Spec PyProof.Rows
open L2 (atI ixN cutS)
def F_lead_of (v_load : List Int) : Option (Int) :=
  (loopO (ρ := Int) (fun (x2 : Int × Int) (s1 : Unit) =>
  if (!decide (x2.2 = (0 : Int))) = true then
  ((some x2.1).bind fun r => some (Lp.rt r))
  else
  (some (Lp.nx (())))) (enI 0 v_load) (())).bind (lpK (fun (s1 : Unit) => some ((v_load.length : Int))) fun v => some v)
end Mn
namespace Mn
open PySem PySem.Spec PyProof.Rows
open L2 (atI ixN cutS)
def F_kernel (v_p : Int) (v_table : Int × Int × List (List Int)) : Option (List (List Int)) :=
  (some v_table.2.1).bind fun (v_wide_1 : Int) =>
  (F_base_of v_p v_wide_1 v_table.2.2).bind fun (v_base_3 : List (List Int)) =>
  (mapG v_base_3 fun (y4 : List Int) => F_lead_of y4).bind fun (v_leads_7 : List Int) =>
  (some (([] : List (List Int)))).bind fun (v_loads_8 : List (List Int)) =>
  (rng1 v_wide_1).bind fun (r10 : List Int) =>
  (foldO (fun (x11 : Int) (s9 : List (List Int)) =>
  if (!decide (x11 ∈ v_leads_7)) = true then
  ((rng1 v_wide_1).bind fun (r12 : List Int) =>
  (mapG r12 fun (y13 : Int) => some ((if (decide (y13 = x11)) = true then (1 : Int) else 0))).bind fun (v_load_15 : List Int) =>
  (foldO (fun (x17 : List Int × Int) (s16 : List Int) =>
  (atI x17.1 x11).bind fun (t18 : Int) =>
  (modG (((0 : Int)) - t18) v_p).bind fun (t19 : Int) =>
  (setG s16 x17.2 t19).bind fun (v_load_20 : List Int) =>
  some v_load_20) (List.zip v_base_3 v_leads_7) v_load_15).bind fun (s16 : List Int) =>
  (appG s9 s16).bind fun (v_loads_21 : List (List Int)) =>
  some v_loads_21)
  else
  (some s9)) r10 v_loads_8).bind fun (s9 : List (List Int)) =>
  F_base_of v_p v_wide_1 s9
end Mn
namespace Mn
open PySem PySem.Spec PyProof.Rows
open L2 (atI ixN cutS)
def F_leading_to (v_p : Int) (v_table : Int × Int × List (List Int)) (v_base : List (List Int)) : Option (List (List Int)) :=
  (F_joined_table v_p v_table v_base).bind fun (t1 : Int × Int × List (List Int)) =>
  (F_kernel v_p t1).bind fun (v_found_3 : List (List Int)) =>
  (mapG v_found_3 fun (y4 : List Int) => some (cutD y4 (some ((v_base.length : Int))) none)).bind fun (t5 : List (List Int)) =>
  F_base_of v_p v_table.2.1 t5
end Mn
namespace Mn
open PySem PySem.Spec PyProof.Rows
open L2 (atI ixN cutS)
def F_Arrow_against (v_self : Arr) (v_base : List (List Int)) : Option (List (List Int)) :=
  F_leading_to v_self.2.1 v_self.2.2 v_base
end Mn
namespace Mn
open PySem PySem.Spec PyProof.Rows
open L2 (atI ixN cutS)
def F_Left_forth (v_self : Arr) (v_base : List (List Int)) : Option (List (List Int)) :=
  F_Arrow_against v_self v_base
end Mn
namespace Mn
open PySem PySem.Spec PyProof.Rows
open L2 (atI ixN cutS)
def F_summed (v_p : Int) (v_row : List Int) (v_load : List Int) : Option (Int) :=
  (mapG (List.zip v_row v_load) fun (y1 : Int × Int) => mulG y1.1 y1.2).bind fun (t3 : List Int) =>
  modG t3.sum v_p
end Mn
namespace Mn
open PySem PySem.Spec PyProof.Rows
open L2 (atI ixN cutS)
def F_led (v_p : Int) (v_table : Int × Int × List (List Int)) (v_load : List Int) : Option (List Int) :=
  (mapG v_table.2.2 fun (y1 : List Int) => F_summed v_p y1 v_load).bind fun (t3 : List Int) =>
  some t3
end Mn
namespace Mn
open PySem PySem.Spec PyProof.Rows
open L2 (atI ixN cutS)
def F_pressed (v_p : Int) (v_table : Int × Int × List (List Int)) (v_base : List (List Int)) : Option (List (List Int)) :=
  (mapG v_base fun (y1 : List Int) => F_led v_p v_table y1).bind fun (t3 : List (List Int)) =>
  F_base_of v_p v_table.1 t3
end Mn
namespace Mn
open PySem PySem.Spec PyProof.Rows
open L2 (atI ixN cutS)
def F_Arrow_along (v_self : Arr) (v_base : List (List Int)) : Option (List (List Int)) :=
  F_pressed v_self.2.1 v_self.2.2 v_base
end Mn
namespace Mn
open PySem PySem.Spec PyProof.Rows
open L2 (atI ixN cutS)
def F_Right_forth (v_self : Arr) (v_base : List (List Int)) : Option (List (List Int)) :=
  F_Arrow_along v_self v_base
end Mn
namespace Mn
open PySem PySem.Spec PyProof.Rows
open L2 (atI ixN cutS)
def F_law_all (v_p : Int) (v_long : Int) : Option (List (List Int)) :=
  (some ([([] : List Int)])).bind fun (v_loads_1 : List (List Int)) =>
  (rng1 v_long).bind fun (r3 : List Int) =>
  (foldO (fun (x4 : Int) (s2 : List (List Int)) =>
  (some (([] : List (List Int)))).bind fun (v_more_5 : List (List Int)) =>
  (foldO (fun (x7 : List Int) (s6 : List (List Int)) =>
  (rng1 v_p).bind fun (r9 : List Int) =>
  (mapG r9 fun (y10 : Int) => catG x7 ([y10])).bind fun (t12 : List (List Int)) =>
  (catG s6 t12).bind fun (v_more_8 : List (List Int)) =>
  some v_more_8) s2 v_more_5).bind fun (s6 : List (List Int)) =>
  (some s6).bind fun (v_loads_13 : List (List Int)) =>
  some v_loads_13) r3 v_loads_1).bind fun (s2 : List (List Int)) =>
  some s2
end Mn
namespace Mn
open PySem PySem.Spec PyProof.Rows
open L2 (atI ixN cutS)
def F_law_led_v2_v2 (v_p : Int) (v_rows_here : List (List Int)) (v_load : List Int) : Option (List Int) :=
  (mapG v_rows_here fun (y1 : List Int) => ((mapG (List.zip y1 v_load) fun (y2 : Int × Int) => mulG y2.1 y2.2).bind fun (t4 : List Int) => modG t4.sum v_p)).bind fun (t6 : List Int) =>
  some t6
end Mn
namespace Mn
open PySem PySem.Spec PyProof.Rows
open L2 (atI ixN cutS)
def F_law_span (v_p : Int) (v_long : Int) (v_base_here : List (List Int)) : Option (List (List Int × Bool)) :=
  (rng1 v_long).bind fun (r1 : List Int) =>
  (mapG r1 fun (y2 : Int) => some ((0 : Int))).bind fun (t3 : List Int) =>
  (some (([(t3, true)] : List (List Int × Bool)))).bind fun (v_span_here_4 : List (List Int × Bool)) =>
  (foldO (fun (x6 : List Int) (s5 : List (List Int × Bool)) =>
  (foldO (fun (x8 : List Int) (s7 : List (List Int × Bool)) =>
  (rng2 ((1 : Int)) v_p).bind fun (r10 : List Int) =>
  (foldO (fun (x11 : Int) (s9 : List (List Int × Bool)) =>
  (mapG (List.zip x8 x6) fun (y12 : Int × Int) => ((mulG x11 y12.2).bind fun (t13 : Int) => modG (y12.1 + t13) v_p)).bind fun (t15 : List Int) =>
  (putG s9 t15 true).bind fun (v_span_here_16 : List (List Int × Bool)) =>
  some v_span_here_16) r10 s7).bind fun (s9 : List (List Int × Bool)) =>
  some s9) (List.map (fun p => p.1) s5) s5).bind fun (s7 : List (List Int × Bool)) =>
  some s7) v_base_here v_span_here_4).bind fun (s5 : List (List Int × Bool)) =>
  some s5
end Mn
namespace Mn
open PySem PySem.Spec PyProof.Rows
open L2 (atI ixN cutS)
def F_law_due_v10 (v_p : Int) (v_table_here : Int × Int × List (List Int)) (v_base_here : List (List Int)) (v_along : Bool) : Option (List (List Int)) :=
  if v_along = true then
  ((mapG v_base_here fun (y1 : List Int) => F_law_led_v2_v2 v_p v_table_here.2.2 y1).bind fun (t3 : List (List Int)) =>
  F_law_base_v2 v_p v_table_here.1 t3)
  else
  ((F_law_span v_p v_table_here.1 v_base_here).bind fun (v_span_here_6 : List (List Int × Bool)) =>
  (F_law_all v_p v_table_here.2.1).bind fun (t7 : List (List Int)) =>
  (filG t7 fun (y8 : List Int) => filB (((F_law_led_v2_v2 v_p v_table_here.2.2 y8).bind fun (t9 : List Int) => some ((lookA v_span_here_6 t9).isSome))) (some y8)).bind fun (t10 : List (List Int)) =>
  F_law_base_v2 v_p v_table_here.2.1 t10)
end Mn
namespace Mn
open PySem PySem.Spec PyProof.Rows
open L2 (atI ixN cutS)
def F_law_whole (v_found : Int) : Option (Bool) :=
  some ((true && (!false)))
end Mn
namespace Mn
open PySem PySem.Spec PyProof.Rows
open L2 (atI ixN cutS)
def F_law_is_base_v2 (v_found : List (List Int)) (v_due_here : List (List Int)) : Option (Bool) :=
  if (((!true) || (!decide ((v_found.length : Int) = (v_due_here.length : Int))))) = true then
  (some false)
  else
  ((loopO (ρ := Bool) (fun (x2 : List Int × List Int) (s1 : Unit) =>
  (if (!true) = true then some true else ((mapG x2.1 fun (y3 : Int) => F_law_whole y3).bind fun (t5 : List Bool) => some (((!(t5.all id)) || (!decide (x2.1 = x2.2)))))).bind fun (t6 : Bool) =>
  if t6 = true then
  ((some false).bind fun r => some (Lp.rt r))
  else
  (some (Lp.nx (())))) (List.zip v_found v_due_here) (())).bind (lpK (fun (s1 : Unit) => some true) fun v => some v))
end Mn
namespace Mn
open PySem PySem.Spec PyProof.Rows
open L2 (atI ixN cutS)
def F_law_right_v11 (v_arrow : Arr) (v_p : Int) (v_table_here : Int × Int × List (List Int)) (v_right_here : Bool) (v_left_base : List (List Int)) (v_right_base : List (List Int)) : Option (Bool) :=
  (some v_left_base).bind fun (v_handed_1 : List (List Int)) =>
  (F_law_due_v10 v_p v_table_here v_left_base v_right_here).bind fun (v_due_here_3 : List (List Int)) =>
  (if v_arrow.1 = true then F_Right_forth v_arrow v_handed_1 else F_Left_forth v_arrow v_handed_1).bind fun (t4 : List (List Int)) =>
  (F_law_is_base_v2 t4 v_due_here_3).bind fun (t5 : Bool) =>
  if (((!t5) || (!decide (v_handed_1 = v_left_base)))) = true then
  (some false)
  else
  ((some v_right_base).bind fun (v_handed_6 : List (List Int)) =>
  (F_law_due_v10 v_p v_table_here v_right_base (!v_right_here)).bind fun (v_due_here_8 : List (List Int)) =>
  (if v_arrow.1 = true then F_Left_forth v_arrow v_handed_6 else F_Right_forth v_arrow v_handed_6).bind fun (t9 : List (List Int)) =>
  (F_law_is_base_v2 t9 v_due_here_8).bind fun (t10 : Bool) =>
  some ((t10 && (decide (v_handed_6 = v_right_base)))))
end Mn
namespace Mn
open PySem PySem.Spec PyProof.Rows
open L2 (atI ixN cutS)
def F_law_table_v4 (v_script : List Int) (v_at : Int) (v_p : Int) (v_high : Int) (v_wide : Int) : Option (Int × Int × List (List Int)) :=
  (some (([] : List (List Int)))).bind fun (v_rows_1 : List (List Int)) =>
  (rng1 v_high).bind fun (r3 : List Int) =>
  (foldO (fun (x4 : Int) (s2 : List (List Int)) =>
  (rng1 v_wide).bind fun (r5 : List Int) =>
  (mapG r5 fun (y6 : Int) => ((mulG x4 v_wide).bind fun (t7 : Int) => F_law_cell v_script ((v_at + t7) + y6))).bind fun (v_cells_10 : List Int) =>
  (mapG v_cells_10 fun (y12 : Int) => ((fdivG y12 ((4 : Int))).bind fun (t13 : Int) => (modG t13 v_p).bind fun (t14 : Int) => (modG y12 ((4 : Int))).bind fun (t15 : Int) => mulG t14 ((if (decide ((0 : Int) < t15)) = true then (1 : Int) else 0)))).bind fun (t17 : List Int) =>
  (appG s2 t17).bind fun (v_rows_11 : List (List Int)) =>
  some v_rows_11) r3 v_rows_1).bind fun (s2 : List (List Int)) =>
  some ((v_high, v_wide, s2))
end Mn
namespace Mn
open PySem PySem.Spec PyProof.Rows
open L2 (atI ixN cutS)
def F_law_k20 (v_script : List Int) : Option (Bool) :=
  (F_law_cell v_script ((0 : Int))).bind fun (v_cell_here_2 : Int) =>
  (modG v_cell_here_2 ((4 : Int))).bind fun (t3 : Int) =>
  (atI ([(2 : Int), (3 : Int), (5 : Int), (7 : Int)]) t3).bind fun (v_p_5 : Int) =>
  (modG v_cell_here_2 ((4 : Int))).bind fun (t6 : Int) =>
  (atI ([(4 : Int), (4 : Int), (3 : Int), (3 : Int)]) t6).bind fun (v_most_8 : Int) =>
  (fdivG v_cell_here_2 ((4 : Int))).bind fun (t9 : Int) =>
  (modG t9 ((2 : Int))).bind fun (t10 : Int) =>
  (some (decide (t10 = (1 : Int)))).bind fun (v_right_here_11 : Bool) =>
  (fdivG v_cell_here_2 ((8 : Int))).bind fun (t12 : Int) =>
  (modG t12 v_most_8).bind fun (t13 : Int) =>
  (fdivG v_cell_here_2 ((32 : Int))).bind fun (t14 : Int) =>
  (modG t14 v_most_8).bind fun (t15 : Int) =>
  (some ([t13, t15])).bind fun (v_sizes_16 : List Int) =>
  (atI v_sizes_16 ((if v_right_here_11 = true then (1 : Int) else 0))).bind fun (t17 : Int) =>
  (atI v_sizes_16 (((1 : Int)) - ((if v_right_here_11 = true then (1 : Int) else 0)))).bind fun (t18 : Int) =>
  (F_law_table_v4 v_script ((1 : Int)) v_p_5 t17 t18).bind fun (v_table_here_20 : Int × Int × List (List Int)) =>
  (some (((false, v_p_5, v_table_here_20) : Arr))).bind fun (v_arrow_21 : Arr) =>
  (if v_right_here_11 = true then
  ((some (((true, v_p_5, v_table_here_20) : Arr))).bind fun (v_arrow_23 : Arr) =>
  some v_arrow_23)
  else
  (some v_arrow_21) : Option (Arr)).bind fun (s22 : Arr) =>
  if (!((if s22.1 = true then true else true))) = true then
  (some false)
  else
  ((rng1 ((3 : Int))).bind fun (r25 : List Int) =>
  (loopO (ρ := Bool) (fun (x26 : Int) (s24 : Unit) =>
  (atI v_sizes_16 ((0 : Int))).bind fun (t27 : Int) =>
  (mulG ((40 : Int)) x26).bind fun (t28 : Int) =>
  (atI v_sizes_16 ((0 : Int))).bind fun (t29 : Int) =>
  (F_law_loads_v2 v_script (((10 : Int)) + t28) v_p_5 t29).bind fun (t30 : List (List Int)) =>
  (F_law_base_v2 v_p_5 t27 t30).bind fun (v_left_base_32 : List (List Int)) =>
  (atI v_sizes_16 ((1 : Int))).bind fun (t33 : Int) =>
  (mulG ((40 : Int)) x26).bind fun (t34 : Int) =>
  (atI v_sizes_16 ((1 : Int))).bind fun (t35 : Int) =>
  (F_law_loads_v2 v_script (((30 : Int)) + t34) v_p_5 t35).bind fun (t36 : List (List Int)) =>
  (F_law_base_v2 v_p_5 t33 t36).bind fun (v_right_base_38 : List (List Int)) =>
  (F_law_right_v11 s22 v_p_5 v_table_here_20 v_right_here_11 v_left_base_32 v_right_base_38).bind fun (t39 : Bool) =>
  if (!t39) = true then
  ((some false).bind fun r => some (Lp.rt r))
  else
  (some (Lp.nx (())))) r25 (())).bind (lpK (fun (s24 : Unit) => F_law_right_v11 s22 v_p_5 v_table_here_20 v_right_here_11 (([] : List (List Int))) (([] : List (List Int)))) fun v => some v))
end Mn
namespace Mn
open PySem PySem.Spec PyProof.Rows
open L2 (atI ixN cutS)
theorem w_less (v_p : Int) (v_row : List Int) (v_other : List Int) (v_times : Int) : Sim (s_less [PyData.int v_p, (encL PyData.int) v_row, (encL PyData.int) v_other, PyData.int v_times]) (F_less v_p v_row v_other v_times) (ol PyData.int) :=
  s_def (φ := (ol PyData.int)) rfl (s_ret1 (φ := (ol PyData.int)) (m_comp (e := (encP2 PyData.int PyData.int)) (f := PyData.int) (φ := (fz PyData.int)) (i_zip (e := PyData.int) (f := PyData.int) (e_var rfl) (e_var rfl) rfl rfl) (fun y1 => ⟨_, rfl, sim_bx (.bin .mul (.var 3) (.var 5)) (fz PyData.int) (m_mul (e_var rfl) (e_var rfl)) fun t2 ht2 => m_mod (e_sub (e_var rfl) (ht2)) (e_var rfl)⟩) (fun _ => own_v rfl)) (fun _ => rfl))
end Mn
namespace Mn
open PySem PySem.Spec PyProof.Rows
open L2 (atI ixN cutS)
theorem w_law_base_v2_v2 (v_p : Int) (v_long : Int) (v_loads : List (List Int)) : Sim (s_law_base_v2 [PyData.int v_p, PyData.int v_long, (encL (encU PyData.int)) v_loads]) (F_law_base_v2 v_p v_long v_loads) (ol (encU PyData.int)) :=
  s_def (φ := (ol (encU PyData.int))) rfl (s_asg (φ := (ol (encL PyData.int))) (m_comp (e := (encU PyData.int)) (f := (encL PyData.int)) (φ := (ol PyData.int)) (i_ex (e := (encU PyData.int)) (e_var rfl) rfl) (fun y1 => ⟨_, rfl, sim_p (e_lisO (e := PyData.int) (e_var rfl) rfl)⟩) (fun _ => own_o rfl rfl)) (fun _ => rfl) fun v_rows_here_3 =>
  s_asg (φ := (ol (encL PyData.int))) (sim_p (e_lst (es_nil) (Nat.le_of_ble_eq_true rfl))) (fun _ => rfl) fun v_done_4 =>
  s_del (sms_bi (.r1 (.var 1)) (List.map PyData.int) (i_r1 (e_var rfl)) fun r6 hr6 =>
  s_for (e := PyData.int) (σ := List (List Int) × List (List Int)) (E := fun (s5 : List (List Int) × List (List Int)) => [some (RV.fz (PyData.int v_p)), some (RV.fz (PyData.int v_long)), none, some (RV.ol (List.map (encL PyData.int) s5.1)), none, some (RV.ol (List.map (encL PyData.int) s5.2)), none, none, none, none, none, none]) ((v_rows_here_3, v_done_4)) rfl (sim_p hr6) (rfl) (fun x7 s5 => ⟨_, rfl,
  s_norm (env' := [some (RV.fz (PyData.int v_p)), some (RV.fz (PyData.int v_long)), none, some (RV.ol (List.map (encL PyData.int) s5.1)), none, some (RV.ol (List.map (encL PyData.int) s5.2)), some (RV.fz (PyData.int x7)), none, none, none, none, none]) rfl (s_asg (φ := (ol (encL PyData.int))) (m_compT (e := (encL PyData.int)) (f := (encL PyData.int)) (φ := (fz (encL PyData.int))) (i_ex (e := (encL PyData.int)) (e_var rfl) rfl) (fun y8 => ⟨_, rfl, sim_bx (.idx (.var 10) (.var 6)) (fz PyData.int) (m_idx (e := PyData.int) (e_var rfl) (e_var rfl) rfl) fun t9 ht9 => sim_p (e_neI (ht9) (e_int _)), sim_p (e_var rfl)⟩) (fun _ => own_v rfl)) (fun _ => rfl) fun v_some_11 =>
  s_if (e_gt (e_len (e := (encL PyData.int)) (e_var rfl) rfl) (e_int _))
  (sms_bi (.r1 (.var 0)) (List.map PyData.int) (i_r1 (e_var rfl)) fun r12 hr12 =>
  sms_bx (.comp (.var 11) (.nm 11) (.r1 (.var 0)) (.one (.cmp .eq (.bin .mod (.bin .mul (.var 11) (.idx (.idx (.var 7) (.int 0)) (.var 6))) (.var 0)) (.int 1))) [11]) (ol PyData.int) (m_compT (e := PyData.int) (f := PyData.int) (φ := (fz PyData.int)) (sim_p hr12) (fun y13 => ⟨_, rfl, sim_bx (.idx (.var 7) (.int 0)) (fz (encL PyData.int)) (m_idx (e := (encL PyData.int)) (e_var rfl) (e_int _) rfl) fun t14 ht14 => sim_bx (.idx (.idx (.var 7) (.int 0)) (.var 6)) (fz PyData.int) (m_idx (e := PyData.int) (ht14) (e_var rfl) rfl) fun t15 ht15 => sim_bx (.bin .mul (.var 11) (.idx (.idx (.var 7) (.int 0)) (.var 6))) (fz PyData.int) (m_mul (e_var rfl) (ht15)) fun t16 ht16 => sim_bx (.bin .mod (.bin .mul (.var 11) (.idx (.idx (.var 7) (.int 0)) (.var 6))) (.var 0)) (fz PyData.int) (m_mod (ht16) (e_var rfl)) fun t17 ht17 => sim_p (e_eqI (ht17) (e_int _)), sim_p (e_var rfl)⟩) (fun _ => own_v rfl)) fun t18 ht18 =>
  s_asg (φ := (fz PyData.int)) (m_idx (e := PyData.int) (ht18) (e_int _) rfl) (fun _ => rfl) fun v_over_20 =>
  s_norm (env' := [some (RV.fz (PyData.int v_p)), some (RV.fz (PyData.int v_long)), none, some (RV.ol (List.map (encL PyData.int) s5.1)), none, some (RV.ol (List.map (encL PyData.int) s5.2)), some (RV.fz (PyData.int x7)), some (RV.ol (List.map (encL PyData.int) v_some_11)), some (RV.fz (PyData.int v_over_20)), none, none, none]) rfl (sms_bx (.idx (.var 7) (.int 0)) (fz (encL PyData.int)) (m_idx (e := (encL PyData.int)) (e_var rfl) (e_int _) rfl) fun t21 ht21 =>
  s_asg (φ := (ol PyData.int)) (m_comp (e := PyData.int) (f := PyData.int) (φ := (fz PyData.int)) (i_ex (e := PyData.int) (ht21) rfl) (fun y22 => ⟨_, rfl, sim_bx (.bin .mul (.var 8) (.var 11)) (fz PyData.int) (m_mul (e_var rfl) (e_var rfl)) fun t23 ht23 => m_mod (ht23) (e_var rfl)⟩) (fun _ => own_v rfl)) (fun _ => rfl) fun v_first_26 =>
  s_frz rfl (s_asg (φ := (ol (encL PyData.int))) (m_comp (e := (encL PyData.int)) (f := (encL PyData.int)) (φ := (ol PyData.int)) (i_ex (e := (encL PyData.int)) (e_var rfl) rfl) (fun y27 => ⟨_, rfl, sim_bx (.idx (.var 10) (.var 6)) (fz PyData.int) (m_idx (e := PyData.int) (e_var rfl) (e_var rfl) rfl) fun t28 ht28 => m_call (eb_cons (e_var rfl) rfl (eb_cons (e_var rfl) rfl (eb_cons (e_var rfl) rfl (eb_cons (ht28) rfl (eb_nil) rfl) rfl) rfl) rfl) (w_less v_p y27 v_first_26 t28)⟩) (fun _ => own_o rfl rfl)) (fun _ => rfl) fun v_rows_here_31 =>
  sms_bx (.comp (.call 0 (.cons (.var 0) (.cons (.var 10) (.cons (.var 9) (.cons (.idx (.var 10) (.var 6)) .nil))))) (.nm 10) (.ex (.var 5)) .emp [10]) (ol (encL PyData.int)) (m_comp (e := (encL PyData.int)) (f := (encL PyData.int)) (φ := (ol PyData.int)) (i_ex (e := (encL PyData.int)) (e_var rfl) rfl) (fun y32 => ⟨_, rfl, sim_bx (.idx (.var 10) (.var 6)) (fz PyData.int) (m_idx (e := PyData.int) (e_var rfl) (e_var rfl) rfl) fun t33 ht33 => m_call (eb_cons (e_var rfl) rfl (eb_cons (e_var rfl) rfl (eb_cons (e_var rfl) rfl (eb_cons (ht33) rfl (eb_nil) rfl) rfl) rfl) rfl) (w_less v_p y32 v_first_26 t33)⟩) (fun _ => own_o rfl rfl)) fun t35 ht35 =>
  s_asg (φ := (ol (encL PyData.int))) (m_catL (e := (encL PyData.int)) (ht35) (e_lst (es_cons (e_var rfl) (own_v rfl) (es_nil)) (Nat.le_of_ble_eq_true rfl)) rfl rfl) (fun _ => rfl) fun v_done_37 =>
  s_del (s_del (s_del (s_del (s_nil (s_nil (s_end (Or.inl rfl))))))))))
  (s_del (s_del (s_nil (s_nil (s_end (Or.inl rfl)))))))⟩) fun s5 =>
  s_norm (env' := [some (RV.fz (PyData.int v_p)), some (RV.fz (PyData.int v_long)), none, some (RV.ol (List.map (encL PyData.int) s5.1)), none, some (RV.ol (List.map (encL PyData.int) s5.2)), none, none, none, none, none, none]) rfl (s_ret1 (φ := (ol (encU PyData.int))) (m_comp (e := (encL PyData.int)) (f := (encU PyData.int)) (φ := (fz (encU PyData.int))) (i_ex (e := (encL PyData.int)) (e_var rfl) rfl) (fun y38 => ⟨_, rfl, sim_p (e_tupO (e := PyData.int) (e_var rfl) rfl)⟩) (fun _ => own_v rfl)) (fun _ => rfl))))
end Mn
namespace Mn
open PySem PySem.Spec PyProof.Rows
open L2 (atI ixN cutS)
theorem w_law_cell (v_script : List Int) (v_k : Int) : Sim (s_law_cell [scrD v_script, PyData.int v_k]) (F_law_cell v_script v_k) (fz PyData.int) :=
  s_def (φ := (fz PyData.int)) rfl (sms_bx (.and (.cmp .gt (.bi .len (.cons (.var 0) .nil)) (.int 1)) (.one (.cmp .eq (.bin .mod (.idx (.var 0) (.int 0)) (.int 2)) (.int 1)))) (fz PyData.bool) (m_and (e_gt (e_lenZ (e_var rfl)) (e_int _)) (sim_bx (.idx (.var 0) (.int 0)) (fz PyData.int) (m_idx (e := PyData.int) (e_var rfl) (e_int _) (scr_seq _)) fun t1 ht1 => sim_bx (.bin .mod (.idx (.var 0) (.int 0)) (.int 2)) (fz PyData.int) (m_mod (ht1) (e_int _)) fun t2 ht2 => sim_p (e_one (e_eqI (ht2) (e_int _))))) fun t3 ht3 =>
  s_if (ht3)
  (sms_bx (.bin .mod (.var 1) (.bin .sub (.bi .len (.cons (.var 0) .nil)) (.int 1))) (fz PyData.int) (m_mod (e_var rfl) (e_sub (e_lenZ (e_var rfl)) (e_int _))) fun t4 ht4 =>
  s_asg (φ := (fz PyData.int)) (m_idx (e := PyData.int) (e_var rfl) (e_add (e_int _) (ht4)) (scr_seq _)) (fun _ => rfl) fun v_cell_here_6 =>
  sms_bx (.bin .fdiv (.var 1) (.bin .sub (.bi .len (.cons (.var 0) .nil)) (.int 1))) (fz PyData.int) (m_fdiv (e_var rfl) (e_sub (e_lenZ (e_var rfl)) (e_int _))) fun t8 ht8 =>
  sms_bi (.r1 (.bi .min2 (.cons (.int 60) (.cons (.bin .fdiv (.var 1) (.bin .sub (.bi .len (.cons (.var 0) .nil)) (.int 1))) .nil)))) (List.map PyData.int) (i_r1 (e_min2 (e_int _) (ht8))) fun r9 hr9 =>
  s_for (e := PyData.int) (σ := Int) (E := fun (s7 : Int) => [some (RV.fz (scrD v_script)), some (RV.fz (PyData.int v_k)), some (RV.fz (PyData.int s7)), none, none]) v_cell_here_6 rfl (sim_p hr9) (rfl) (fun x10 s7 => ⟨_, rfl,
  sms_bx (.bin .pow (.int 10) (.int 9)) (fz PyData.int) (m_pow (e_int _) (e_int _)) fun t11 ht11 =>
  s_asg (φ := (fz PyData.int)) (m_fdiv (e_var rfl) (ht11)) (fun _ => rfl) fun v_cell_here_13 =>
  s_del (s_nil (s_end (Or.inl rfl)))⟩) fun s7 =>
  sms_bx (.bin .pow (.int 10) (.int 9)) (fz PyData.int) (m_pow (e_int _) (e_int _)) fun t14 ht14 =>
  s_ret1 (φ := (fz PyData.int)) (m_mod (e_var rfl) (ht14)) (fun _ => rfl))
  (s_nil (s_asg (φ := (fz PyData.int)) (sim_p (e_var rfl)) (fun _ => rfl) fun v_given_16 =>
  s_cut (σ := Int) (E := fun (s17 : Int) => [none, some (RV.fz (PyData.int v_k)), none, none, some (RV.fz (PyData.int s17))]) (s_if (e_gt (e_lenZ (e_var rfl)) (e_int _))
  (sms_bx (.bin .mod (.var 1) (.bi .len (.cons (.var 0) .nil))) (fz PyData.int) (m_mod (e_var rfl) (e_lenZ (e_var rfl))) fun t18 ht18 =>
  s_asg (φ := (fz PyData.int)) (m_idx (e := PyData.int) (e_var rfl) (ht18) (scr_seq _)) (fun _ => rfl) fun v_given_20 =>
  s_del (s_nil (s_nil (s_end rfl))))
  (s_del (s_nil (s_nil (s_end rfl))))) fun s17 =>
  sms_bx (.bin .pow (.int 10) (.int 30)) (fz PyData.int) (m_pow (e_int _) (e_int _)) fun t21 ht21 =>
  sms_bx (.bin .mod (.var 4) (.bin .pow (.int 10) (.int 30))) (fz PyData.int) (m_mod (e_var rfl) (ht21)) fun t22 ht22 =>
  sms_bx (.bin .mul (.bin .mod (.var 4) (.bin .pow (.int 10) (.int 30))) (.int 48271)) (fz PyData.int) (m_mul (ht22) (e_int _)) fun t23 ht23 =>
  sms_bx (.bin .mul (.int 7) (.var 1)) (fz PyData.int) (m_mul (e_int _) (e_var rfl)) fun t24 ht24 =>
  sms_bx (.bin .mul (.bin .mul (.int 7) (.var 1)) (.var 1)) (fz PyData.int) (m_mul (ht24) (e_var rfl)) fun t25 ht25 =>
  sms_bx (.bin .mul (.int 13) (.var 1)) (fz PyData.int) (m_mul (e_int _) (e_var rfl)) fun t26 ht26 =>
  sms_bx (.bin .mod (.bin .add (.bin .add (.bin .add (.bin .mul (.bin .mod (.var 4) (.bin .pow (.int 10) (.int 30))) (.int 48271)) (.bin .mul (.bin .mul (.int 7) (.var 1)) (.var 1))) (.bin .mul (.int 13) (.var 1))) (.int 5)) (.int 2147483647)) (fz PyData.int) (m_mod (e_add (e_add (e_add (ht23) (ht25)) (ht26)) (e_int _)) (e_int _)) fun t27 ht27 =>
  sms_bx (.bin .mul (.bin .mod (.bin .add (.bin .add (.bin .add (.bin .mul (.bin .mod (.var 4) (.bin .pow (.int 10) (.int 30))) (.int 48271)) (.bin .mul (.bin .mul (.int 7) (.var 1)) (.var 1))) (.bin .mul (.int 13) (.var 1))) (.int 5)) (.int 2147483647)) (.int 69621)) (fz PyData.int) (m_mul (ht27) (e_int _)) fun t28 ht28 =>
  s_ret1 (φ := (fz PyData.int)) (m_mod (ht28) (e_int _)) (fun _ => rfl))))
end Mn
namespace Mn
open PySem PySem.Spec PyProof.Rows
open L2 (atI ixN cutS)
theorem w_law_loads_v2 (v_script : List Int) (v_at : Int) (v_p : Int) (v_long : Int) : Sim (s_law_loads_v2 [scrD v_script, PyData.int v_at, PyData.int v_p, PyData.int v_long]) (F_law_loads_v2 v_script v_at v_p v_long) (ol (encU PyData.int)) :=
  s_def (φ := (ol (encU PyData.int))) rfl (s_asg (φ := (ol (encU PyData.int))) (sim_p (e_lst (es_nil) (Nat.le_of_ble_eq_true rfl))) (fun _ => rfl) fun v_loads_here_1 =>
  sms_bx (.call 0 (.cons (.var 0) (.cons (.var 1) .nil))) (fz PyData.int) (m_call (eb_cons (e_var rfl) rfl (eb_cons (e_var rfl) rfl (eb_nil) rfl) rfl) (w_law_cell v_script v_at)) fun t3 ht3 =>
  sms_bx (.bin .mod (.call 0 (.cons (.var 0) (.cons (.var 1) .nil))) (.int 4)) (fz PyData.int) (m_mod (ht3) (e_int _)) fun t4 ht4 =>
  sms_bi (.r1 (.bin .mod (.call 0 (.cons (.var 0) (.cons (.var 1) .nil))) (.int 4))) (List.map PyData.int) (i_r1 (ht4)) fun r5 hr5 =>
  s_for (e := PyData.int) (σ := List (List Int)) (E := fun (s2 : List (List Int)) => [some (RV.fz (scrD v_script)), some (RV.fz (PyData.int v_at)), some (RV.fz (PyData.int v_p)), some (RV.fz (PyData.int v_long)), some (RV.ol (List.map (encU PyData.int) s2)), none, none]) v_loads_here_1 rfl (sim_p hr5) (rfl) (fun x6 s2 => ⟨_, rfl,
  sms_bi (.r1 (.var 3)) (List.map PyData.int) (i_r1 (e_var rfl)) fun r8 hr8 =>
  sms_bx (.comp (.bin .mod (.bin .fdiv (.call 0 (.cons (.var 0) (.cons (.bin .add (.bin .add (.bin .add (.var 1) (.int 1)) (.bin .mul (.int 5) (.var 5))) (.var 6)) .nil))) (.int 4)) (.var 2)) (.nm 6) (.r1 (.var 3)) .emp [6]) (ol PyData.int) (m_comp (e := PyData.int) (f := PyData.int) (φ := (fz PyData.int)) (sim_p hr8) (fun y9 => ⟨_, rfl, sim_bx (.bin .mul (.int 5) (.var 5)) (fz PyData.int) (m_mul (e_int _) (e_var rfl)) fun t10 ht10 => sim_bx (.call 0 (.cons (.var 0) (.cons (.bin .add (.bin .add (.bin .add (.var 1) (.int 1)) (.bin .mul (.int 5) (.var 5))) (.var 6)) .nil))) (fz PyData.int) (m_call (eb_cons (e_var rfl) rfl (eb_cons (e_add (e_add (e_add (e_var rfl) (e_int _)) (ht10)) (e_var rfl)) rfl (eb_nil) rfl) rfl) (w_law_cell v_script (((v_at + ((1 : Int))) + t10) + y9))) fun t11 ht11 => sim_bx (.bin .fdiv (.call 0 (.cons (.var 0) (.cons (.bin .add (.bin .add (.bin .add (.var 1) (.int 1)) (.bin .mul (.int 5) (.var 5))) (.var 6)) .nil))) (.int 4)) (fz PyData.int) (m_fdiv (ht11) (e_int _)) fun t12 ht12 => m_mod (ht12) (e_var rfl)⟩) (fun _ => own_v rfl)) fun t14 ht14 =>
  s_app (f := (encU PyData.int)) rfl (e_tupO (e := PyData.int) (ht14) rfl) (own_v rfl) fun v_loads_here_7 =>
  s_del (s_nil (s_end (Or.inl rfl)))⟩) fun s2 =>
  s_ret1 (φ := (ol (encU PyData.int))) (sim_p (e_var rfl)) (fun _ => rfl))
end Mn
namespace Mn
open PySem PySem.Spec PyProof.Rows
open L2 (atI ixN cutS)
theorem w_first_with (v_rows : List (List Int)) (v_place : Int) : Sim (s_first_with [(encL (encL PyData.int)) v_rows, PyData.int v_place]) (F_first_with v_rows v_place) (fz (encO PyData.int)) :=
  s_def (φ := (fz (encO PyData.int))) rfl (s_forL (e := (encP2 PyData.int (encL PyData.int))) (σ := Unit) (ρ := Option Int) (E := fun (s1 : Unit) => [some (RV.fz ((encL (encL PyData.int)) v_rows)), some (RV.fz (PyData.int v_place)), none, none]) (φ := (fz (encO PyData.int))) (mk := (fun v => v)) (()) rfl (i_en (e := (encL PyData.int)) (e_var rfl) rfl) (b_en (bo_v (e_var rfl))) (fun x2 s1 => ⟨_, rfl,
  sms_bx (.idx (.var 3) (.var 1)) (fz PyData.int) (m_idx (e := PyData.int) (e_var rfl) (e_var rfl) rfl) fun t3 ht3 =>
  s_if (e_neI (ht3) (e_int _))
  (s_ret (φ := (fz (encO PyData.int))) (mk := Lp.rt) (sim_p (e_var rfl)) (fun _ => rfl))
  (s_nil (s_del (s_del (s_nil (s_end (Or.inl rfl))))))⟩) (fun _ => rfl) fun s1 =>
  s_ret1 (φ := (fz (encO PyData.int))) (sim_p (e_non)) (fun _ => rfl))
end Mn
namespace Mn
open PySem PySem.Spec PyProof.Rows
open L2 (atI ixN cutS)
theorem w_inverse (v_p : Int) (v_x : Int) : Sim (s_inverse [PyData.int v_p, PyData.int v_x]) (F_inverse v_p v_x) (fz PyData.int) :=
  s_def (φ := (fz PyData.int)) rfl (sms_bi (.r2 (.int 1) (.var 0)) (List.map PyData.int) (i_r2 (e_int _) (e_var rfl)) fun r2 hr2 =>
  s_forL (e := PyData.int) (σ := Unit) (ρ := Int) (E := fun (s1 : Unit) => [some (RV.fz (PyData.int v_p)), some (RV.fz (PyData.int v_x)), none]) (φ := (fz PyData.int)) (mk := (fun v => v)) (()) rfl (sim_p hr2) (rfl) (fun x3 s1 => ⟨_, rfl,
  sms_bx (.bin .mul (.var 2) (.var 1)) (fz PyData.int) (m_mul (e_var rfl) (e_var rfl)) fun t4 ht4 =>
  sms_bx (.bin .mod (.bin .mul (.var 2) (.var 1)) (.var 0)) (fz PyData.int) (m_mod (ht4) (e_var rfl)) fun t5 ht5 =>
  s_if (e_eqI (ht5) (e_int _))
  (s_ret (φ := (fz PyData.int)) (mk := Lp.rt) (sim_p (e_var rfl)) (fun _ => rfl))
  (s_nil (s_del (s_nil (s_end (Or.inl rfl)))))⟩) (fun _ => rfl) fun s1 =>
  s_nev)
end Mn
namespace Mn
open PySem PySem.Spec PyProof.Rows
open L2 (atI ixN cutS)
theorem w_base_of (v_p : Int) (v_long : Int) (v_loads : List (List Int)) : Sim (s_base_of [PyData.int v_p, PyData.int v_long, (encL (encU PyData.int)) v_loads]) (F_base_of v_p v_long v_loads) (ol (encU PyData.int)) :=
  s_def (φ := (ol (encU PyData.int))) rfl (s_asg (φ := (ol (encL PyData.int))) (m_comp (e := (encU PyData.int)) (f := (encL PyData.int)) (φ := (ol PyData.int)) (i_ex (e := (encU PyData.int)) (e_var rfl) rfl) (fun y1 => ⟨_, rfl, sim_p (e_lisO (e := PyData.int) (e_var rfl) rfl)⟩) (fun _ => own_o rfl rfl)) (fun _ => rfl) fun v_rows_3 =>
  s_asg (φ := (ol (encL PyData.int))) (sim_p (e_lst (es_nil) (Nat.le_of_ble_eq_true rfl))) (fun _ => rfl) fun v_base_4 =>
  s_del (sms_bi (.r1 (.var 1)) (List.map PyData.int) (i_r1 (e_var rfl)) fun r6 hr6 =>
  s_for (e := PyData.int) (σ := List (List Int) × List (List Int)) (E := fun (s5 : List (List Int) × List (List Int)) => [some (RV.fz (PyData.int v_p)), some (RV.fz (PyData.int v_long)), none, some (RV.ol (List.map (encL PyData.int) s5.1)), none, some (RV.ol (List.map (encL PyData.int) s5.2)), none, none, none, none, none, none]) ((v_rows_3, v_base_4)) rfl (sim_p hr6) (rfl) (fun x7 s5 => ⟨_, rfl,
  s_norm (env' := [some (RV.fz (PyData.int v_p)), some (RV.fz (PyData.int v_long)), none, some (RV.ol (List.map (encL PyData.int) s5.1)), none, some (RV.ol (List.map (encL PyData.int) s5.2)), some (RV.fz (PyData.int x7)), none, none, none, none, none]) rfl (s_asg (φ := (fz (encO PyData.int))) (m_callS (eb_cons (e_var rfl) rfl (eb_cons (e_var rfl) rfl (eb_nil) rfl) rfl) (w_first_with s5.1 x7) (flat_O flat_I)) (fun _ => rfl) fun v_k_9 =>
  s_if (e_noNn notN_I (e_var rfl))
  (sms_bx (.var 7) (fz PyData.int) (m_un (e_var rfl)) fun u10 hu10 =>
  s_pop (f := (encL PyData.int)) (by decide) rfl (hu10) fun q11 =>
  s_norm (env' := [some (RV.fz (PyData.int v_p)), some (RV.fz (PyData.int v_long)), none, some (RV.ol (List.map (encL PyData.int) q11.1)), none, some (RV.ol (List.map (encL PyData.int) s5.2)), some (RV.fz (PyData.int x7)), some (RV.fz ((encO PyData.int) v_k_9)), some (RV.fz ((encL PyData.int) q11.2)), none, none, none]) rfl (sms_bx (.idx (.var 8) (.var 6)) (fz PyData.int) (m_idx (e := PyData.int) (e_var rfl) (e_var rfl) rfl) fun t12 ht12 =>
  s_asg (φ := (fz PyData.int)) (m_call (eb_cons (e_var rfl) rfl (eb_cons (ht12) rfl (eb_nil) rfl) rfl) (w_inverse v_p t12)) (fun _ => rfl) fun v_over_14 =>
  s_asg (φ := (ol PyData.int)) (m_comp (e := PyData.int) (f := PyData.int) (φ := (fz PyData.int)) (i_ex (e := PyData.int) (e_var rfl) rfl) (fun y15 => ⟨_, rfl, sim_bx (.bin .mul (.var 9) (.var 10)) (fz PyData.int) (m_mul (e_var rfl) (e_var rfl)) fun t16 ht16 => m_mod (ht16) (e_var rfl)⟩) (fun _ => own_v rfl)) (fun _ => rfl) fun v_chosen_19 =>
  s_frz rfl (s_asg (φ := (ol (encL PyData.int))) (m_comp (e := (encL PyData.int)) (f := (encL PyData.int)) (φ := (ol PyData.int)) (i_ex (e := (encL PyData.int)) (e_var rfl) rfl) (fun y20 => ⟨_, rfl, sim_bx (.idx (.var 11) (.var 6)) (fz PyData.int) (m_idx (e := PyData.int) (e_var rfl) (e_var rfl) rfl) fun t21 ht21 => m_call (eb_cons (e_var rfl) rfl (eb_cons (e_var rfl) rfl (eb_cons (e_var rfl) rfl (eb_cons (ht21) rfl (eb_nil) rfl) rfl) rfl) rfl) (w_less v_p y20 v_chosen_19 t21)⟩) (fun _ => own_o rfl rfl)) (fun _ => rfl) fun v_rows_24 =>
  s_norm (env' := [some (RV.fz (PyData.int v_p)), some (RV.fz (PyData.int v_long)), none, some (RV.ol (List.map (encL PyData.int) v_rows_24)), none, some (RV.ol (List.map (encL PyData.int) s5.2)), some (RV.fz (PyData.int x7)), some (RV.fz ((encO PyData.int) v_k_9)), some (RV.fz ((encL PyData.int) v_chosen_19)), some (RV.fz (PyData.int v_over_14)), none, none]) rfl (sms_bx (.comp (.call 2 (.cons (.var 0) (.cons (.var 11) (.cons (.var 8) (.cons (.idx (.var 11) (.var 6)) .nil))))) (.nm 11) (.ex (.var 5)) .emp [11]) (ol (encL PyData.int)) (m_comp (e := (encL PyData.int)) (f := (encL PyData.int)) (φ := (ol PyData.int)) (i_ex (e := (encL PyData.int)) (e_var rfl) rfl) (fun y25 => ⟨_, rfl, sim_bx (.idx (.var 11) (.var 6)) (fz PyData.int) (m_idx (e := PyData.int) (e_var rfl) (e_var rfl) rfl) fun t26 ht26 => m_call (eb_cons (e_var rfl) rfl (eb_cons (e_var rfl) rfl (eb_cons (e_var rfl) rfl (eb_cons (ht26) rfl (eb_nil) rfl) rfl) rfl) rfl) (w_less v_p y25 v_chosen_19 t26)⟩) (fun _ => own_o rfl rfl)) fun t28 ht28 =>
  s_asg (φ := (ol (encL PyData.int))) (m_catL (e := (encL PyData.int)) (ht28) (e_lst (es_cons (e_var rfl) (own_v rfl) (es_nil)) (Nat.le_of_ble_eq_true rfl)) rfl rfl) (fun _ => rfl) fun v_base_30 =>
  s_del (s_del (s_del (s_del (s_nil (s_nil (s_end (Or.inl rfl)))))))))))
  (s_del (s_del (s_nil (s_nil (s_end (Or.inl rfl)))))))⟩) fun s5 =>
  s_ret1 (φ := (ol (encU PyData.int))) (m_comp (e := (encL PyData.int)) (f := (encU PyData.int)) (φ := (fz (encU PyData.int))) (i_ex (e := (encL PyData.int)) (e_var rfl) rfl) (fun y31 => ⟨_, rfl, sim_p (e_tupO (e := PyData.int) (e_var rfl) rfl)⟩) (fun _ => own_v rfl)) (fun _ => rfl)))
end Mn
namespace Mn
open PySem PySem.Spec PyProof.Rows
open L2 (atI ixN cutS)
theorem w_joined_table (v_p : Int) (v_table : Int × Int × List (List Int)) (v_loads : List (List Int)) : Sim (s_joined_table [PyData.int v_p, (encP3 PyData.int PyData.int (encU (encU PyData.int))) v_table, (encL (encU PyData.int)) v_loads]) (F_joined_table v_p v_table v_loads) (fz (encP3 PyData.int PyData.int (encU (encU PyData.int)))) :=
  s_def (φ := (fz (encP3 PyData.int PyData.int (encU (encU PyData.int))))) rfl (s_asg (φ := (ol (encU PyData.int))) (sim_p (e_lst (es_nil) (Nat.le_of_ble_eq_true rfl))) (fun _ => rfl) fun v_rows_1 =>
  sms_bi (.r1 (.idx (.var 1) (.int 0))) (List.map PyData.int) (i_r1 (e_idxP (e_var rfl) (e_int _) rfl rfl)) fun r3 hr3 =>
  s_for (e := PyData.int) (σ := List (List Int)) (E := fun (s2 : List (List Int)) => [some (RV.fz (PyData.int v_p)), some (RV.fz ((encP3 PyData.int PyData.int (encU (encU PyData.int))) v_table)), some (RV.fz ((encL (encU PyData.int)) v_loads)), some (RV.ol (List.map (encU PyData.int) s2)), none, none, none]) v_rows_1 rfl (sim_p hr3) (rfl) (fun x4 s2 => ⟨_, rfl,
  sms_bx (.comp (.idx (.var 5) (.var 4)) (.nm 5) (.ex (.var 2)) .emp [5]) (ol PyData.int) (m_comp (e := (encU PyData.int)) (f := PyData.int) (φ := (fz PyData.int)) (i_ex (e := (encU PyData.int)) (e_var rfl) rfl) (fun y6 => ⟨_, rfl, m_idx (e := PyData.int) (e_var rfl) (e_var rfl) rfl⟩) (fun _ => own_v rfl)) fun t8 ht8 =>
  sms_bx (.idx (.idx (.var 1) (.int 2)) (.var 4)) (fz (encU PyData.int)) (m_idx (e := (encU PyData.int)) (e_idxP (e_var rfl) (e_int _) rfl rfl) (e_var rfl) rfl) fun t9 ht9 =>
  sms_bx (.comp (.bin .mod (.bin .sub (.int 0) (.var 6)) (.var 0)) (.nm 6) (.ex (.idx (.idx (.var 1) (.int 2)) (.var 4))) .emp [6]) (ol PyData.int) (m_comp (e := PyData.int) (f := PyData.int) (φ := (fz PyData.int)) (i_ex (e := PyData.int) (ht9) rfl) (fun y10 => ⟨_, rfl, m_mod (e_sub (e_int _) (e_var rfl)) (e_var rfl)⟩) (fun _ => own_v rfl)) fun t12 ht12 =>
  sms_bx (.bin .add (.comp (.idx (.var 5) (.var 4)) (.nm 5) (.ex (.var 2)) .emp [5]) (.comp (.bin .mod (.bin .sub (.int 0) (.var 6)) (.var 0)) (.nm 6) (.ex (.idx (.idx (.var 1) (.int 2)) (.var 4))) .emp [6])) (ol PyData.int) (m_catL (e := PyData.int) (ht8) (ht12) rfl rfl) fun t13 ht13 =>
  s_app (f := (encU PyData.int)) rfl (e_tupO (e := PyData.int) (ht13) rfl) (own_v rfl) fun v_rows_5 =>
  s_del (s_nil (s_end (Or.inl rfl)))⟩) fun s2 =>
  s_ret1 (φ := (fz (encP3 PyData.int PyData.int (encU (encU PyData.int))))) (sim_p (e_tup (es_cons (e_idxP (e_var rfl) (e_int _) rfl rfl) (own_v rfl) (es_cons (e_add (e_len (e := (encU PyData.int)) (e_var rfl) rfl) (e_idxP (e_var rfl) (e_int _) rfl rfl)) (own_v rfl) (es_cons (e_tupO (e := (encU PyData.int)) (e_var rfl) rfl) (own_v rfl) (es_nil)))) (Nat.le_of_ble_eq_true rfl))) (fun _ => rfl))
end Mn
namespace Mn
open PySem PySem.Spec PyProof.Rows
open L2 (atI ixN cutS)
theorem w_base_of_v2 (v_p : Int) (v_long : Int) (v_loads : List (List Int)) : Sim (s_base_of [PyData.int v_p, PyData.int v_long, (encU (encU PyData.int)) v_loads]) (F_base_of v_p v_long v_loads) (ol (encU PyData.int)) :=
  s_def (φ := (ol (encU PyData.int))) rfl (s_asg (φ := (ol (encL PyData.int))) (m_comp (e := (encU PyData.int)) (f := (encL PyData.int)) (φ := (ol PyData.int)) (i_ex (e := (encU PyData.int)) (e_var rfl) rfl) (fun y1 => ⟨_, rfl, sim_p (e_lisO (e := PyData.int) (e_var rfl) rfl)⟩) (fun _ => own_o rfl rfl)) (fun _ => rfl) fun v_rows_3 =>
  s_asg (φ := (ol (encL PyData.int))) (sim_p (e_lst (es_nil) (Nat.le_of_ble_eq_true rfl))) (fun _ => rfl) fun v_base_4 =>
  s_del (sms_bi (.r1 (.var 1)) (List.map PyData.int) (i_r1 (e_var rfl)) fun r6 hr6 =>
  s_for (e := PyData.int) (σ := List (List Int) × List (List Int)) (E := fun (s5 : List (List Int) × List (List Int)) => [some (RV.fz (PyData.int v_p)), some (RV.fz (PyData.int v_long)), none, some (RV.ol (List.map (encL PyData.int) s5.1)), none, some (RV.ol (List.map (encL PyData.int) s5.2)), none, none, none, none, none, none]) ((v_rows_3, v_base_4)) rfl (sim_p hr6) (rfl) (fun x7 s5 => ⟨_, rfl,
  s_norm (env' := [some (RV.fz (PyData.int v_p)), some (RV.fz (PyData.int v_long)), none, some (RV.ol (List.map (encL PyData.int) s5.1)), none, some (RV.ol (List.map (encL PyData.int) s5.2)), some (RV.fz (PyData.int x7)), none, none, none, none, none]) rfl (s_asg (φ := (fz (encO PyData.int))) (m_callS (eb_cons (e_var rfl) rfl (eb_cons (e_var rfl) rfl (eb_nil) rfl) rfl) (w_first_with s5.1 x7) (flat_O flat_I)) (fun _ => rfl) fun v_k_9 =>
  s_if (e_noNn notN_I (e_var rfl))
  (sms_bx (.var 7) (fz PyData.int) (m_un (e_var rfl)) fun u10 hu10 =>
  s_pop (f := (encL PyData.int)) (by decide) rfl (hu10) fun q11 =>
  s_norm (env' := [some (RV.fz (PyData.int v_p)), some (RV.fz (PyData.int v_long)), none, some (RV.ol (List.map (encL PyData.int) q11.1)), none, some (RV.ol (List.map (encL PyData.int) s5.2)), some (RV.fz (PyData.int x7)), some (RV.fz ((encO PyData.int) v_k_9)), some (RV.fz ((encL PyData.int) q11.2)), none, none, none]) rfl (sms_bx (.idx (.var 8) (.var 6)) (fz PyData.int) (m_idx (e := PyData.int) (e_var rfl) (e_var rfl) rfl) fun t12 ht12 =>
  s_asg (φ := (fz PyData.int)) (m_call (eb_cons (e_var rfl) rfl (eb_cons (ht12) rfl (eb_nil) rfl) rfl) (w_inverse v_p t12)) (fun _ => rfl) fun v_over_14 =>
  s_asg (φ := (ol PyData.int)) (m_comp (e := PyData.int) (f := PyData.int) (φ := (fz PyData.int)) (i_ex (e := PyData.int) (e_var rfl) rfl) (fun y15 => ⟨_, rfl, sim_bx (.bin .mul (.var 9) (.var 10)) (fz PyData.int) (m_mul (e_var rfl) (e_var rfl)) fun t16 ht16 => m_mod (ht16) (e_var rfl)⟩) (fun _ => own_v rfl)) (fun _ => rfl) fun v_chosen_19 =>
  s_frz rfl (s_asg (φ := (ol (encL PyData.int))) (m_comp (e := (encL PyData.int)) (f := (encL PyData.int)) (φ := (ol PyData.int)) (i_ex (e := (encL PyData.int)) (e_var rfl) rfl) (fun y20 => ⟨_, rfl, sim_bx (.idx (.var 11) (.var 6)) (fz PyData.int) (m_idx (e := PyData.int) (e_var rfl) (e_var rfl) rfl) fun t21 ht21 => m_call (eb_cons (e_var rfl) rfl (eb_cons (e_var rfl) rfl (eb_cons (e_var rfl) rfl (eb_cons (ht21) rfl (eb_nil) rfl) rfl) rfl) rfl) (w_less v_p y20 v_chosen_19 t21)⟩) (fun _ => own_o rfl rfl)) (fun _ => rfl) fun v_rows_24 =>
  s_norm (env' := [some (RV.fz (PyData.int v_p)), some (RV.fz (PyData.int v_long)), none, some (RV.ol (List.map (encL PyData.int) v_rows_24)), none, some (RV.ol (List.map (encL PyData.int) s5.2)), some (RV.fz (PyData.int x7)), some (RV.fz ((encO PyData.int) v_k_9)), some (RV.fz ((encL PyData.int) v_chosen_19)), some (RV.fz (PyData.int v_over_14)), none, none]) rfl (sms_bx (.comp (.call 2 (.cons (.var 0) (.cons (.var 11) (.cons (.var 8) (.cons (.idx (.var 11) (.var 6)) .nil))))) (.nm 11) (.ex (.var 5)) .emp [11]) (ol (encL PyData.int)) (m_comp (e := (encL PyData.int)) (f := (encL PyData.int)) (φ := (ol PyData.int)) (i_ex (e := (encL PyData.int)) (e_var rfl) rfl) (fun y25 => ⟨_, rfl, sim_bx (.idx (.var 11) (.var 6)) (fz PyData.int) (m_idx (e := PyData.int) (e_var rfl) (e_var rfl) rfl) fun t26 ht26 => m_call (eb_cons (e_var rfl) rfl (eb_cons (e_var rfl) rfl (eb_cons (e_var rfl) rfl (eb_cons (ht26) rfl (eb_nil) rfl) rfl) rfl) rfl) (w_less v_p y25 v_chosen_19 t26)⟩) (fun _ => own_o rfl rfl)) fun t28 ht28 =>
  s_asg (φ := (ol (encL PyData.int))) (m_catL (e := (encL PyData.int)) (ht28) (e_lst (es_cons (e_var rfl) (own_v rfl) (es_nil)) (Nat.le_of_ble_eq_true rfl)) rfl rfl) (fun _ => rfl) fun v_base_30 =>
  s_del (s_del (s_del (s_del (s_nil (s_nil (s_end (Or.inl rfl)))))))))))
  (s_del (s_del (s_nil (s_nil (s_end (Or.inl rfl)))))))⟩) fun s5 =>
  s_ret1 (φ := (ol (encU PyData.int))) (m_comp (e := (encL PyData.int)) (f := (encU PyData.int)) (φ := (fz (encU PyData.int))) (i_ex (e := (encL PyData.int)) (e_var rfl) rfl) (fun y31 => ⟨_, rfl, sim_p (e_tupO (e := PyData.int) (e_var rfl) rfl)⟩) (fun _ => own_v rfl)) (fun _ => rfl)))
end Mn
namespace Mn
open PySem PySem.Spec PyProof.Rows
open L2 (atI ixN cutS)
theorem w_base_of_v3 (v_p : Int) (v_long : Int) (v_loads : List (List Int)) : Sim (s_base_of [PyData.int v_p, PyData.int v_long, (encL (encL PyData.int)) v_loads]) (F_base_of v_p v_long v_loads) (ol (encU PyData.int)) :=
  s_def (φ := (ol (encU PyData.int))) rfl (s_asg (φ := (ol (encL PyData.int))) (m_comp (e := (encL PyData.int)) (f := (encL PyData.int)) (φ := (ol PyData.int)) (i_ex (e := (encL PyData.int)) (e_var rfl) rfl) (fun y1 => ⟨_, rfl, sim_p (e_lisO (e := PyData.int) (e_var rfl) rfl)⟩) (fun _ => own_o rfl rfl)) (fun _ => rfl) fun v_rows_3 =>
  s_asg (φ := (ol (encL PyData.int))) (sim_p (e_lst (es_nil) (Nat.le_of_ble_eq_true rfl))) (fun _ => rfl) fun v_base_4 =>
  s_del (sms_bi (.r1 (.var 1)) (List.map PyData.int) (i_r1 (e_var rfl)) fun r6 hr6 =>
  s_for (e := PyData.int) (σ := List (List Int) × List (List Int)) (E := fun (s5 : List (List Int) × List (List Int)) => [some (RV.fz (PyData.int v_p)), some (RV.fz (PyData.int v_long)), none, some (RV.ol (List.map (encL PyData.int) s5.1)), none, some (RV.ol (List.map (encL PyData.int) s5.2)), none, none, none, none, none, none]) ((v_rows_3, v_base_4)) rfl (sim_p hr6) (rfl) (fun x7 s5 => ⟨_, rfl,
  s_norm (env' := [some (RV.fz (PyData.int v_p)), some (RV.fz (PyData.int v_long)), none, some (RV.ol (List.map (encL PyData.int) s5.1)), none, some (RV.ol (List.map (encL PyData.int) s5.2)), some (RV.fz (PyData.int x7)), none, none, none, none, none]) rfl (s_asg (φ := (fz (encO PyData.int))) (m_callS (eb_cons (e_var rfl) rfl (eb_cons (e_var rfl) rfl (eb_nil) rfl) rfl) (w_first_with s5.1 x7) (flat_O flat_I)) (fun _ => rfl) fun v_k_9 =>
  s_if (e_noNn notN_I (e_var rfl))
  (sms_bx (.var 7) (fz PyData.int) (m_un (e_var rfl)) fun u10 hu10 =>
  s_pop (f := (encL PyData.int)) (by decide) rfl (hu10) fun q11 =>
  s_norm (env' := [some (RV.fz (PyData.int v_p)), some (RV.fz (PyData.int v_long)), none, some (RV.ol (List.map (encL PyData.int) q11.1)), none, some (RV.ol (List.map (encL PyData.int) s5.2)), some (RV.fz (PyData.int x7)), some (RV.fz ((encO PyData.int) v_k_9)), some (RV.fz ((encL PyData.int) q11.2)), none, none, none]) rfl (sms_bx (.idx (.var 8) (.var 6)) (fz PyData.int) (m_idx (e := PyData.int) (e_var rfl) (e_var rfl) rfl) fun t12 ht12 =>
  s_asg (φ := (fz PyData.int)) (m_call (eb_cons (e_var rfl) rfl (eb_cons (ht12) rfl (eb_nil) rfl) rfl) (w_inverse v_p t12)) (fun _ => rfl) fun v_over_14 =>
  s_asg (φ := (ol PyData.int)) (m_comp (e := PyData.int) (f := PyData.int) (φ := (fz PyData.int)) (i_ex (e := PyData.int) (e_var rfl) rfl) (fun y15 => ⟨_, rfl, sim_bx (.bin .mul (.var 9) (.var 10)) (fz PyData.int) (m_mul (e_var rfl) (e_var rfl)) fun t16 ht16 => m_mod (ht16) (e_var rfl)⟩) (fun _ => own_v rfl)) (fun _ => rfl) fun v_chosen_19 =>
  s_frz rfl (s_asg (φ := (ol (encL PyData.int))) (m_comp (e := (encL PyData.int)) (f := (encL PyData.int)) (φ := (ol PyData.int)) (i_ex (e := (encL PyData.int)) (e_var rfl) rfl) (fun y20 => ⟨_, rfl, sim_bx (.idx (.var 11) (.var 6)) (fz PyData.int) (m_idx (e := PyData.int) (e_var rfl) (e_var rfl) rfl) fun t21 ht21 => m_call (eb_cons (e_var rfl) rfl (eb_cons (e_var rfl) rfl (eb_cons (e_var rfl) rfl (eb_cons (ht21) rfl (eb_nil) rfl) rfl) rfl) rfl) (w_less v_p y20 v_chosen_19 t21)⟩) (fun _ => own_o rfl rfl)) (fun _ => rfl) fun v_rows_24 =>
  s_norm (env' := [some (RV.fz (PyData.int v_p)), some (RV.fz (PyData.int v_long)), none, some (RV.ol (List.map (encL PyData.int) v_rows_24)), none, some (RV.ol (List.map (encL PyData.int) s5.2)), some (RV.fz (PyData.int x7)), some (RV.fz ((encO PyData.int) v_k_9)), some (RV.fz ((encL PyData.int) v_chosen_19)), some (RV.fz (PyData.int v_over_14)), none, none]) rfl (sms_bx (.comp (.call 2 (.cons (.var 0) (.cons (.var 11) (.cons (.var 8) (.cons (.idx (.var 11) (.var 6)) .nil))))) (.nm 11) (.ex (.var 5)) .emp [11]) (ol (encL PyData.int)) (m_comp (e := (encL PyData.int)) (f := (encL PyData.int)) (φ := (ol PyData.int)) (i_ex (e := (encL PyData.int)) (e_var rfl) rfl) (fun y25 => ⟨_, rfl, sim_bx (.idx (.var 11) (.var 6)) (fz PyData.int) (m_idx (e := PyData.int) (e_var rfl) (e_var rfl) rfl) fun t26 ht26 => m_call (eb_cons (e_var rfl) rfl (eb_cons (e_var rfl) rfl (eb_cons (e_var rfl) rfl (eb_cons (ht26) rfl (eb_nil) rfl) rfl) rfl) rfl) (w_less v_p y25 v_chosen_19 t26)⟩) (fun _ => own_o rfl rfl)) fun t28 ht28 =>
  s_asg (φ := (ol (encL PyData.int))) (m_catL (e := (encL PyData.int)) (ht28) (e_lst (es_cons (e_var rfl) (own_v rfl) (es_nil)) (Nat.le_of_ble_eq_true rfl)) rfl rfl) (fun _ => rfl) fun v_base_30 =>
  s_del (s_del (s_del (s_del (s_nil (s_nil (s_end (Or.inl rfl)))))))))))
  (s_del (s_del (s_nil (s_nil (s_end (Or.inl rfl)))))))⟩) fun s5 =>
  s_ret1 (φ := (ol (encU PyData.int))) (m_comp (e := (encL PyData.int)) (f := (encU PyData.int)) (φ := (fz (encU PyData.int))) (i_ex (e := (encL PyData.int)) (e_var rfl) rfl) (fun y31 => ⟨_, rfl, sim_p (e_tupO (e := PyData.int) (e_var rfl) rfl)⟩) (fun _ => own_v rfl)) (fun _ => rfl)))
end Mn
namespace Mn
open PySem PySem.Spec PyProof.Rows
open L2 (atI ixN cutS)
theorem w_lead_of (v_load : List Int) : Sim (s_lead_of [(encU PyData.int) v_load]) (F_lead_of v_load) (fz PyData.int) :=
  s_def (φ := (fz PyData.int)) rfl (s_forL (e := (encP2 PyData.int PyData.int)) (σ := Unit) (ρ := Int) (E := fun (s1 : Unit) => [some (RV.fz ((encU PyData.int) v_load)), none, none]) (φ := (fz PyData.int)) (mk := (fun v => v)) (()) rfl (i_en (e := PyData.int) (e_var rfl) rfl) (b_en (bo_v (e_var rfl))) (fun x2 s1 => ⟨_, rfl,
  s_if (e_neI (e_var rfl) (e_int _))
  (s_ret (φ := (fz PyData.int)) (mk := Lp.rt) (sim_p (e_var rfl)) (fun _ => rfl))
  (s_nil (s_del (s_del (s_nil (s_end (Or.inl rfl))))))⟩) (fun _ => rfl) fun s1 =>
  s_ret1 (φ := (fz PyData.int)) (sim_p (e_len (e := PyData.int) (e_var rfl) rfl)) (fun _ => rfl))
end Mn
namespace Mn
open PySem PySem.Spec PyProof.Rows
open L2 (atI ixN cutS)
theorem w_kernel (v_p : Int) (v_table : Int × Int × List (List Int)) : Sim (s_kernel [PyData.int v_p, (encP3 PyData.int PyData.int (encU (encU PyData.int))) v_table]) (F_kernel v_p v_table) (ol (encU PyData.int)) :=
  s_def (φ := (ol (encU PyData.int))) rfl (s_asg (φ := (fz PyData.int)) (sim_p (e_idxP (e_var rfl) (e_int _) rfl rfl)) (fun _ => rfl) fun v_wide_1 =>
  s_asg (φ := (ol (encU PyData.int))) (m_call (eb_cons (e_var rfl) rfl (eb_cons (e_var rfl) rfl (eb_cons (e_idxP (e_var rfl) (e_int _) rfl rfl) rfl (eb_nil) rfl) rfl) rfl) (w_base_of_v2 v_p v_wide_1 v_table.2.2)) (fun _ => rfl) fun v_base_3 =>
  s_asg (φ := (ol PyData.int)) (m_comp (e := (encU PyData.int)) (f := PyData.int) (φ := (fz PyData.int)) (i_ex (e := (encU PyData.int)) (e_var rfl) rfl) (fun y4 => ⟨_, rfl, m_call (eb_cons (e_var rfl) rfl (eb_nil) rfl) (w_lead_of y4)⟩) (fun _ => own_v rfl)) (fun _ => rfl) fun v_leads_7 =>
  s_norm (env' := [some (RV.fz (PyData.int v_p)), some (RV.fz ((encP3 PyData.int PyData.int (encU (encU PyData.int))) v_table)), some (RV.fz (PyData.int v_wide_1)), some (RV.ol (List.map (encU PyData.int) v_base_3)), some (RV.ol (List.map PyData.int v_leads_7)), none, none, none, none, none, none]) rfl (s_asg (φ := (ol (encL PyData.int))) (sim_p (e_lst (es_nil) (Nat.le_of_ble_eq_true rfl))) (fun _ => rfl) fun v_loads_8 =>
  s_del (s_frz rfl (s_frz rfl (sms_bi (.r1 (.var 2)) (List.map PyData.int) (i_r1 (e_var rfl)) fun r10 hr10 =>
  s_for (e := PyData.int) (σ := List (List Int)) (E := fun (s9 : List (List Int)) => [some (RV.fz (PyData.int v_p)), none, some (RV.fz (PyData.int v_wide_1)), some (RV.fz ((encL (encU PyData.int)) v_base_3)), some (RV.fz ((encL PyData.int) v_leads_7)), none, some (RV.ol (List.map (encL PyData.int) s9)), none, none, none, none]) v_loads_8 rfl (sim_p hr10) (rfl) (fun x11 s9 => ⟨_, rfl,
  s_if (e_ninL good_I (by decide) (e_var rfl) (e_var rfl) rfl rfl)
  (s_norm (env' := [some (RV.fz (PyData.int v_p)), none, some (RV.fz (PyData.int v_wide_1)), some (RV.fz ((encL (encU PyData.int)) v_base_3)), some (RV.fz ((encL PyData.int) v_leads_7)), none, some (RV.ol (List.map (encL PyData.int) s9)), some (RV.fz (PyData.int x11)), none, none, none]) rfl (sms_bi (.r1 (.var 2)) (List.map PyData.int) (i_r1 (e_var rfl)) fun r12 hr12 =>
  s_asg (φ := (ol PyData.int)) (m_comp (e := PyData.int) (f := PyData.int) (φ := (fz PyData.int)) (sim_p hr12) (fun y13 => ⟨_, rfl, sim_p (e_intB (e_eqI (e_var rfl) (e_var rfl)))⟩) (fun _ => own_v rfl)) (fun _ => rfl) fun v_load_15 =>
  s_for (e := (encP2 (encU PyData.int) PyData.int)) (σ := List Int) (E := fun (s16 : List Int) => [some (RV.fz (PyData.int v_p)), none, some (RV.fz (PyData.int v_wide_1)), some (RV.fz ((encL (encU PyData.int)) v_base_3)), some (RV.fz ((encL PyData.int) v_leads_7)), none, some (RV.ol (List.map (encL PyData.int) s9)), some (RV.fz (PyData.int x11)), some (RV.ol (List.map PyData.int s16)), none, none]) v_load_15 rfl (i_zip (e := (encU PyData.int)) (f := PyData.int) (e_var rfl) (e_var rfl) rfl rfl) (b_zip (bo_v (e_var rfl)) (bo_v (e_var rfl))) (fun x17 s16 => ⟨_, rfl,
  sms_bx (.idx (.var 5) (.var 7)) (fz PyData.int) (m_idx (e := PyData.int) (e_var rfl) (e_var rfl) rfl) fun t18 ht18 =>
  sms_bx (.bin .mod (.bin .sub (.int 0) (.idx (.var 5) (.var 7))) (.var 0)) (fz PyData.int) (m_mod (e_sub (e_int _) (ht18)) (e_var rfl)) fun t19 ht19 =>
  s_sti (f := PyData.int) rfl (ht19) (own_v rfl) (e_var rfl) fun v_load_20 =>
  s_del (s_del (s_nil (s_end (Or.inl rfl))))⟩) fun s16 =>
  s_frz rfl (s_norm (env' := [some (RV.fz (PyData.int v_p)), none, some (RV.fz (PyData.int v_wide_1)), some (RV.fz ((encL (encU PyData.int)) v_base_3)), some (RV.fz ((encL PyData.int) v_leads_7)), none, some (RV.ol (List.map (encL PyData.int) s9)), some (RV.fz (PyData.int x11)), some (RV.fz ((encL PyData.int) s16)), none, none]) rfl (s_app (f := (encL PyData.int)) rfl (e_var rfl) (own_v rfl) fun v_loads_21 =>
  s_del (s_del (s_nil (s_nil (s_end (Or.inl rfl)))))))))
  (s_del (s_nil (s_nil (s_end (Or.inl rfl)))))⟩) fun s9 =>
  s_frz rfl (s_ret1 (φ := (ol (encU PyData.int))) (m_call (eb_cons (e_var rfl) rfl (eb_cons (e_var rfl) rfl (eb_cons (e_var rfl) rfl (eb_nil) rfl) rfl) rfl) (w_base_of_v3 v_p v_wide_1 s9)) (fun _ => rfl)))))))
end Mn
namespace Mn
open PySem PySem.Spec PyProof.Rows
open L2 (atI ixN cutS)
theorem w_leading_to (v_p : Int) (v_table : Int × Int × List (List Int)) (v_base : List (List Int)) : Sim (s_leading_to [PyData.int v_p, (encP3 PyData.int PyData.int (encU (encU PyData.int))) v_table, (encL (encU PyData.int)) v_base]) (F_leading_to v_p v_table v_base) (ol (encU PyData.int)) :=
  s_def (φ := (ol (encU PyData.int))) rfl (sms_bx (.call 1 (.cons (.var 0) (.cons (.var 1) (.cons (.var 2) .nil)))) (fz (encP3 PyData.int PyData.int (encU (encU PyData.int)))) (m_call (eb_cons (e_var rfl) rfl (eb_cons (e_var rfl) rfl (eb_cons (e_var rfl) rfl (eb_nil) rfl) rfl) rfl) (w_joined_table v_p v_table v_base)) fun t1 ht1 =>
  s_asg (φ := (ol (encU PyData.int))) (m_call (eb_cons (e_var rfl) rfl (eb_cons (ht1) rfl (eb_nil) rfl) rfl) (w_kernel v_p t1)) (fun _ => rfl) fun v_found_3 =>
  sms_bx (.comp (.slc (.var 4) (.one (.bi .len (.cons (.var 2) .nil))) .emp) (.nm 4) (.ex (.var 3)) .emp [4]) (ol (encU PyData.int)) (m_comp (e := (encU PyData.int)) (f := (encU PyData.int)) (φ := (fz (encU PyData.int))) (i_ex (e := (encU PyData.int)) (e_var rfl) rfl) (fun y4 => ⟨_, rfl, sim_p (e_slcU (e := PyData.int) (e_var rfl) (o_one (e_len (e := (encU PyData.int)) (e_var rfl) rfl)) (o_emp))⟩) (fun _ => own_v rfl)) fun t5 ht5 =>
  s_ret1 (φ := (ol (encU PyData.int))) (m_call (eb_cons (e_var rfl) rfl (eb_cons (e_idxP (e_var rfl) (e_int _) rfl rfl) rfl (eb_cons (ht5) rfl (eb_nil) rfl) rfl) rfl) (w_base_of v_p v_table.2.1 t5)) (fun _ => rfl))
end Mn
namespace Mn
open PySem PySem.Spec PyProof.Rows
open L2 (atI ixN cutS)
theorem w_Arrow_against (v_self : Arr) (v_base : List (List Int)) : Sim (s_Arrow_against [encArr v_self, (encL (encU PyData.int)) v_base]) (F_Arrow_against v_self v_base) (ol (encU PyData.int)) :=
  s_def (φ := (ol (encU PyData.int))) rfl (s_ret1 (φ := (ol (encU PyData.int))) (m_call (eb_cons (e_prime (x := v_self) (e_var rfl) rfl) rfl (eb_cons (e_table (x := v_self) (e_var rfl) rfl) rfl (eb_cons (e_var rfl) rfl (eb_nil) rfl) rfl) rfl) (w_leading_to v_self.2.1 v_self.2.2 v_base)) (fun _ => rfl))
end Mn
namespace Mn
open PySem PySem.Spec PyProof.Rows
open L2 (atI ixN cutS)
theorem w_Left_forth (v_self : Arr) (v_base : List (List Int)) : Sim (s_Left_forth [encArr v_self, (encL (encU PyData.int)) v_base]) (F_Left_forth v_self v_base) (ol (encU PyData.int)) :=
  s_def (φ := (ol (encU PyData.int))) rfl (s_ret1 (φ := (ol (encU PyData.int))) (m_mtj1 (e_var rfl) (es_cons (e_var rfl) (own_v rfl) (es_nil)) (by decide +kernel) rfl rfl (w_Arrow_against v_self v_base)) (fun _ => rfl))
end Mn
namespace Mn
open PySem PySem.Spec PyProof.Rows
open L2 (atI ixN cutS)
theorem w_summed (v_p : Int) (v_row : List Int) (v_load : List Int) : Sim (s_summed [PyData.int v_p, (encU PyData.int) v_row, (encU PyData.int) v_load]) (F_summed v_p v_row v_load) (fz PyData.int) :=
  s_def (φ := (fz PyData.int)) rfl (sms_bx (.comp (.bin .mul (.var 3) (.var 4)) (.tp [3, 4]) (.zip (.var 1) (.var 2)) .emp [3, 4]) (ol PyData.int) (m_comp (e := (encP2 PyData.int PyData.int)) (f := PyData.int) (φ := (fz PyData.int)) (i_zip (e := PyData.int) (f := PyData.int) (e_var rfl) (e_var rfl) rfl rfl) (fun y1 => ⟨_, rfl, m_mul (e_var rfl) (e_var rfl)⟩) (fun _ => own_v rfl)) fun t3 ht3 =>
  s_ret1 (φ := (fz PyData.int)) (m_mod (e_sum (ht3) rfl) (e_var rfl)) (fun _ => rfl))
end Mn
namespace Mn
open PySem PySem.Spec PyProof.Rows
open L2 (atI ixN cutS)
theorem w_led (v_p : Int) (v_table : Int × Int × List (List Int)) (v_load : List Int) : Sim (s_led [PyData.int v_p, (encP3 PyData.int PyData.int (encU (encU PyData.int))) v_table, (encU PyData.int) v_load]) (F_led v_p v_table v_load) (fz (encU PyData.int)) :=
  s_def (φ := (fz (encU PyData.int))) rfl (sms_bx (.comp (.call 0 (.cons (.var 0) (.cons (.var 3) (.cons (.var 2) .nil)))) (.nm 3) (.ex (.idx (.var 1) (.int 2))) .emp [3]) (ol PyData.int) (m_comp (e := (encU PyData.int)) (f := PyData.int) (φ := (fz PyData.int)) (i_ex (e := (encU PyData.int)) (e_idxP (e_var rfl) (e_int _) rfl rfl) rfl) (fun y1 => ⟨_, rfl, m_call (eb_cons (e_var rfl) rfl (eb_cons (e_var rfl) rfl (eb_cons (e_var rfl) rfl (eb_nil) rfl) rfl) rfl) (w_summed v_p y1 v_load)⟩) (fun _ => own_v rfl)) fun t3 ht3 =>
  s_ret1 (φ := (fz (encU PyData.int))) (sim_p (e_tupO (e := PyData.int) (ht3) rfl)) (fun _ => rfl))
end Mn
namespace Mn
open PySem PySem.Spec PyProof.Rows
open L2 (atI ixN cutS)
theorem w_pressed (v_p : Int) (v_table : Int × Int × List (List Int)) (v_base : List (List Int)) : Sim (s_pressed [PyData.int v_p, (encP3 PyData.int PyData.int (encU (encU PyData.int))) v_table, (encL (encU PyData.int)) v_base]) (F_pressed v_p v_table v_base) (ol (encU PyData.int)) :=
  s_def (φ := (ol (encU PyData.int))) rfl (sms_bx (.comp (.call 1 (.cons (.var 0) (.cons (.var 1) (.cons (.var 3) .nil)))) (.nm 3) (.ex (.var 2)) .emp [3]) (ol (encU PyData.int)) (m_comp (e := (encU PyData.int)) (f := (encU PyData.int)) (φ := (fz (encU PyData.int))) (i_ex (e := (encU PyData.int)) (e_var rfl) rfl) (fun y1 => ⟨_, rfl, m_call (eb_cons (e_var rfl) rfl (eb_cons (e_var rfl) rfl (eb_cons (e_var rfl) rfl (eb_nil) rfl) rfl) rfl) (w_led v_p v_table y1)⟩) (fun _ => own_v rfl)) fun t3 ht3 =>
  s_ret1 (φ := (ol (encU PyData.int))) (m_call (eb_cons (e_var rfl) rfl (eb_cons (e_idxP (e_var rfl) (e_int _) rfl rfl) rfl (eb_cons (ht3) rfl (eb_nil) rfl) rfl) rfl) (w_base_of v_p v_table.1 t3)) (fun _ => rfl))
end Mn
namespace Mn
open PySem PySem.Spec PyProof.Rows
open L2 (atI ixN cutS)
theorem w_Arrow_along (v_self : Arr) (v_base : List (List Int)) : Sim (s_Arrow_along [encArr v_self, (encL (encU PyData.int)) v_base]) (F_Arrow_along v_self v_base) (ol (encU PyData.int)) :=
  s_def (φ := (ol (encU PyData.int))) rfl (s_ret1 (φ := (ol (encU PyData.int))) (m_call (eb_cons (e_prime (x := v_self) (e_var rfl) rfl) rfl (eb_cons (e_table (x := v_self) (e_var rfl) rfl) rfl (eb_cons (e_var rfl) rfl (eb_nil) rfl) rfl) rfl) (w_pressed v_self.2.1 v_self.2.2 v_base)) (fun _ => rfl))
end Mn
namespace Mn
open PySem PySem.Spec PyProof.Rows
open L2 (atI ixN cutS)
theorem w_Right_forth (v_self : Arr) (v_base : List (List Int)) : Sim (s_Right_forth [encArr v_self, (encL (encU PyData.int)) v_base]) (F_Right_forth v_self v_base) (ol (encU PyData.int)) :=
  s_def (φ := (ol (encU PyData.int))) rfl (s_ret1 (φ := (ol (encU PyData.int))) (m_mtj1 (e_var rfl) (es_cons (e_var rfl) (own_v rfl) (es_nil)) (by decide +kernel) rfl rfl (w_Arrow_along v_self v_base)) (fun _ => rfl))
end Mn
namespace Mn
open PySem PySem.Spec PyProof.Rows
open L2 (atI ixN cutS)
theorem w_law_all (v_p : Int) (v_long : Int) : Sim (s_law_all [PyData.int v_p, PyData.int v_long]) (F_law_all v_p v_long) (fz (encL (encU PyData.int))) :=
  s_def (φ := (fz (encL (encU PyData.int)))) rfl (s_asg (φ := (ol (encU PyData.int))) (sim_p (e_lst (es_cons (e_tup (es_nil) (Nat.le_of_ble_eq_true rfl)) (own_v rfl) (es_nil)) (Nat.le_of_ble_eq_true rfl))) (fun _ => rfl) fun v_loads_1 =>
  s_frz rfl (sms_bi (.r1 (.var 1)) (List.map PyData.int) (i_r1 (e_var rfl)) fun r3 hr3 =>
  s_for (e := PyData.int) (σ := List (List Int)) (E := fun (s2 : List (List Int)) => [some (RV.fz (PyData.int v_p)), some (RV.fz (PyData.int v_long)), some (RV.fz ((encL (encU PyData.int)) s2)), none, none, none, none]) v_loads_1 rfl (sim_p hr3) (rfl) (fun x4 s2 => ⟨_, rfl,
  s_asg (φ := (ol (encU PyData.int))) (sim_p (e_lst (es_nil) (Nat.le_of_ble_eq_true rfl))) (fun _ => rfl) fun v_more_5 =>
  s_del (s_for (e := (encU PyData.int)) (σ := List (List Int)) (E := fun (s6 : List (List Int)) => [some (RV.fz (PyData.int v_p)), some (RV.fz (PyData.int v_long)), some (RV.fz ((encL (encU PyData.int)) s2)), none, some (RV.ol (List.map (encU PyData.int) s6)), none, none]) v_more_5 rfl (i_ex (e := (encU PyData.int)) (e_var rfl) rfl) (b_ex (bo_v (e_var rfl))) (fun x7 s6 => ⟨_, rfl,
  sms_bi (.r1 (.var 0)) (List.map PyData.int) (i_r1 (e_var rfl)) fun r9 hr9 =>
  sms_bx (.comp (.bin .add (.var 5) (.tup (.cons (.var 6) .nil))) (.nm 6) (.r1 (.var 0)) .emp [6]) (ol (encU PyData.int)) (m_comp (e := PyData.int) (f := (encU PyData.int)) (φ := (fz (encU PyData.int))) (sim_p hr9) (fun y10 => ⟨_, rfl, m_catU (e := PyData.int) (e_var rfl) (e_tup (es_cons (e_var rfl) (own_v rfl) (es_nil)) (Nat.le_of_ble_eq_true rfl))⟩) (fun _ => own_v rfl)) fun t12 ht12 =>
  s_ext (f := (encU PyData.int)) rfl (ht12) rfl fun v_more_8 =>
  s_del (s_nil (s_end (Or.inl rfl)))⟩) fun s6 =>
  s_frz rfl (s_asg (φ := (fz (encL (encU PyData.int)))) (sim_p (e_var rfl)) (fun _ => rfl) fun v_loads_13 =>
  s_del (s_nil (s_end (Or.inl rfl)))))⟩) fun s2 =>
  s_ret1 (φ := (fz (encL (encU PyData.int)))) (sim_p (e_var rfl)) (fun _ => rfl)))
end Mn
namespace Mn
open PySem PySem.Spec PyProof.Rows
open L2 (atI ixN cutS)
theorem w_law_led_v2_v2 (v_p : Int) (v_rows_here : List (List Int)) (v_load : List Int) : Sim (s_law_led_v2 [PyData.int v_p, (encU (encU PyData.int)) v_rows_here, (encU PyData.int) v_load]) (F_law_led_v2_v2 v_p v_rows_here v_load) (fz (encU PyData.int)) :=
  s_def (φ := (fz (encU PyData.int))) rfl (sms_bx (.comp (.bin .mod (.bi .sum (.cons (.comp (.bin .mul (.var 4) (.var 5)) (.tp [4, 5]) (.zip (.var 3) (.var 2)) .emp [4, 5]) .nil)) (.var 0)) (.nm 3) (.ex (.var 1)) .emp [3]) (ol PyData.int) (m_comp (e := (encU PyData.int)) (f := PyData.int) (φ := (fz PyData.int)) (i_ex (e := (encU PyData.int)) (e_var rfl) rfl) (fun y1 => ⟨_, rfl, sim_bx (.comp (.bin .mul (.var 4) (.var 5)) (.tp [4, 5]) (.zip (.var 3) (.var 2)) .emp [4, 5]) (ol PyData.int) (m_comp (e := (encP2 PyData.int PyData.int)) (f := PyData.int) (φ := (fz PyData.int)) (i_zip (e := PyData.int) (f := PyData.int) (e_var rfl) (e_var rfl) rfl rfl) (fun y2 => ⟨_, rfl, m_mul (e_var rfl) (e_var rfl)⟩) (fun _ => own_v rfl)) fun t4 ht4 => m_mod (e_sum (ht4) rfl) (e_var rfl)⟩) (fun _ => own_v rfl)) fun t6 ht6 =>
  s_ret1 (φ := (fz (encU PyData.int))) (sim_p (e_tupO (e := PyData.int) (ht6) rfl)) (fun _ => rfl))
end Mn
namespace Mn
open PySem PySem.Spec PyProof.Rows
open L2 (atI ixN cutS)
theorem w_law_span (v_p : Int) (v_long : Int) (v_base_here : List (List Int)) : Sim (s_law_span [PyData.int v_p, PyData.int v_long, (encL (encU PyData.int)) v_base_here]) (F_law_span v_p v_long v_base_here) (odv (dtR kU PyData.bool)) :=
  s_def (φ := (odv (dtR kU PyData.bool))) rfl (sms_bi (.r1 (.var 1)) (List.map PyData.int) (i_r1 (e_var rfl)) fun r1 hr1 =>
  sms_bx (.comp (.int 0) (.nm 4) (.r1 (.var 1)) .emp [4]) (ol PyData.int) (m_comp (e := PyData.int) (f := PyData.int) (φ := (fz PyData.int)) (sim_p hr1) (fun y2 => ⟨_, rfl, sim_p (e_int _)⟩) (fun _ => own_v rfl)) fun t3 ht3 =>
  s_asg (φ := (odv (dtR kU PyData.bool))) (sim_p (e_dT1 kU PyData.bool (e_tupO (e := PyData.int) (ht3) rfl) (own_v rfl) (e_bl _) (own_v rfl))) (fun _ => rfl) fun v_span_here_4 =>
  s_del (s_for (e := (encU PyData.int)) (σ := List (List Int × Bool)) (E := fun (s5 : List (List Int × Bool)) => [some (RV.fz (PyData.int v_p)), none, some (RV.fz ((encL (encU PyData.int)) v_base_here)), some (RV.od ((dtR kU PyData.bool) s5)), none, none, none, none, none, none]) v_span_here_4 rfl (i_ex (e := (encU PyData.int)) (e_var rfl) rfl) (b_ex (bo_v (e_var rfl))) (fun x6 s5 => ⟨_, rfl,
  s_for (e := (encU PyData.int)) (σ := List (List Int × Bool)) (E := fun (s7 : List (List Int × Bool)) => [some (RV.fz (PyData.int v_p)), none, some (RV.fz ((encL (encU PyData.int)) v_base_here)), some (RV.od ((dtR kU PyData.bool) s7)), none, some (RV.fz ((encU PyData.int) x6)), none, none, none, none]) s5 rfl (i_ex (e := (encU PyData.int)) (e_lisD (keyR_U PyData.bool) (e_var rfl) rfl) rfl) (b_ex (bo_n rfl)) (fun x8 s7 => ⟨_, rfl,
  sms_bi (.r2 (.int 1) (.var 0)) (List.map PyData.int) (i_r2 (e_int _) (e_var rfl)) fun r10 hr10 =>
  s_for (e := PyData.int) (σ := List (List Int × Bool)) (E := fun (s9 : List (List Int × Bool)) => [some (RV.fz (PyData.int v_p)), none, some (RV.fz ((encL (encU PyData.int)) v_base_here)), some (RV.od ((dtR kU PyData.bool) s9)), none, some (RV.fz ((encU PyData.int) x6)), some (RV.fz ((encU PyData.int) x8)), none, none, none]) s7 rfl (sim_p hr10) (rfl) (fun x11 s9 => ⟨_, rfl,
  sms_bx (.comp (.bin .mod (.bin .add (.var 8) (.bin .mul (.var 7) (.var 9))) (.var 0)) (.tp [8, 9]) (.zip (.var 6) (.var 5)) .emp [8, 9]) (ol PyData.int) (m_comp (e := (encP2 PyData.int PyData.int)) (f := PyData.int) (φ := (fz PyData.int)) (i_zip (e := PyData.int) (f := PyData.int) (e_var rfl) (e_var rfl) rfl rfl) (fun y12 => ⟨_, rfl, sim_bx (.bin .mul (.var 7) (.var 9)) (fz PyData.int) (m_mul (e_var rfl) (e_var rfl)) fun t13 ht13 => m_mod (e_add (e_var rfl) (ht13)) (e_var rfl)⟩) (fun _ => own_v rfl)) fun t15 ht15 =>
  s_stk (keyR_U PyData.bool) rfl (e_bl _) (own_v rfl) (e_tupO (e := PyData.int) (ht15) rfl) (dtR_len _) fun v_span_here_16 =>
  s_del (s_nil (s_end (Or.inl rfl)))⟩) fun s9 =>
  s_del (s_nil (s_end (Or.inl rfl)))⟩) fun s7 =>
  s_del (s_nil (s_end (Or.inl rfl)))⟩) fun s5 =>
  s_ret1 (φ := (odv (dtR kU PyData.bool))) (sim_p (e_var rfl)) (fun _ => rfl)))
end Mn
namespace Mn
open PySem PySem.Spec PyProof.Rows
open L2 (atI ixN cutS)
theorem w_law_due_v10 (v_p : Int) (v_table_here : Int × Int × List (List Int)) (v_base_here : List (List Int)) (v_along : Bool) : Sim (s_law_due_v10 [PyData.int v_p, (encP3 PyData.int PyData.int (encU (encU PyData.int))) v_table_here, (encL (encU PyData.int)) v_base_here, PyData.bool v_along]) (F_law_due_v10 v_p v_table_here v_base_here v_along) (ol (encU PyData.int)) :=
  s_def (φ := (ol (encU PyData.int))) rfl (s_unp (e_var rfl) (own_v rfl) rfl
  (s_if (e_var rfl)
  (sms_bx (.comp (.call 1 (.cons (.var 0) (.cons (.var 6) (.cons (.var 7) .nil)))) (.nm 7) (.ex (.var 2)) .emp [7]) (ol (encU PyData.int)) (m_comp (e := (encU PyData.int)) (f := (encU PyData.int)) (φ := (fz (encU PyData.int))) (i_ex (e := (encU PyData.int)) (e_var rfl) rfl) (fun y1 => ⟨_, rfl, m_call (eb_cons (e_var rfl) rfl (eb_cons (e_var rfl) rfl (eb_cons (e_var rfl) rfl (eb_nil) rfl) rfl) rfl) (w_law_led_v2_v2 v_p v_table_here.2.2 y1)⟩) (fun _ => own_v rfl)) fun t3 ht3 =>
  s_ret1 (φ := (ol (encU PyData.int))) (m_call (eb_cons (e_var rfl) rfl (eb_cons (e_var rfl) rfl (eb_cons (ht3) rfl (eb_nil) rfl) rfl) rfl) (w_law_base_v2_v2 v_p v_table_here.1 t3)) (fun _ => rfl))
  (s_nil (s_asg (φ := (odv (dtR kU PyData.bool))) (m_call (eb_cons (e_var rfl) rfl (eb_cons (e_var rfl) rfl (eb_cons (e_var rfl) rfl (eb_nil) rfl) rfl) rfl) (w_law_span v_p v_table_here.1 v_base_here)) (fun _ => rfl) fun v_span_here_6 =>
  sms_bx (.call 3 (.cons (.var 0) (.cons (.var 5) .nil))) (fz (encL (encU PyData.int))) (m_call (eb_cons (e_var rfl) rfl (eb_cons (e_var rfl) rfl (eb_nil) rfl) rfl) (w_law_all v_p v_table_here.2.1)) fun t7 ht7 =>
  sms_bx (.comp (.var 7) (.nm 7) (.ex (.call 3 (.cons (.var 0) (.cons (.var 5) .nil)))) (.one (.cmp .inn (.call 1 (.cons (.var 0) (.cons (.var 6) (.cons (.var 7) .nil)))) (.var 8))) [7]) (ol (encU PyData.int)) (m_compT (e := (encU PyData.int)) (f := (encU PyData.int)) (φ := (fz (encU PyData.int))) (i_ex (e := (encU PyData.int)) (ht7) rfl) (fun y8 => ⟨_, rfl, sim_bx (.call 1 (.cons (.var 0) (.cons (.var 6) (.cons (.var 7) .nil)))) (fz (encU PyData.int)) (m_call (eb_cons (e_var rfl) rfl (eb_cons (e_var rfl) rfl (eb_cons (e_var rfl) rfl (eb_nil) rfl) rfl) rfl) (w_law_led_v2_v2 v_p v_table_here.2.2 y8)) fun t9 ht9 => sim_p (e_din (keyR_U PyData.bool) (e_var rfl) (ht9) rfl), sim_p (e_var rfl)⟩) (fun _ => own_v rfl)) fun t10 ht10 =>
  s_ret1 (φ := (ol (encU PyData.int))) (m_call (eb_cons (e_var rfl) rfl (eb_cons (e_var rfl) rfl (eb_cons (ht10) rfl (eb_nil) rfl) rfl) rfl) (w_law_base_v2_v2 v_p v_table_here.2.1 t10)) (fun _ => rfl)))))
end Mn
namespace Mn
open PySem PySem.Spec PyProof.Rows
open L2 (atI ixN cutS)
theorem w_law_whole (v_found : Int) : Sim (s_law_whole [PyData.int v_found]) (F_law_whole v_found) (fz PyData.bool) :=
  s_def (φ := (fz PyData.bool)) rfl (s_ret1 (φ := (fz PyData.bool)) (sim_p (e_and (e_isI (e_var rfl) rfl rfl) (e_one (e_not (e_isI (e_var rfl) rfl rfl))))) (fun _ => rfl))
end Mn
namespace Mn
open PySem PySem.Spec PyProof.Rows
open L2 (atI ixN cutS)
theorem w_law_is_base_v2 (v_found : List (List Int)) (v_due_here : List (List Int)) : Sim (s_law_is_base_v2 [(encL (encU PyData.int)) v_found, (encL (encU PyData.int)) v_due_here]) (F_law_is_base_v2 v_found v_due_here) (fz PyData.bool) :=
  s_def (φ := (fz PyData.bool)) rfl (s_if (e_or (e_not (e_isI (e_var rfl) rfl rfl)) (e_one (e_neI (e_len (e := (encU PyData.int)) (e_var rfl) rfl) (e_len (e := (encU PyData.int)) (e_var rfl) rfl))))
  (s_ret1 (φ := (fz PyData.bool)) (sim_p (e_bl _)) (fun _ => rfl))
  (s_nil (s_forL (e := (encP2 (encU PyData.int) (encU PyData.int))) (σ := Unit) (ρ := Bool) (E := fun (s1 : Unit) => [some (RV.fz ((encL (encU PyData.int)) v_found)), some (RV.fz ((encL (encU PyData.int)) v_due_here)), none, none, none]) (φ := (fz PyData.bool)) (mk := (fun v => v)) (()) rfl (i_zip (e := (encU PyData.int)) (f := (encU PyData.int)) (e_var rfl) (e_var rfl) rfl rfl) (b_zip (bo_v (e_var rfl)) (bo_v (e_var rfl))) (fun x2 s1 => ⟨_, rfl,
  sms_bx (.or (.not (.bi (.isI .tuple) (.cons (.var 2) .nil))) (.or (.not (.bi .all (.cons (.comp (.call 0 (.cons (.var 4) .nil)) (.nm 4) (.ex (.var 2)) .emp [4]) .nil))) (.one (.cmp .ne (.var 2) (.var 3))))) (fz PyData.bool) (m_or (e_not (e_isI (e_var rfl) rfl rfl)) (sim_bx (.comp (.call 0 (.cons (.var 4) .nil)) (.nm 4) (.ex (.var 2)) .emp [4]) (ol PyData.bool) (m_comp (e := PyData.int) (f := PyData.bool) (φ := (fz PyData.bool)) (i_ex (e := PyData.int) (e_var rfl) rfl) (fun y3 => ⟨_, rfl, m_call (eb_cons (e_var rfl) rfl (eb_nil) rfl) (w_law_whole y3)⟩) (fun _ => own_v rfl)) fun t5 ht5 => sim_p (e_or (e_not (e_all (ht5) rfl)) (e_one (e_nev (good_U good_I) (by decide) (e_var rfl) (e_var rfl) rfl rfl))))) fun t6 ht6 =>
  s_if (ht6)
  (s_ret (φ := (fz PyData.bool)) (mk := Lp.rt) (sim_p (e_bl _)) (fun _ => rfl))
  (s_nil (s_del (s_del (s_nil (s_end (Or.inl rfl))))))⟩) (fun _ => rfl) fun s1 =>
  s_ret1 (φ := (fz PyData.bool)) (sim_p (e_bl _)) (fun _ => rfl))))
end Mn
namespace Mn
open PySem PySem.Spec PyProof.Rows
open L2 (atI ixN cutS)
theorem w_law_right_v11 (v_arrow : Arr) (v_p : Int) (v_table_here : Int × Int × List (List Int)) (v_right_here : Bool) (v_left_base : List (List Int)) (v_right_base : List (List Int)) : Sim (s_law_right_v11 [encArr v_arrow, PyData.int v_p, (encP3 PyData.int PyData.int (encU (encU PyData.int))) v_table_here, PyData.bool v_right_here, (encL (encU PyData.int)) v_left_base, (encL (encU PyData.int)) v_right_base]) (F_law_right_v11 v_arrow v_p v_table_here v_right_here v_left_base v_right_base) (fz PyData.bool) :=
  s_def (φ := (fz PyData.bool)) rfl (s_asg (φ := (ol (encU PyData.int))) (sim_p (e_lisO (e := (encU PyData.int)) (e_var rfl) rfl)) (fun _ => rfl) fun v_handed_1 =>
  s_asg (φ := (ol (encU PyData.int))) (m_call (eb_cons (e_var rfl) rfl (eb_cons (e_var rfl) rfl (eb_cons (e_var rfl) rfl (eb_cons (e_var rfl) rfl (eb_nil) rfl) rfl) rfl) rfl) (w_law_due_v10 v_p v_table_here v_left_base v_right_here)) (fun _ => rfl) fun v_due_here_3 =>
  s_frz rfl (sms_bx (.mtj (.var 0) "forth" (.cons (.var 6) .nil)) (ol (encU PyData.int)) (m_mtj (e_var rfl) (es_cons (e_var rfl) (own_v rfl) (es_nil)) (by decide +kernel) rfl rfl (w_Right_forth v_arrow v_handed_1) (w_Left_forth v_arrow v_handed_1)) fun t4 ht4 =>
  sms_bx (.call 1 (.cons (.mtj (.var 0) "forth" (.cons (.var 6) .nil)) (.cons (.var 7) .nil))) (fz PyData.bool) (m_callS (eb_cons (ht4) rfl (eb_cons (e_var rfl) rfl (eb_nil) rfl) rfl) (w_law_is_base_v2 t4 v_due_here_3) flat_B) fun t5 ht5 =>
  s_if (e_or (e_not (ht5)) (e_one (e_nev (good_L (good_U good_I)) (by decide) (e_var rfl) (e_var rfl) rfl rfl)))
  (s_ret1 (φ := (fz PyData.bool)) (sim_p (e_bl _)) (fun _ => rfl))
  (s_nil (s_asg (φ := (ol (encU PyData.int))) (sim_p (e_lisO (e := (encU PyData.int)) (e_var rfl) rfl)) (fun _ => rfl) fun v_handed_6 =>
  s_asg (φ := (ol (encU PyData.int))) (m_call (eb_cons (e_var rfl) rfl (eb_cons (e_var rfl) rfl (eb_cons (e_var rfl) rfl (eb_cons (e_not (e_var rfl)) rfl (eb_nil) rfl) rfl) rfl) rfl) (w_law_due_v10 v_p v_table_here v_right_base (!v_right_here))) (fun _ => rfl) fun v_due_here_8 =>
  s_frz rfl (sms_bx (.mtj (.var 0) "back" (.cons (.var 6) .nil)) (ol (encU PyData.int)) (m_mtj (e_var rfl) (es_cons (e_var rfl) (own_v rfl) (es_nil)) (by decide +kernel) rfl rfl (w_Left_forth v_arrow v_handed_6) (w_Right_forth v_arrow v_handed_6)) fun t9 ht9 =>
  sms_bx (.call 1 (.cons (.mtj (.var 0) "back" (.cons (.var 6) .nil)) (.cons (.var 7) .nil))) (fz PyData.bool) (m_callS (eb_cons (ht9) rfl (eb_cons (e_var rfl) rfl (eb_nil) rfl) rfl) (w_law_is_base_v2 t9 v_due_here_8) flat_B) fun t10 ht10 =>
  s_ret1 (φ := (fz PyData.bool)) (sim_p (e_and (ht10) (e_one (e_eqv (good_L (good_U good_I)) (by decide) (e_var rfl) (e_var rfl) rfl rfl)))) (fun _ => rfl))))))
end Mn
namespace Mn
open PySem PySem.Spec PyProof.Rows
open L2 (atI ixN cutS)
theorem w_law_table_v4 (v_script : List Int) (v_at : Int) (v_p : Int) (v_high : Int) (v_wide : Int) : Sim (s_law_table_v4 [scrD v_script, PyData.int v_at, PyData.int v_p, PyData.int v_high, PyData.int v_wide]) (F_law_table_v4 v_script v_at v_p v_high v_wide) (fz (encP3 PyData.int PyData.int (encU (encU PyData.int)))) :=
  s_def (φ := (fz (encP3 PyData.int PyData.int (encU (encU PyData.int))))) rfl (s_asg (φ := (ol (encU PyData.int))) (sim_p (e_lst (es_nil) (Nat.le_of_ble_eq_true rfl))) (fun _ => rfl) fun v_rows_1 =>
  sms_bi (.r1 (.var 3)) (List.map PyData.int) (i_r1 (e_var rfl)) fun r3 hr3 =>
  s_for (e := PyData.int) (σ := List (List Int)) (E := fun (s2 : List (List Int)) => [some (RV.fz (scrD v_script)), some (RV.fz (PyData.int v_at)), some (RV.fz (PyData.int v_p)), some (RV.fz (PyData.int v_high)), some (RV.fz (PyData.int v_wide)), some (RV.ol (List.map (encU PyData.int) s2)), none, none, none, none]) v_rows_1 rfl (sim_p hr3) (rfl) (fun x4 s2 => ⟨_, rfl,
  sms_bi (.r1 (.var 4)) (List.map PyData.int) (i_r1 (e_var rfl)) fun r5 hr5 =>
  s_asg (φ := (ol PyData.int)) (m_comp (e := PyData.int) (f := PyData.int) (φ := (fz PyData.int)) (sim_p hr5) (fun y6 => ⟨_, rfl, sim_bx (.bin .mul (.var 6) (.var 4)) (fz PyData.int) (m_mul (e_var rfl) (e_var rfl)) fun t7 ht7 => m_call (eb_cons (e_var rfl) rfl (eb_cons (e_add (e_add (e_var rfl) (ht7)) (e_var rfl)) rfl (eb_nil) rfl) rfl) (w_law_cell v_script ((v_at + t7) + y6))⟩) (fun _ => own_v rfl)) (fun _ => rfl) fun v_cells_10 =>
  sms_bx (.comp (.bin .mul (.bin .mod (.bin .fdiv (.var 9) (.int 4)) (.var 2)) (.bi .int (.cons (.cmp .gt (.bin .mod (.var 9) (.int 4)) (.int 0)) .nil))) (.nm 9) (.ex (.var 7)) .emp [9]) (ol PyData.int) (m_comp (e := PyData.int) (f := PyData.int) (φ := (fz PyData.int)) (i_ex (e := PyData.int) (e_var rfl) rfl) (fun y12 => ⟨_, rfl, sim_bx (.bin .fdiv (.var 9) (.int 4)) (fz PyData.int) (m_fdiv (e_var rfl) (e_int _)) fun t13 ht13 => sim_bx (.bin .mod (.bin .fdiv (.var 9) (.int 4)) (.var 2)) (fz PyData.int) (m_mod (ht13) (e_var rfl)) fun t14 ht14 => sim_bx (.bin .mod (.var 9) (.int 4)) (fz PyData.int) (m_mod (e_var rfl) (e_int _)) fun t15 ht15 => m_mul (ht14) (e_intB (e_gt (ht15) (e_int _)))⟩) (fun _ => own_v rfl)) fun t17 ht17 =>
  s_app (f := (encU PyData.int)) rfl (e_tupO (e := PyData.int) (ht17) rfl) (own_v rfl) fun v_rows_11 =>
  s_del (s_del (s_nil (s_end (Or.inl rfl))))⟩) fun s2 =>
  s_ret1 (φ := (fz (encP3 PyData.int PyData.int (encU (encU PyData.int))))) (sim_p (e_tup (es_cons (e_var rfl) (own_v rfl) (es_cons (e_var rfl) (own_v rfl) (es_cons (e_tupO (e := (encU PyData.int)) (e_var rfl) rfl) (own_v rfl) (es_nil)))) (Nat.le_of_ble_eq_true rfl))) (fun _ => rfl))
end Mn
namespace Mn
open PySem PySem.Spec PyProof.Rows
open L2 (atI ixN cutS)
theorem w_law_k20 (v_script : List Int) : Sim (s_law_k20 [scrD v_script]) (F_law_k20 v_script) (fz PyData.bool) :=
  s_def (φ := (fz PyData.bool)) rfl (s_asg (φ := (fz PyData.int)) (m_call (eb_cons (e_var rfl) rfl (eb_cons (e_int _) rfl (eb_nil) rfl) rfl) (w_law_cell v_script ((0 : Int)))) (fun _ => rfl) fun v_cell_here_2 =>
  sms_bx (.bin .mod (.var 1) (.int 4)) (fz PyData.int) (m_mod (e_var rfl) (e_int _)) fun t3 ht3 =>
  s_asg (φ := (fz PyData.int)) (m_idx (e := PyData.int) (e_lst (es_cons (e_int _) (own_v rfl) (es_cons (e_int _) (own_v rfl) (es_cons (e_int _) (own_v rfl) (es_cons (e_int _) (own_v rfl) (es_nil))))) (Nat.le_of_ble_eq_true rfl)) (ht3) rfl) (fun _ => rfl) fun v_p_5 =>
  sms_bx (.bin .mod (.var 1) (.int 4)) (fz PyData.int) (m_mod (e_var rfl) (e_int _)) fun t6 ht6 =>
  s_asg (φ := (fz PyData.int)) (m_idx (e := PyData.int) (e_lst (es_cons (e_int _) (own_v rfl) (es_cons (e_int _) (own_v rfl) (es_cons (e_int _) (own_v rfl) (es_cons (e_int _) (own_v rfl) (es_nil))))) (Nat.le_of_ble_eq_true rfl)) (ht6) rfl) (fun _ => rfl) fun v_most_8 =>
  s_norm (env' := [some (RV.fz (scrD v_script)), some (RV.fz (PyData.int v_cell_here_2)), some (RV.fz (PyData.int v_p_5)), some (RV.fz (PyData.int v_most_8)), none, none, none, none, none, none, none, none, none]) rfl (sms_bx (.bin .fdiv (.var 1) (.int 4)) (fz PyData.int) (m_fdiv (e_var rfl) (e_int _)) fun t9 ht9 =>
  sms_bx (.bin .mod (.bin .fdiv (.var 1) (.int 4)) (.int 2)) (fz PyData.int) (m_mod (ht9) (e_int _)) fun t10 ht10 =>
  s_asg (φ := (fz PyData.bool)) (sim_p (e_eqI (ht10) (e_int _))) (fun _ => rfl) fun v_right_here_11 =>
  sms_bx (.bin .fdiv (.var 1) (.int 8)) (fz PyData.int) (m_fdiv (e_var rfl) (e_int _)) fun t12 ht12 =>
  sms_bx (.bin .mod (.bin .fdiv (.var 1) (.int 8)) (.var 3)) (fz PyData.int) (m_mod (ht12) (e_var rfl)) fun t13 ht13 =>
  sms_bx (.bin .fdiv (.var 1) (.int 32)) (fz PyData.int) (m_fdiv (e_var rfl) (e_int _)) fun t14 ht14 =>
  sms_bx (.bin .mod (.bin .fdiv (.var 1) (.int 32)) (.var 3)) (fz PyData.int) (m_mod (ht14) (e_var rfl)) fun t15 ht15 =>
  s_asg (φ := (ol PyData.int)) (sim_p (e_lst (es_cons (ht13) (own_v rfl) (es_cons (ht15) (own_v rfl) (es_nil))) (Nat.le_of_ble_eq_true rfl))) (fun _ => rfl) fun v_sizes_16 =>
  sms_bx (.idx (.var 5) (.bi .int (.cons (.var 4) .nil))) (fz PyData.int) (m_idx (e := PyData.int) (e_var rfl) (e_intB (e_var rfl)) rfl) fun t17 ht17 =>
  sms_bx (.idx (.var 5) (.bin .sub (.int 1) (.bi .int (.cons (.var 4) .nil)))) (fz PyData.int) (m_idx (e := PyData.int) (e_var rfl) (e_sub (e_int _) (e_intB (e_var rfl))) rfl) fun t18 ht18 =>
  s_parE (es_cons (ht17) (own_v rfl) (es_cons (ht18) (own_v rfl) (es_nil))) rfl rfl
  (s_norm (env' := [some (RV.fz (scrD v_script)), some (RV.fz (PyData.int v_cell_here_2)), some (RV.fz (PyData.int v_p_5)), some (RV.fz (PyData.int v_most_8)), some (RV.fz (PyData.bool v_right_here_11)), some (RV.ol (List.map PyData.int v_sizes_16)), some (RV.fz (PyData.int t17)), some (RV.fz (PyData.int t18)), none, none, none, none, none]) rfl (s_asg (φ := (fz (encP3 PyData.int PyData.int (encU (encU PyData.int))))) (m_call (eb_cons (e_var rfl) rfl (eb_cons (e_int _) rfl (eb_cons (e_var rfl) rfl (eb_cons (e_var rfl) rfl (eb_cons (e_var rfl) rfl (eb_nil) rfl) rfl) rfl) rfl) rfl) (w_law_table_v4 v_script ((1 : Int)) v_p_5 t17 t18)) (fun _ => rfl) fun v_table_here_20 =>
  s_asg (φ := (fz encArr)) (sim_p (e_mkA (b := false) (es_cons (e_var rfl) (own_v rfl) (es_cons (e_var rfl) (own_v rfl) es_nil)) rfl rfl)) (fun _ => rfl) fun v_arrow_21 =>
  s_cut (σ := Arr) (E := fun (s22 : Arr) => [some (RV.fz (scrD v_script)), none, some (RV.fz (PyData.int v_p_5)), none, some (RV.fz (PyData.bool v_right_here_11)), some (RV.ol (List.map PyData.int v_sizes_16)), none, none, some (RV.fz ((encP3 PyData.int PyData.int (encU (encU PyData.int))) v_table_here_20)), some (RV.fz (encArr s22)), none, none, none]) (s_if (e_var rfl)
  (s_norm (env' := [some (RV.fz (scrD v_script)), some (RV.fz (PyData.int v_cell_here_2)), some (RV.fz (PyData.int v_p_5)), some (RV.fz (PyData.int v_most_8)), some (RV.fz (PyData.bool v_right_here_11)), some (RV.ol (List.map PyData.int v_sizes_16)), some (RV.fz (PyData.int t17)), some (RV.fz (PyData.int t18)), some (RV.fz ((encP3 PyData.int PyData.int (encU (encU PyData.int))) v_table_here_20)), some (RV.fz (encArr v_arrow_21)), none, none, none]) rfl (s_asg (φ := (fz encArr)) (sim_p (e_mkA (b := true) (es_cons (e_var rfl) (own_v rfl) (es_cons (e_var rfl) (own_v rfl) es_nil)) rfl rfl)) (fun _ => rfl) fun v_arrow_23 =>
  s_del (s_del (s_del (s_del (s_nil (s_nil (s_end rfl))))))))
  (s_del (s_del (s_del (s_del (s_nil (s_nil (s_end rfl)))))))) fun s22 =>
  s_if (e_not (e_isj (x := s22) (e_var rfl) rfl rfl))
  (s_ret1 (φ := (fz PyData.bool)) (sim_p (e_bl _)) (fun _ => rfl))
  (s_nil (s_norm (env' := [some (RV.fz (scrD v_script)), none, some (RV.fz (PyData.int v_p_5)), none, some (RV.fz (PyData.bool v_right_here_11)), some (RV.ol (List.map PyData.int v_sizes_16)), none, none, some (RV.fz ((encP3 PyData.int PyData.int (encU (encU PyData.int))) v_table_here_20)), some (RV.fz (encArr s22)), none, none, none]) rfl (sms_bi (.r1 (.int 3)) (List.map PyData.int) (i_r1 (e_int _)) fun r25 hr25 =>
  s_forL (e := PyData.int) (σ := Unit) (ρ := Bool) (E := fun (s24 : Unit) => [some (RV.fz (scrD v_script)), none, some (RV.fz (PyData.int v_p_5)), none, some (RV.fz (PyData.bool v_right_here_11)), some (RV.ol (List.map PyData.int v_sizes_16)), none, none, some (RV.fz ((encP3 PyData.int PyData.int (encU (encU PyData.int))) v_table_here_20)), some (RV.fz (encArr s22)), none, none, none]) (φ := (fz PyData.bool)) (mk := (fun v => v)) (()) rfl (sim_p hr25) (rfl) (fun x26 s24 => ⟨_, rfl,
  sms_bx (.idx (.var 5) (.int 0)) (fz PyData.int) (m_idx (e := PyData.int) (e_var rfl) (e_int _) rfl) fun t27 ht27 =>
  sms_bx (.bin .mul (.int 40) (.var 10)) (fz PyData.int) (m_mul (e_int _) (e_var rfl)) fun t28 ht28 =>
  sms_bx (.idx (.var 5) (.int 0)) (fz PyData.int) (m_idx (e := PyData.int) (e_var rfl) (e_int _) rfl) fun t29 ht29 =>
  sms_bx (.call 3 (.cons (.var 0) (.cons (.bin .add (.int 10) (.bin .mul (.int 40) (.var 10))) (.cons (.var 2) (.cons (.idx (.var 5) (.int 0)) .nil))))) (ol (encU PyData.int)) (m_call (eb_cons (e_var rfl) rfl (eb_cons (e_add (e_int _) (ht28)) rfl (eb_cons (e_var rfl) rfl (eb_cons (ht29) rfl (eb_nil) rfl) rfl) rfl) rfl) (w_law_loads_v2 v_script (((10 : Int)) + t28) v_p_5 t29)) fun t30 ht30 =>
  s_asg (φ := (ol (encU PyData.int))) (m_call (eb_cons (e_var rfl) rfl (eb_cons (ht27) rfl (eb_cons (ht30) rfl (eb_nil) rfl) rfl) rfl) (w_law_base_v2_v2 v_p_5 t27 t30)) (fun _ => rfl) fun v_left_base_32 =>
  sms_bx (.idx (.var 5) (.int 1)) (fz PyData.int) (m_idx (e := PyData.int) (e_var rfl) (e_int _) rfl) fun t33 ht33 =>
  sms_bx (.bin .mul (.int 40) (.var 10)) (fz PyData.int) (m_mul (e_int _) (e_var rfl)) fun t34 ht34 =>
  sms_bx (.idx (.var 5) (.int 1)) (fz PyData.int) (m_idx (e := PyData.int) (e_var rfl) (e_int _) rfl) fun t35 ht35 =>
  sms_bx (.call 3 (.cons (.var 0) (.cons (.bin .add (.int 30) (.bin .mul (.int 40) (.var 10))) (.cons (.var 2) (.cons (.idx (.var 5) (.int 1)) .nil))))) (ol (encU PyData.int)) (m_call (eb_cons (e_var rfl) rfl (eb_cons (e_add (e_int _) (ht34)) rfl (eb_cons (e_var rfl) rfl (eb_cons (ht35) rfl (eb_nil) rfl) rfl) rfl) rfl) (w_law_loads_v2 v_script (((30 : Int)) + t34) v_p_5 t35)) fun t36 ht36 =>
  s_asg (φ := (ol (encU PyData.int))) (m_call (eb_cons (e_var rfl) rfl (eb_cons (ht33) rfl (eb_cons (ht36) rfl (eb_nil) rfl) rfl) rfl) (w_law_base_v2_v2 v_p_5 t33 t36)) (fun _ => rfl) fun v_right_base_38 =>
  s_norm (env' := [some (RV.fz (scrD v_script)), none, some (RV.fz (PyData.int v_p_5)), none, some (RV.fz (PyData.bool v_right_here_11)), some (RV.ol (List.map PyData.int v_sizes_16)), none, none, some (RV.fz ((encP3 PyData.int PyData.int (encU (encU PyData.int))) v_table_here_20)), some (RV.fz (encArr s22)), some (RV.fz (PyData.int x26)), some (RV.ol (List.map (encU PyData.int) v_left_base_32)), some (RV.ol (List.map (encU PyData.int) v_right_base_38))]) rfl (sms_bx (.call 4 (.cons (.var 9) (.cons (.var 2) (.cons (.var 8) (.cons (.var 4) (.cons (.var 11) (.cons (.var 12) .nil))))))) (fz PyData.bool) (m_callS (eb_cons (e_var rfl) rfl (eb_cons (e_var rfl) rfl (eb_cons (e_var rfl) rfl (eb_cons (e_var rfl) rfl (eb_cons (e_var rfl) rfl (eb_cons (e_var rfl) rfl (eb_nil) rfl) rfl) rfl) rfl) rfl) rfl) (w_law_right_v11 s22 v_p_5 v_table_here_20 v_right_here_11 v_left_base_32 v_right_base_38) flat_B) fun t39 ht39 =>
  s_if (e_not (ht39))
  (s_ret (φ := (fz PyData.bool)) (mk := Lp.rt) (sim_p (e_bl _)) (fun _ => rfl))
  (s_nil (s_del (s_del (s_del (s_nil (s_end (Or.inl rfl))))))))⟩) (fun _ => rfl) fun s24 =>
  s_ret1 (φ := (fz PyData.bool)) (m_call (eb_cons (e_var rfl) rfl (eb_cons (e_var rfl) rfl (eb_cons (e_var rfl) rfl (eb_cons (e_var rfl) rfl (eb_cons (e_lst (es_nil) (Nat.le_of_ble_eq_true rfl)) rfl (eb_cons (e_lst (es_nil) (Nat.le_of_ble_eq_true rfl)) rfl (eb_nil) rfl) rfl) rfl) rfl) rfl) rfl) (w_law_right_v11 s22 v_p_5 v_table_here_20 v_right_here_11 (([] : List (List Int))) (([] : List (List Int))))) (fun _ => rfl))))))))
end Mn
set_option maxHeartbeats 1000000
namespace La
open Mn (mulG modG mapG mapO LIM)
class Pr (p : Int) : Prop where
  pr : p = 2 ∨ p = 3 ∨ p = 5 ∨ p = 7
theorem Pr.pos {p : Int} [h : Pr p] : 0 < p := by rcases h.pr with e | e | e | e <;> omega
theorem Pr.le {p : Int} [h : Pr p] : p ≤ 7 := by rcases h.pr with e | e | e | e <;> omega
theorem Pr.gt {p : Int} [h : Pr p] : 1 < p := by rcases h.pr with e | e | e | e <;> omega
structure Fp (p : Int) where
  v : Int
  lo : 0 ≤ v
  hi : v < p
namespace Fp
variable {p : Int}
theorem ext {a b : Fp p} (h : a.v = b.v) : a = b := by cases a; cases b; cases h; rfl
theorem ext_iff {a b : Fp p} : a = b ↔ a.v = b.v := ⟨fun h => by rw [h], ext⟩
instance : DecidableEq (Fp p) := fun a b => decidable_of_iff (a.v = b.v) ext_iff.symm
variable [Pr p]
def of (x : Int) : Fp p := ⟨x % p, Int.emod_nonneg _ (by have := Pr.pos (p := p); omega), Int.emod_lt_of_pos _ Pr.pos⟩
theorem of_v (x : Int) : (of x : Fp p).v = x % p := rfl
theorem of_self (a : Fp p) : of a.v = a := ext (Int.emod_eq_of_lt a.lo a.hi)
theorem of_eq {x y : Int} (h : x % p = y % p) : (of x : Fp p) = of y := ext h
theorem v_mod (a : Fp p) : a.v % p = a.v := Int.emod_eq_of_lt a.lo a.hi
def powN (a : Fp p) : Nat → Fp p
  | 0 => of 1
  | n + 1 => of ((powN a n).v * a.v)
def inv (a : Fp p) : Fp p := if a.v = 0 then of 0 else powN a (p - 2).toNat
def powZ (a : Fp p) : Int → Fp p
  | .ofNat n => powN a n
  | .negSucc n => inv (powN a (n + 1))
theorem mm1 (x y : Int) : (x % p * y) % p = (x * y) % p := by rw [Int.mul_emod, Int.emod_emod_of_dvd _ (Int.dvd_refl p), ← Int.mul_emod]
theorem mm2 (x y : Int) : (x * (y % p)) % p = (x * y) % p := by rw [Int.mul_comm, mm1, Int.mul_comm]
theorem ng (i : Int) : (-(i % p)) % p = (-i) % p := by
  have : -(i % p) = -i + p * (i / p) := by have := Int.emod_add_mul_ediv i p; omega
  rw [this, Int.add_mul_emod_self_left]
instance : Lean.Grind.Semiring (Fp p) where
  add a b := of (a.v + b.v)
  mul a b := of (a.v * b.v)
  natCast := ⟨fun n => of n⟩
  ofNat n := ⟨of n⟩
  nsmul := ⟨fun n a => of ((n : Int) % p * a.v)⟩
  npow := ⟨powN⟩
  add_zero a := ext (by show (a.v + 0 % p) % p = a.v; simp [v_mod])
  add_comm a b := ext (by show (a.v + b.v) % p = (b.v + a.v) % p; rw [Int.add_comm])
  add_assoc a b c := ext (by show ((a.v + b.v) % p + c.v) % p = (a.v + (b.v + c.v) % p) % p; simp [Int.add_assoc])
  mul_assoc a b c := ext (by show ((a.v * b.v) % p * c.v) % p = (a.v * ((b.v * c.v) % p)) % p; rw [mm1, mm2, Int.mul_assoc])
  mul_one a := ext (by show (a.v * (1 % p)) % p = a.v; rw [mm2, Int.mul_one, v_mod])
  one_mul a := ext (by show ((1 % p) * a.v) % p = a.v; rw [mm1, Int.one_mul, v_mod])
  left_distrib a b c := ext (by show (a.v * ((b.v + c.v) % p)) % p = ((a.v * b.v) % p + (a.v * c.v) % p) % p; rw [mm2, Int.mul_add, Int.add_emod])
  right_distrib a b c := ext (by show (((a.v + b.v) % p) * c.v) % p = ((a.v * c.v) % p + (b.v * c.v) % p) % p; rw [mm1, Int.add_mul, Int.add_emod])
  zero_mul a := ext (by show ((0 % p) * a.v) % p = 0 % p; simp)
  mul_zero a := ext (by show (a.v * (0 % p)) % p = 0 % p; simp)
  pow_zero a := rfl
  pow_succ a n := rfl
  ofNat_succ n := ext (by show ((n + 1 : Nat) : Int) % p = ((n : Int) % p + ((1 : Nat) : Int) % p) % p; simp)
  ofNat_eq_natCast n := rfl
  nsmul_eq_natCast_mul n a := rfl
instance : Lean.Grind.Ring (Fp p) where
  neg a := of (-a.v)
  sub a b := of (a.v - b.v)
  intCast := ⟨of⟩
  zsmul := ⟨fun i a => of (i % p * a.v)⟩
  neg_add_cancel a := ext (by show ((-a.v) % p + a.v) % p = ((0 : Nat) : Int) % p; simp [Int.add_left_neg])
  sub_eq_add_neg a b := ext (by show (a.v - b.v) % p = (a.v + (-b.v) % p) % p; rw [Int.add_emod_emod]; rfl)
  neg_zsmul i a := ext (by
    show ((-i) % p * a.v) % p = (-((i % p * a.v) % p)) % p
    rw [mm1, Int.neg_mul, mm1, ng])
  zsmul_natCast_eq_nsmul n a := rfl
  intCast_ofNat n := rfl
  intCast_neg i := ext (by show (-i) % p = (-(i % p)) % p; exact (ng _).symm)
instance : Lean.Grind.CommRing (Fp p) where
  mul_comm a b := ext (by show (a.v * b.v) % p = (b.v * a.v) % p; rw [Int.mul_comm])
theorem zero_v : (0 : Fp p).v = 0 := by show ((0 : Nat) : Int) % p = 0; simp
theorem one_v : (1 : Fp p).v = 1 := by show ((1 : Nat) : Int) % p = 1; exact Int.emod_eq_of_lt (by omega) (by have := Pr.gt (p := p); omega)
theorem add_v (a b : Fp p) : (a + b).v = (a.v + b.v) % p := rfl
theorem mul_v (a b : Fp p) : (a * b).v = (a.v * b.v) % p := rfl
theorem sub_v (a b : Fp p) : (a - b).v = (a.v - b.v) % p := rfl
theorem neg_v (a : Fp p) : (-a).v = (-a.v) % p := rfl
theorem inv_mul {a : Fp p} (h : a.v ≠ 0) : (inv a).v * a.v % p = 1 := by
  have hp := Pr.pr (p := p)
  have lo := a.lo
  have hi := a.hi
  unfold inv
  rw [if_neg h]
  obtain ⟨x, l, u⟩ := a
  simp only at h lo hi ⊢
  rcases hp with rfl | rfl | rfl | rfl
  · have : x = 1 := by omega
    subst this; rfl
  · have : x = 1 ∨ x = 2 := by omega
    rcases this with rfl | rfl <;> rfl
  · have : x = 1 ∨ x = 2 ∨ x = 3 ∨ x = 4 := by omega
    rcases this with rfl | rfl | rfl | rfl <;> rfl
  · have : x = 1 ∨ x = 2 ∨ x = 3 ∨ x = 4 ∨ x = 5 ∨ x = 6 := by omega
    rcases this with rfl | rfl | rfl | rfl | rfl | rfl <;> rfl
instance : Lean.Grind.Field (Fp p) where
  inv := inv
  div a b := a * inv b
  zpow := ⟨powZ⟩
  div_eq_mul_inv a b := rfl
  zero_ne_one h := by
    have := congrArg Fp.v h
    rw [zero_v, one_v] at this
    omega
  inv_zero := by
    show inv (0 : Fp p) = 0
    unfold inv
    rw [if_pos zero_v]
    rfl
  mul_inv_cancel {a} h := by
    refine ext ?_
    have : a.v ≠ 0 := fun e => h (ext (by rw [e, zero_v]))
    show (a.v * (inv a).v) % p = ((1 : Nat) : Int) % p
    rw [Int.mul_comm, inv_mul this]
    exact one_v.symm
  zpow_zero a := rfl
  zpow_succ a n := by
    show powZ a (((n + 1 : Nat)) : Int) = powZ a (n : Int) * a
    rfl
  zpow_neg a n := by
    show powZ a (-n) = inv (powZ a n)
    have inv1 : inv (of 1 : Fp p) = of 1 := by
      refine ext ?_
      have h1 : (of 1 : Fp p).v = 1 := one_v
      have := inv_mul (a := (of 1 : Fp p)) (by rw [h1]; omega)
      rw [h1, Int.mul_one, v_mod] at this
      rw [this, h1]
    have invinv : ∀ b : Fp p, inv (inv b) = b := fun b => by
      by_cases z : b.v = 0
      · have : inv b = b := by unfold inv; rw [if_pos z]; exact ext (by rw [z]; exact zero_v)
        rw [this, this]
      · have e1 := inv_mul z
        have z2 : (inv b).v ≠ 0 := fun q => by rw [q] at e1; simp at e1
        have e2 := inv_mul z2
        refine ext ?_
        have : ((inv (inv b)).v * ((inv b).v * b.v % p)) % p = ((inv (inv b)).v * (inv b).v % p * b.v) % p := by
          rw [mm1, mm2, Int.mul_assoc]
        rw [e1, e2, Int.mul_one, Int.one_mul, v_mod, v_mod] at this
        exact this
    cases n with
    | ofNat n =>
      cases n with
      | zero => exact inv1.symm
      | succ n => rfl
    | negSucc n =>
      show powN a (n + 1) = inv (inv (powN a (n + 1)))
      rw [invinv]
end Fp
section
variable {K : Type} [Lean.Grind.CommRing K]
def sm : Nat → (Nat → K) → K
  | 0, _ => 0
  | n + 1, f => sm n f + f n
theorem sm_congr {n : Nat} {f g : Nat → K} (h : ∀ i, i < n → f i = g i) : sm n f = sm n g := by
  induction n with
  | zero => rfl
  | succ n ih => show sm n f + f n = sm n g + g n; rw [ih fun i hi => h i (by omega), h n (by omega)]
theorem sm_zero (n : Nat) : sm n (fun _ => (0 : K)) = 0 := by
  induction n with
  | zero => rfl
  | succ n ih => show sm n _ + 0 = 0; rw [ih]; grind
theorem sm_z {n : Nat} {f : Nat → K} (h : ∀ i, i < n → f i = 0) : sm n f = 0 := by rw [sm_congr h, sm_zero]
theorem sm_add (n : Nat) (f g : Nat → K) : sm n (fun i => f i + g i) = sm n f + sm n g := by
  induction n with
  | zero => show (0 : K) = 0 + 0; grind
  | succ n ih => show sm n _ + (f n + g n) = (sm n f + f n) + (sm n g + g n); rw [ih]; grind
theorem sm_mul (n : Nat) (c : K) (f : Nat → K) : sm n (fun i => c * f i) = c * sm n f := by
  induction n with
  | zero => show (0 : K) = c * 0; grind
  | succ n ih => show sm n _ + c * f n = c * (sm n f + f n); rw [ih]; grind
theorem sm_neg (n : Nat) (f : Nat → K) : sm n (fun i => - f i) = - sm n f := by
  induction n with
  | zero => show (0 : K) = -0; grind
  | succ n ih => show sm n _ + - f n = -(sm n f + f n); rw [ih]; grind
theorem sm_one {n k : Nat} {f : Nat → K} (hk : k < n) (h : ∀ i, i < n → i ≠ k → f i = 0) : sm n f = f k := by
  induction n with
  | zero => omega
  | succ n ih =>
    show sm n f + f n = f k
    by_cases e : k = n
    · subst e
      rw [sm_z fun i hi => h i (by omega) (by omega)]
      grind
    · rw [ih (by omega) fun i hi => h i (by omega), h n (by omega) (by omega)]
      grind
theorem sm_append (n m : Nat) (f : Nat → K) : sm (n + m) f = sm n f + sm m (fun i => f (n + i)) := by
  induction m with
  | zero => show sm n f = sm n f + 0; grind
  | succ m ih => show sm (n + m) f + f (n + m) = sm n f + (sm m _ + f (n + m)); rw [ih]; grind
theorem sm_succ (n : Nat) (f : Nat → K) : sm (n + 1) f = sm n f + f n := rfl
theorem sm_head (n : Nat) (f : Nat → K) : sm (n + 1) f = f 0 + sm n (fun i => f (i + 1)) := by
  rw [show n + 1 = 1 + n by omega, sm_append]
  have : sm 1 f = f 0 := by show 0 + f 0 = f 0; grind
  rw [this]
  congr 1
  exact sm_congr fun i _ => by rw [Nat.add_comm]
def dl (i j : Nat) : K := if i = j then 1 else 0
theorem sm_dl {n k : Nat} (f : Nat → K) (hk : k < n) : sm n (fun i => dl k i * f i) = f k := by
  rw [sm_one hk fun i _ hi => by unfold dl; rw [if_neg (Ne.symm hi)]; grind]
  unfold dl
  rw [if_pos rfl]
  grind
def mm (w : Nat) (A B : Nat → Nat → K) : Nat → Nat → K := fun i j => sm w fun k => A i k * B k j
def ml (w : Nat) (A : Nat → Nat → K) (v : Nat → K) : Nat → K := fun i => sm w fun k => A i k * v k
end
end La
namespace La
section
variable {K : Type} [Lean.Grind.Field K] [DecidableEq K]
inductive Spn (L : List (Nat → K)) : (Nat → K) → Prop
  | zero : Spn L (fun _ => 0)
  | add (c : K) {b v : Nat → K} : b ∈ L → Spn L v → Spn L (fun i => v i + c * b i)
theorem Spn.eq {L : List (Nat → K)} {v w : Nat → K} (h : Spn L v) (e : ∀ i, w i = v i) : Spn L w := by
  have : w = v := funext e
  rw [this]; exact h
theorem Spn.mem {L : List (Nat → K)} {b : Nat → K} (h : b ∈ L) : Spn L b := (Spn.add 1 h .zero).eq fun i => by grind
theorem Spn.plus {L : List (Nat → K)} {v w : Nat → K} (hv : Spn L v) (hw : Spn L w) : Spn L (fun i => v i + w i) := by
  induction hw with
  | zero => exact hv.eq fun i => by grind
  | add c hb _ ih => exact (ih.add c hb).eq fun i => by grind
theorem Spn.smul {L : List (Nat → K)} {v : Nat → K} (c : K) (hv : Spn L v) : Spn L (fun i => c * v i) := by
  induction hv with
  | zero => exact Spn.zero.eq fun i => by grind
  | add d hb _ ih => exact (ih.add (c * d) hb).eq fun i => by grind
theorem Spn.sub {L : List (Nat → K)} {v w : Nat → K} (hv : Spn L v) (hw : Spn L w) : Spn L (fun i => v i - w i) := ((hv.plus (hw.smul (-1)))).eq fun i => by grind
theorem Spn.less {L : List (Nat → K)} {v w : Nat → K} (c : K) (hv : Spn L v) (hw : Spn L w) : Spn L (fun i => v i - c * w i) := hv.sub (hw.smul c)
theorem Spn.mono {L M : List (Nat → K)} (h : ∀ b ∈ L, Spn M b) {v : Nat → K} (hv : Spn L v) : Spn M v := by
  induction hv with
  | zero => exact .zero
  | add c hb _ ih => exact (ih.plus ((h _ hb).smul c))
theorem Spn.sup {L : List (Nat → K)} {n : Nat} (h : ∀ b ∈ L, ∀ i, n ≤ i → b i = 0) {v : Nat → K} (hv : Spn L v) : ∀ i, n ≤ i → v i = 0 := by
  induction hv with
  | zero => intro i _; rfl
  | add c hb _ ih => intro i hi; have := ih i hi; have := h _ hb i hi; grind
theorem spn_nil {v : Nat → K} (h : Spn [] v) : ∀ i, v i = 0 := by
  cases h with
  | zero => intro i; rfl
  | add c hb _ => exact absurd hb (by simp)
structure Rf (n : Nat) (ps : List (Nat × (Nat → K))) : Prop where
  inc : ps.Pairwise (fun a b => a.1 < b.1)
  one : ∀ q ∈ ps, q.2 q.1 = 1
  low : ∀ q ∈ ps, ∀ i, i < q.1 → q.2 i = 0
  oth : ∀ q ∈ ps, ∀ r ∈ ps, q.1 ≠ r.1 → r.2 q.1 = 0
  lt : ∀ q ∈ ps, q.1 < n
  sup : ∀ q ∈ ps, ∀ i, n ≤ i → q.2 i = 0
def vs (ps : List (Nat × (Nat → K))) : List (Nat → K) := ps.map Prod.snd
theorem mem_vs {ps : List (Nat × (Nat → K))} {b : Nat → K} : b ∈ vs ps ↔ ∃ q ∈ ps, q.2 = b := by unfold vs; rw [List.mem_map]
def cmb (ps : List (Nat × (Nat → K))) (v : Nat → K) (i : Nat) : K := ps.foldr (fun q s => v q.1 * q.2 i + s) 0
theorem cmb_cons (q : Nat × (Nat → K)) (ps : List (Nat × (Nat → K))) (v : Nat → K) (i : Nat) : cmb (q :: ps) v i = v q.1 * q.2 i + cmb ps v i := rfl
theorem cmb_zero (ps : List (Nat × (Nat → K))) (v : Nat → K) (h : ∀ q ∈ ps, v q.1 = 0) (i : Nat) : cmb ps v i = 0 := by
  induction ps with
  | nil => rfl
  | cons q ps ih =>
    rw [cmb_cons, h q (by simp), ih fun r hr => h r (by simp [hr])]
    grind
theorem cmb_add (ps : List (Nat × (Nat → K))) (v w : Nat → K) (c : K) (i : Nat) : cmb ps (fun j => v j + c * w j) i = cmb ps v i + c * cmb ps w i := by
  induction ps with
  | nil => show (0 : K) = 0 + c * 0; grind
  | cons q ps ih => rw [cmb_cons, cmb_cons, cmb_cons, ih]; grind
theorem cmb_one (ps : List (Nat × (Nat → K))) (inc : ps.Pairwise (fun a b => a.1 < b.1)) {q : Nat × (Nat → K)} (hq : q ∈ ps) (v : Nat → K) (h1 : v q.1 = 1) (h0 : ∀ r ∈ ps, r.1 ≠ q.1 → v r.1 = 0) (i : Nat) : cmb ps v i = q.2 i := by
  induction ps with
  | nil => simp at hq
  | cons r ps ih =>
    have hp := List.pairwise_cons.mp inc
    rw [cmb_cons]
    rcases List.mem_cons.mp hq with rfl | hq
    · rw [h1, cmb_zero ps v fun r hr => h0 r (by simp [hr]) (by have := hp.1 r hr; omega)]
      grind
    · have := hp.1 q hq
      rw [h0 r (by simp) (by omega), ih hp.2 hq fun r hr => h0 r (by simp [hr])]
      grind
theorem Rf.coord {n : Nat} {ps : List (Nat × (Nat → K))} (R : Rf n ps) {v : Nat → K} (h : Spn (vs ps) v) : ∀ i, v i = cmb ps v i := by
  induction h with
  | zero => intro i; exact (cmb_zero ps _ (fun _ _ => rfl) i).symm
  | add c hb _ ih =>
    intro i
    rw [cmb_add, ← ih i]
    obtain ⟨q, hq, rfl⟩ := mem_vs.mp hb
    rw [cmb_one ps R.inc hq q.2 (R.one q hq) (fun r hr e => R.oth r hr q hq e) i]
theorem Rf.null {n : Nat} {ps : List (Nat × (Nat → K))} (R : Rf n ps) {v : Nat → K} (h : Spn (vs ps) v) (z : ∀ q ∈ ps, v q.1 = 0) : ∀ i, v i = 0 := fun i => by
  rw [R.coord h i, cmb_zero ps v z]
theorem cmb_low (ps : List (Nat × (Nat → K))) (v : Nat → K) (i : Nat) (h : ∀ q ∈ ps, v q.1 = 0 ∨ q.2 i = 0) : cmb ps v i = 0 := by
  induction ps with
  | nil => rfl
  | cons q ps ih =>
    rw [cmb_cons, ih fun r hr => h r (by simp [hr])]
    rcases h q (by simp) with e | e <;> rw [e] <;> grind
theorem Rf.lead {n : Nat} {ps : List (Nat × (Nat → K))} (R : Rf n ps) {v : Nat → K} (h : Spn (vs ps) v) {l : Nat} (hl : v l ≠ 0) (z : ∀ i, i < l → v i = 0) : ∃ q ∈ ps, q.1 = l := by
  have step : ∀ ps' : List (Nat × (Nat → K)), (∀ q ∈ ps', q ∈ ps) → ps'.Pairwise (fun a b => a.1 < b.1) → (∀ q ∈ ps, q ∈ ps' ∨ v q.1 = 0) → ∃ q ∈ ps, q.1 = l := fun ps' => by
    induction ps' with
    | nil =>
      intro _ _ hz
      exact absurd (R.null h (fun q hq => (hz q hq).elim (fun a => absurd a (by simp)) id) l) hl
    | cons q ps' ih =>
      intro hs hp hz
      have hp := List.pairwise_cons.mp hp
      by_cases e : v q.1 = 0
      · refine ih (fun r hr => hs r (by simp [hr])) hp.2 fun r hr => ?_
        rcases hz r hr with a | a
        · rcases List.mem_cons.mp a with rfl | a
          · exact .inr e
          · exact .inl a
        · exact .inr a
      · refine ⟨q, hs q (by simp), ?_⟩
        have low : ∀ i, i < q.1 → v i = 0 := fun i hi => by
          rw [R.coord h i]
          refine cmb_low ps v i fun r hr => ?_
          rcases hz r hr with a | a
          · rcases List.mem_cons.mp a with rfl | a
            · exact .inr (R.low r hr i hi)
            · have := hp.1 r a
              exact .inr (R.low r hr i (by omega))
          · exact .inl a
        rcases Nat.lt_trichotomy q.1 l with a | a | a
        · exact absurd (z _ a) e
        · exact a
        · exact absurd (low _ a) hl
  exact step ps (fun q hq => hq) R.inc fun q hq => .inl hq
theorem Rf.mem_iff {n : Nat} {ps : List (Nat × (Nat → K))} (R : Rf n ps) (q : Nat × (Nat → K)) : q ∈ ps ↔ Spn (vs ps) q.2 ∧ q.2 q.1 = 1 ∧ (∀ i, i < q.1 → q.2 i = 0) ∧ ∀ v l, Spn (vs ps) v → v l ≠ 0 → (∀ i, i < l → v i = 0) → l ≠ q.1 → q.2 l = 0 := by
  constructor
  · intro hq
    refine ⟨Spn.mem (mem_vs.mpr ⟨q, hq, rfl⟩), R.one q hq, R.low q hq, fun v l hv hl z e => ?_⟩
    obtain ⟨r, hr, rfl⟩ := R.lead hv hl z
    exact R.oth r hr q hq e
  · rintro ⟨h1, h2, h3, h4⟩
    obtain ⟨r, hr, e⟩ := R.lead h1 (l := q.1) (by rw [h2]; intro e; exact Lean.Grind.Field.zero_ne_one e.symm) h3
    have : q.2 = r.2 := funext fun i => by
      have d := h1.sub (Spn.mem (mem_vs.mpr ⟨r, hr, rfl⟩))
      have := R.null d (fun s hs => by
        by_cases es : s.1 = q.1
        · rw [es, h2, ← e, R.one r hr]; grind
        · rw [h4 s.2 s.1 (Spn.mem (mem_vs.mpr ⟨s, hs, rfl⟩)) (by rw [R.one s hs]; intro e; exact Lean.Grind.Field.zero_ne_one e.symm) (R.low s hs) es, R.oth s hs r hr (by omega)]; grind) i
      grind
    have : q = r := Prod.ext e.symm this
    rw [this]
    exact hr
theorem Rf.nodup {n : Nat} {ps : List (Nat × (Nat → K))} (R : Rf n ps) : ps.Nodup := R.inc.imp fun {a b} h e => by rw [e] at h; omega
theorem Rf.uniq {n m : Nat} {ps qs : List (Nat × (Nat → K))} (R : Rf n ps) (R' : Rf m qs) (h : ∀ v, Spn (vs ps) v ↔ Spn (vs qs) v) : ps = qs := by
  have hm : ∀ q, q ∈ ps ↔ q ∈ qs := fun q => by
    rw [R.mem_iff, R'.mem_iff]
    simp only [h]
  exact List.Perm.eq_of_pairwise (fun a b _ _ x y => by omega) R.inc R'.inc ((List.perm_ext_iff_of_nodup R.nodup R'.nodup).mpr hm)
theorem Rf.leads_sub {n m : Nat} {ps qs : List (Nat × (Nat → K))} (R : Rf n ps) (R' : Rf m qs) (h : ∀ v, Spn (vs ps) v → Spn (vs qs) v) : ∀ l ∈ ps.map Prod.fst, l ∈ qs.map Prod.fst := fun l hl => by
  obtain ⟨q, hq, rfl⟩ := List.mem_map.mp hl
  obtain ⟨r, hr, e⟩ := R'.lead (h _ (Spn.mem (mem_vs.mpr ⟨q, hq, rfl⟩))) (l := q.1) (by rw [R.one q hq]; intro e; exact Lean.Grind.Field.zero_ne_one e.symm) (R.low q hq)
  exact List.mem_map.mpr ⟨r, hr, e⟩
theorem Rf.nodup1 {n : Nat} {ps : List (Nat × (Nat → K))} (R : Rf n ps) : (ps.map Prod.fst).Nodup := List.pairwise_map.mpr (R.inc.imp fun {a b} h e => by omega)
theorem nodup_len {α : Type} [DecidableEq α] {l m : List α} (hl : l.Nodup) (h : ∀ x ∈ l, x ∈ m) : l.length ≤ m.length := by
  induction l generalizing m with
  | nil => simp
  | cons x l ih =>
    have hp := List.nodup_cons.mp hl
    have hx := h x (by simp)
    have := ih (m := m.erase x) hp.2 fun y hy => (List.mem_erase_of_ne (by rintro rfl; exact hp.1 hy)).mpr (h y (by simp [hy]))
    rw [List.length_erase_of_mem hx] at this
    have : 0 < m.length := List.length_pos_of_mem hx
    rw [List.length_cons]
    omega
theorem Rf.size_le {n m : Nat} {ps qs : List (Nat × (Nat → K))} (R : Rf n ps) (R' : Rf m qs) (h : ∀ v, Spn (vs ps) v → Spn (vs qs) v) : ps.length ≤ qs.length := by
  have := nodup_len R.nodup1 (R.leads_sub R' h)
  simpa using this
theorem Rf.len_le {n : Nat} {ps : List (Nat × (Nat → K))} (R : Rf n ps) : ps.length ≤ n := by
  have := nodup_len (m := List.range n) R.nodup1 fun l hl => by
    obtain ⟨q, hq, rfl⟩ := List.mem_map.mp hl
    exact List.mem_range.mpr (R.lt q hq)
  simpa using this
structure At (n q : Nat) (rows : List (Nat → K)) (ps : List (Nat × (Nat → K))) : Prop where
  rf : Rf n ps
  ahead : ∀ r ∈ ps, r.1 < q
  zero : ∀ r ∈ rows, ∀ i, i < q → r i = 0
  sup : ∀ r ∈ rows, ∀ i, n ≤ i → r i = 0
theorem At.start {n : Nat} {rows : List (Nat → K)} (h : ∀ r ∈ rows, ∀ i, n ≤ i → r i = 0) : At n 0 rows [] :=
  ⟨⟨.nil, fun q h => absurd h (by simp), fun q h => absurd h (by simp), fun q h => absurd h (by simp), fun q h => absurd h (by simp), fun q h => absurd h (by simp)⟩, fun q h => absurd h (by simp), fun r _ i hi => absurd hi (by omega), h⟩
theorem At.skip {n q : Nat} {rows : List (Nat → K)} {ps : List (Nat × (Nat → K))} (A : At n q rows ps) (h : ∀ r ∈ rows, r q = 0) : At n (q + 1) rows ps :=
  ⟨A.rf, fun r hr => Nat.lt_succ_of_lt (A.ahead r hr), fun r hr i hi => by
    rcases Nat.lt_succ_iff_lt_or_eq.mp hi with a | rfl
    · exact A.zero r hr i a
    · exact h r hr, A.sup⟩
def cut (c : Nat → K) (q : Nat) (r : Nat → K) : Nat → K := fun i => r i - r q * c i
theorem At.step {n q : Nat} {rows : List (Nat → K)} {ps : List (Nat × (Nat → K))} (A : At n q rows ps) (hq : q < n) {k : Nat} {r0 : Nat → K} (hk : rows[k]? = some r0) (h : r0 q ≠ 0) :
    At n (q + 1) ((rows.eraseIdx k).map (cut (fun i => (r0 q)⁻¹ * r0 i) q)) (ps.map (fun b => (b.1, cut (fun i => (r0 q)⁻¹ * r0 i) q b.2)) ++ [(q, fun i => (r0 q)⁻¹ * r0 i)]) ∧
    ∀ v, Spn (((rows.eraseIdx k).map (cut (fun i => (r0 q)⁻¹ * r0 i) q)) ++ vs (ps.map (fun b => (b.1, cut (fun i => (r0 q)⁻¹ * r0 i) q b.2)) ++ [(q, fun i => (r0 q)⁻¹ * r0 i)])) v ↔ Spn (rows ++ vs ps) v := by
  have hm : r0 ∈ rows := List.mem_of_getElem? hk
  have c1 : (r0 q)⁻¹ * r0 q = 1 := by grind
  have c0 : ∀ i, i < q → (r0 q)⁻¹ * r0 i = 0 := fun i hi => by rw [A.zero r0 hm i hi]; grind
  have cs : ∀ i, n ≤ i → (r0 q)⁻¹ * r0 i = 0 := fun i hi => by rw [A.sup r0 hm i hi]; grind
  have er : ∀ r ∈ rows.eraseIdx k, r ∈ rows := fun r hr => List.mem_of_mem_eraseIdx hr
  generalize hc : (fun i => (r0 q)⁻¹ * r0 i) = c at *
  have c1 : c q = 1 := by rw [← hc]; exact c1
  have c0 : ∀ i, i < q → c i = 0 := fun i hi => by rw [← hc]; exact c0 i hi
  have cs : ∀ i, n ≤ i → c i = 0 := fun i hi => by rw [← hc]; exact cs i hi
  have inv : ∀ r ∈ ps.map (fun b => (b.1, cut c q b.2)) ++ [(q, c)], (∃ b ∈ ps, r = (b.1, cut c q b.2)) ∨ r = (q, c) := fun r hr => by
    rcases List.mem_append.mp hr with hr | hr
    · obtain ⟨b, hb, rfl⟩ := List.mem_map.mp hr
      exact .inl ⟨b, hb, rfl⟩
    · exact .inr (List.mem_singleton.mp hr)
  refine ⟨⟨⟨?_, ?_, ?_, ?_, ?_, ?_⟩, ?_, ?_, ?_⟩, fun v => ⟨Spn.mono fun b hb => ?_, Spn.mono fun b hb => ?_⟩⟩
  · refine List.pairwise_append.mpr ⟨List.pairwise_map.mpr A.rf.inc, List.pairwise_singleton _ _, fun a ha b hb => ?_⟩
    obtain ⟨x, hx, rfl⟩ := List.mem_map.mp ha
    rw [List.mem_singleton.mp hb]
    exact A.ahead x hx
  · intro r hr
    rcases inv r hr with ⟨b, hb, rfl⟩ | rfl
    · show b.2 b.1 - b.2 q * c b.1 = 1
      rw [A.rf.one b hb, c0 _ (A.ahead b hb)]; grind
    · exact c1
  · intro r hr i hi
    rcases inv r hr with ⟨b, hb, rfl⟩ | rfl
    · have hi : i < b.1 := hi
      have := A.ahead b hb
      show b.2 i - b.2 q * c i = 0
      rw [A.rf.low b hb i hi, c0 i (by omega)]; grind
    · exact c0 i hi
  · intro r hr s hs e
    rcases inv r hr with ⟨b, hb, rfl⟩ | rfl
    · rcases inv s hs with ⟨d, hd, rfl⟩ | rfl
      · show d.2 b.1 - d.2 q * c b.1 = 0
        rw [A.rf.oth b hb d hd e, c0 _ (A.ahead b hb)]; grind
      · exact c0 _ (A.ahead b hb)
    · rcases inv s hs with ⟨d, hd, rfl⟩ | rfl
      · show d.2 q - d.2 q * c q = 0
        rw [c1]; grind
      · exact absurd rfl e
  · intro r hr
    rcases inv r hr with ⟨b, hb, rfl⟩ | rfl
    · exact A.rf.lt b hb
    · exact hq
  · intro r hr i hi
    rcases inv r hr with ⟨b, hb, rfl⟩ | rfl
    · show b.2 i - b.2 q * c i = 0
      rw [A.rf.sup b hb i hi, cs i hi]; grind
    · exact cs i hi
  · intro r hr
    rcases inv r hr with ⟨b, hb, rfl⟩ | rfl
    · exact Nat.lt_succ_of_lt (A.ahead b hb)
    · exact Nat.lt_succ_self q
  · intro r hr i hi
    obtain ⟨x, hx, rfl⟩ := List.mem_map.mp hr
    show x i - x q * c i = 0
    rcases Nat.lt_succ_iff_lt_or_eq.mp hi with a | rfl
    · rw [A.zero x (er x hx) i a, c0 i a]; grind
    · rw [c1]; grind
  · intro r hr i hi
    obtain ⟨x, hx, rfl⟩ := List.mem_map.mp hr
    show x i - x q * c i = 0
    rw [A.sup x (er x hx) i hi, cs i hi]; grind
  · have hcS : Spn (rows ++ vs ps) c := by
      rw [← hc]
      exact (Spn.mem (List.mem_append_left _ hm)).smul _
    rcases List.mem_append.mp hb with hb | hb
    · obtain ⟨x, hx, rfl⟩ := List.mem_map.mp hb
      exact (Spn.mem (List.mem_append_left _ (er x hx))).less (x q) hcS
    · obtain ⟨r, hr, rfl⟩ := mem_vs.mp hb
      rcases inv r hr with ⟨b, hb2, rfl⟩ | rfl
      · exact (Spn.mem (List.mem_append_right _ (mem_vs.mpr ⟨b, hb2, rfl⟩))).less (b.2 q) hcS
      · exact hcS
  · have hcS : Spn ((rows.eraseIdx k).map (cut c q) ++ vs (ps.map (fun b => (b.1, cut c q b.2)) ++ [(q, c)])) c := Spn.mem (List.mem_append_right _ (mem_vs.mpr ⟨(q, c), by simp, rfl⟩))
    have back : ∀ x : Nat → K, Spn ((rows.eraseIdx k).map (cut c q) ++ vs (ps.map (fun b => (b.1, cut c q b.2)) ++ [(q, c)])) (cut c q x) → Spn ((rows.eraseIdx k).map (cut c q) ++ vs (ps.map (fun b => (b.1, cut c q b.2)) ++ [(q, c)])) x := fun x hx => (hx.plus (hcS.smul (x q))).eq fun i => by
      show x i = (x i - x q * c i) + x q * c i
      grind
    rcases List.mem_append.mp hb with hb | hb
    · obtain ⟨j, hj, rfl⟩ := List.getElem_of_mem hb
      by_cases e : j = k
      · subst e
        have : rows[j] = r0 := by rw [List.getElem?_eq_getElem hj] at hk; exact Option.some.inj hk
        rw [this]
        refine (hcS.smul (r0 q)).eq fun i => ?_
        rw [← hc]
        grind
      · refine back _ (Spn.mem (List.mem_append_left _ (List.mem_map.mpr ⟨rows[j], ?_, rfl⟩)))
        refine List.mem_iff_getElem?.mpr ?_
        by_cases l : j < k
        · exact ⟨j, by rw [List.getElem?_eraseIdx, if_pos l]; exact List.getElem?_eq_getElem hj⟩
        · exact ⟨j - 1, by rw [List.getElem?_eraseIdx, if_neg (by omega), show j - 1 + 1 = j by omega]; exact List.getElem?_eq_getElem hj⟩
    · obtain ⟨b', hb', rfl⟩ := mem_vs.mp hb
      exact back _ (Spn.mem (List.mem_append_right _ (mem_vs.mpr ⟨(b'.1, cut c q b'.2), List.mem_append_left _ (List.mem_map.mpr ⟨b', hb', rfl⟩), rfl⟩)))
theorem At.done {n : Nat} {rows : List (Nat → K)} {ps : List (Nat × (Nat → K))} (A : At n n rows ps) (v : Nat → K) : Spn (rows ++ vs ps) v ↔ Spn (vs ps) v := by
  refine ⟨Spn.mono fun b hb => ?_, Spn.mono fun b hb => Spn.mem (List.mem_append_right _ hb)⟩
  rcases List.mem_append.mp hb with hb | hb
  · refine Spn.zero.eq fun i => ?_
    by_cases h : i < n
    · exact A.zero b hb i h
    · exact A.sup b hb i (by omega)
  · exact Spn.mem hb
theorem Rf.put {n l : Nat} {ps qs : List (Nat × (Nat → K))} (R : Rf n ps) {r : Nat → K} (hz : ∀ q ∈ ps, r q.1 = 0) (hl : r l ≠ 0) (low : ∀ i, i < l → r i = 0) (ln : l < n) (sup : ∀ i, n ≤ i → r i = 0)
    (pm : qs.Perm (ps.map (fun q => (q.1, cut (fun i => (r l)⁻¹ * r i) l q.2)) ++ [(l, fun i => (r l)⁻¹ * r i)])) (inc : qs.Pairwise (fun a b => a.1 < b.1)) : Rf n qs ∧ ∀ v, Spn (vs qs) v ↔ Spn (vs ps ++ [r]) v := by
  have c1 : (r l)⁻¹ * r l = 1 := by grind
  have c0 : ∀ i, i < l → (r l)⁻¹ * r i = 0 := fun i hi => by rw [low i hi]; grind
  have cz : ∀ q ∈ ps, (r l)⁻¹ * r q.1 = 0 := fun q hq => by rw [hz q hq]; grind
  have cs : ∀ i, n ≤ i → (r l)⁻¹ * r i = 0 := fun i hi => by rw [sup i hi]; grind
  have ne : ∀ q ∈ ps, q.1 ≠ l := fun q hq e => hl (by rw [← e]; exact hz q hq)
  have crs : Spn (vs ps ++ [r]) (fun i => (r l)⁻¹ * r i) := (Spn.mem (b := r) (by simp)).smul _
  have rc : ∀ i, r i = r l * ((r l)⁻¹ * r i) := fun i => by grind
  generalize hc : (fun i => (r l)⁻¹ * r i) = c at *
  have c1 : c l = 1 := by rw [← hc]; exact c1
  have c0 : ∀ i, i < l → c i = 0 := fun i hi => by rw [← hc]; exact c0 i hi
  have cz : ∀ q ∈ ps, c q.1 = 0 := fun q hq => by rw [← hc]; exact cz q hq
  have cs : ∀ i, n ≤ i → c i = 0 := fun i hi => by rw [← hc]; exact cs i hi
  have rc : ∀ i, r i = r l * c i := fun i => by rw [← hc]; exact rc i
  have inv : ∀ s ∈ qs, (∃ b ∈ ps, s = (b.1, cut c l b.2)) ∨ s = (l, c) := fun s hs => by
    rcases List.mem_append.mp (pm.mem_iff.mp hs) with hs | hs
    · obtain ⟨b, hb, rfl⟩ := List.mem_map.mp hs
      exact .inl ⟨b, hb, rfl⟩
    · exact .inr (List.mem_singleton.mp hs)
  have cq : (l, c) ∈ qs := pm.mem_iff.mpr (by simp)
  refine ⟨⟨inc, fun s hs => ?_, fun s hs i hi => ?_, fun s hs t ht e => ?_, fun s hs => ?_, fun s hs i hi => ?_⟩, fun v => ⟨Spn.mono fun b hb => ?_, Spn.mono fun b hb => ?_⟩⟩
  · rcases inv s hs with ⟨b, hb, rfl⟩ | rfl
    · show b.2 b.1 - b.2 l * c b.1 = 1
      rw [R.one b hb, cz b hb]; grind
    · exact c1
  · rcases inv s hs with ⟨b, hb, rfl⟩ | rfl
    · have hi : i < b.1 := hi
      show b.2 i - b.2 l * c i = 0
      rw [R.low b hb i hi]
      by_cases q : l < b.1
      · rw [R.low b hb l q]; grind
      · rw [c0 i (by omega)]; grind
    · exact c0 i hi
  · rcases inv s hs with ⟨b, hb, rfl⟩ | rfl
    · rcases inv t ht with ⟨d, hd, rfl⟩ | rfl
      · show d.2 b.1 - d.2 l * c b.1 = 0
        rw [R.oth b hb d hd e, cz b hb]; grind
      · exact cz b hb
    · rcases inv t ht with ⟨d, hd, rfl⟩ | rfl
      · show d.2 l - d.2 l * c l = 0
        rw [c1]; grind
      · exact absurd rfl e
  · rcases inv s hs with ⟨b, hb, rfl⟩ | rfl
    · exact R.lt b hb
    · exact ln
  · rcases inv s hs with ⟨b, hb, rfl⟩ | rfl
    · show b.2 i - b.2 l * c i = 0
      rw [R.sup b hb i hi, cs i hi]; grind
    · exact cs i hi
  · obtain ⟨s, hs, rfl⟩ := mem_vs.mp hb
    rcases inv s hs with ⟨b, hb2, rfl⟩ | rfl
    · exact (Spn.mem (List.mem_append_left _ (mem_vs.mpr ⟨b, hb2, rfl⟩))).less (b.2 l) crs
    · exact crs
  · have hcS : Spn (vs qs) c := Spn.mem (mem_vs.mpr ⟨(l, c), cq, rfl⟩)
    rcases List.mem_append.mp hb with hb | hb
    · obtain ⟨b', hb', rfl⟩ := mem_vs.mp hb
      have : (b'.1, cut c l b'.2) ∈ qs := pm.mem_iff.mpr (List.mem_append_left _ (List.mem_map.mpr ⟨b', hb', rfl⟩))
      refine ((Spn.mem (mem_vs.mpr ⟨_, this, rfl⟩)).plus (hcS.smul (b'.2 l))).eq fun i => ?_
      show b'.2 i = (b'.2 i - b'.2 l * c i) + b'.2 l * c i
      grind
    · rw [List.mem_singleton.mp hb]
      exact (hcS.smul (r l)).eq rc
theorem exists_rf {n : Nat} {L : List (Nat → K)} (sup : ∀ b ∈ L, ∀ i, n ≤ i → b i = 0) : ∃ ps, Rf n ps ∧ (∀ v, Spn (vs ps) v ↔ Spn L v) ∧ ps.length ≤ L.length := by
  have step : ∀ q, q ≤ n → ∃ rows ps, At n q rows ps ∧ (∀ v, Spn (rows ++ vs ps) v ↔ Spn L v) ∧ rows.length + ps.length = L.length := fun q => by
    induction q with
    | zero => intro _; exact ⟨L, [], At.start sup, fun v => by simp [vs], rfl⟩
    | succ q ih =>
      intro hq
      obtain ⟨rows, ps, A, sp, len⟩ := ih (by omega)
      by_cases h : ∀ r ∈ rows, r q = 0
      · exact ⟨rows, ps, A.skip h, sp, len⟩
      · have : ∃ r0, ¬ (r0 ∈ rows → r0 q = 0) := Classical.byContradiction fun e => h fun r hr => Classical.byContradiction fun z => e ⟨r, fun y => z (y hr)⟩
        obtain ⟨r0, hr⟩ := this
        have hm : r0 ∈ rows := Classical.byContradiction fun e => hr fun y => absurd y e
        have hne : r0 q ≠ 0 := fun e => hr fun _ => e
        obtain ⟨k, hk⟩ := List.mem_iff_getElem?.mp hm
        obtain ⟨A', sp'⟩ := A.step (by omega) hk hne
        refine ⟨_, _, A', fun v => (sp' v).trans (sp v), ?_⟩
        have hlt : k < rows.length := (List.getElem?_eq_some_iff.mp hk).1
        simp [List.length_eraseIdx, hlt]
        omega
  obtain ⟨rows, ps, A, sp, len⟩ := step n (Nat.le_refl _)
  exact ⟨ps, A.rf, fun v => (A.done v).symm.trans (sp v), by omega⟩
open Classical in
noncomputable def bse (n : Nat) (S : (Nat → K) → Prop) : List (Nat × (Nat → K)) := if h : ∃ ps, Rf n ps ∧ ∀ v, Spn (vs ps) v ↔ S v then h.choose else []
theorem bse_eq {n : Nat} {S : (Nat → K) → Prop} {ps : List (Nat × (Nat → K))} (R : Rf n ps) (h : ∀ v, Spn (vs ps) v ↔ S v) : bse n S = ps := by
  have e : ∃ ps, Rf n ps ∧ ∀ v, Spn (vs ps) v ↔ S v := ⟨ps, R, h⟩
  unfold bse
  rw [dif_pos e]
  exact Rf.uniq e.choose_spec.1 R fun v => (e.choose_spec.2 v).trans (h v).symm
theorem bse_spn {n : Nat} {L : List (Nat → K)} (sup : ∀ b ∈ L, ∀ i, n ≤ i → b i = 0) : Rf n (bse n (Spn L)) ∧ (∀ v, Spn (vs (bse n (Spn L))) v ↔ Spn L v) ∧ (bse n (Spn L)).length ≤ L.length := by
  obtain ⟨ps, R, h, l⟩ := exists_rf sup
  rw [bse_eq R h]
  exact ⟨R, h, l⟩
theorem bse_mono {n m : Nat} {L M : List (Nat → K)} (sl : ∀ b ∈ L, ∀ i, n ≤ i → b i = 0) (sm : ∀ b ∈ M, ∀ i, m ≤ i → b i = 0) (h : ∀ b ∈ L, Spn M b) : (bse n (Spn L)).length ≤ (bse m (Spn M)).length := by
  obtain ⟨R, e, _⟩ := bse_spn sl
  obtain ⟨R', e', _⟩ := bse_spn sm
  exact R.size_le R' fun v hv => (e' v).mpr (Spn.mono h ((e v).mp hv))
def rowsOf (h w : Nat) (A : Nat → Nat → K) : List (Nat → K) := (List.range h).map fun i j => if j < w then A i j else 0
def tr (A : Nat → Nat → K) : Nat → Nat → K := fun i j => A j i
theorem rowsOf_sup (h w : Nat) (A : Nat → Nat → K) : ∀ b ∈ rowsOf h w A, ∀ i, w ≤ i → b i = 0 := fun b hb i hi => by
  obtain ⟨k, _, rfl⟩ := List.mem_map.mp hb
  exact if_neg (by omega)
theorem rowsOf_mem {h w i : Nat} (A : Nat → Nat → K) (hi : i < h) : (fun j => if j < w then A i j else 0) ∈ rowsOf h w A := List.mem_map.mpr ⟨i, List.mem_range.mpr hi, rfl⟩
noncomputable def rk (h w : Nat) (A : Nat → Nat → K) : Nat := (bse w (Spn (rowsOf h w A))).length
theorem spn_sm {M : List (Nat → K)} (n : Nat) (f : Nat → K) (g : Nat → Nat → K) (h : ∀ k, k < n → Spn M (g k)) : Spn M (fun i => sm n fun k => f k * g k i) := by
  induction n with
  | zero => exact .zero
  | succ n ih => exact ((ih fun k hk => h k (by omega)).plus ((h n (by omega)).smul (f n))).eq fun i => rfl
theorem rk_mm_r (h w n : Nat) (A B : Nat → Nat → K) : rk h n (mm w A B) ≤ rk w n B := by
  refine bse_mono (rowsOf_sup _ _ _) (rowsOf_sup _ _ _) fun b hb => ?_
  obtain ⟨i, hi, rfl⟩ := List.mem_map.mp hb
  refine (spn_sm w (A i) (fun k j => if j < n then B k j else 0) fun k hk => Spn.mem (rowsOf_mem B hk)).eq fun j => ?_
  by_cases hj : j < n
  · rw [if_pos hj]
    exact sm_congr fun k _ => by rw [if_pos hj]
  · rw [if_neg hj]
    exact (sm_z fun k _ => by rw [if_neg hj]; grind).symm
end
end La
namespace La
section
variable {K : Type} [Lean.Grind.Field K] [DecidableEq K]
theorem sm_two {n a b : Nat} {f : Nat → K} (ha : a < n) (hb : b < n) (ne : a ≠ b) (h : ∀ i, i < n → i ≠ a → i ≠ b → f i = 0) : sm n f = f a + f b := by
  have e : sm n f = sm n (fun i => (if i = a then f a else 0) + (if i = b then f b else 0)) := sm_congr fun i hi => by
    by_cases h1 : i = a
    · subst h1; rw [if_pos rfl, if_neg ne]; grind
    · by_cases h2 : i = b
      · subst h2; rw [if_neg h1, if_pos rfl]; grind
      · rw [if_neg h1, if_neg h2, h i hi h1 h2]; grind
  rw [e, sm_add, sm_one ha fun i _ hi => if_neg hi, sm_one hb fun i _ hi => if_neg hi, if_pos rfl, if_pos rfl]
def dt (n : Nat) (u v : Nat → K) : K := sm n fun k => u k * v k
theorem dt_add (n : Nat) (u v w : Nat → K) (c : K) : dt n (fun i => u i + c * v i) w = dt n u w + c * dt n v w := by
  unfold dt
  rw [← sm_mul, ← sm_add]
  exact sm_congr fun i _ => by grind
theorem dt_addr (n : Nat) (u v w : Nat → K) (c : K) : dt n w (fun i => u i + c * v i) = dt n w u + c * dt n w v := by
  unfold dt
  rw [← sm_mul, ← sm_add]
  exact sm_congr fun i _ => by grind
theorem dt_zero (n : Nat) (w : Nat → K) : dt n w (fun _ => 0) = 0 := sm_z fun i _ => by grind
theorem dt_zerol (n : Nat) (w : Nat → K) : dt n (fun _ => 0) w = 0 := sm_z fun i _ => by grind
def Kr (w : Nat) (L : List (Nat → K)) (v : Nat → K) : Prop := (∀ i, w ≤ i → v i = 0) ∧ ∀ r ∈ L, dt w r v = 0
theorem Kr.spn {w : Nat} {L : List (Nat → K)} {v : Nat → K} (h : Kr w L v) {r : Nat → K} (hr : Spn L r) : dt w r v = 0 := by
  induction hr with
  | zero => exact dt_zerol w v
  | add c hb _ ih => rw [dt_add, ih, h.2 _ hb]; grind
theorem Kr.iff {w : Nat} {L M : List (Nat → K)} (h : ∀ v, Spn L v ↔ Spn M v) (v : Nat → K) : Kr w L v ↔ Kr w M v :=
  ⟨fun k => ⟨k.1, fun r hr => k.spn ((h r).mpr (Spn.mem hr))⟩, fun k => ⟨k.1, fun r hr => k.spn ((h r).mp (Spn.mem hr))⟩⟩
theorem Kr.of_spn {w : Nat} {L M : List (Nat → K)} (h : ∀ b ∈ M, Kr w L b) {v : Nat → K} (hv : Spn M v) : Kr w L v := by
  induction hv with
  | zero => exact ⟨fun _ _ => rfl, fun r _ => dt_zero w r⟩
  | add c hb _ ih =>
    have := h _ hb
    exact ⟨fun i hi => by show _ + _ * _ = _; rw [ih.1 i hi, this.1 i hi]; grind, fun r hr => by rw [dt_addr, ih.2 r hr, this.2 r hr]; grind⟩
def isLead (ps : List (Nat × (Nat → K))) (i : Nat) : Bool := ps.any fun q => q.1 == i
theorem isLead_iff {ps : List (Nat × (Nat → K))} {i : Nat} : isLead ps i = true ↔ ∃ q ∈ ps, q.1 = i := by
  unfold isLead
  rw [List.any_eq_true]
  exact ⟨fun ⟨q, h, e⟩ => ⟨q, h, by simpa using e⟩, fun ⟨q, h, e⟩ => ⟨q, h, by simpa using e⟩⟩
structure Kv (ps : List (Nat × (Nat → K))) (j : Nat) (v : Nat → K) : Prop where
  at_ : ∀ q ∈ ps, v q.1 = - q.2 j
  no : ∀ i, isLead ps i = false → v i = if i = j then 1 else 0
theorem Kv.kr {n j : Nat} {ps : List (Nat × (Nat → K))} (R : Rf n ps) {v : Nat → K} (k : Kv ps j v) (hj : j < n) (nl : isLead ps j = false) : Kr n (vs ps) v := by
  refine ⟨fun i hi => ?_, fun r hr => ?_⟩
  · have : isLead ps i = false := by
      cases e : isLead ps i with
      | false => rfl
      | true =>
        obtain ⟨q, hq, e⟩ := isLead_iff.mp e
        have := R.lt q hq
        omega
    rw [k.no i this, if_neg (by omega)]
  · obtain ⟨q, hq, rfl⟩ := mem_vs.mp hr
    have ne : j ≠ q.1 := fun e => by
      have : isLead ps j = true := isLead_iff.mpr ⟨q, hq, e.symm⟩
      rw [nl] at this
      cases this
    unfold dt
    rw [sm_two hj (R.lt q hq) ne fun i hi h1 h2 => ?_]
    · rw [k.at_ q hq, R.one q hq, k.no j nl, if_pos rfl]; grind
    · cases e : isLead ps i with
      | false => rw [k.no i e, if_neg h1]; grind
      | true =>
        obtain ⟨s, hs, rfl⟩ := isLead_iff.mp e
        rw [R.oth s hs q hq h2]; grind
theorem kr_spn {n : Nat} {ps : List (Nat × (Nat → K))} (R : Rf n ps) (g : Nat → Nat → K) (hg : ∀ j, j < n → isLead ps j = false → Kv ps j (g j)) (v : Nat → K) :
    Spn (((List.range n).filter fun j => !isLead ps j).map g) v ↔ Kr n (vs ps) v := by
  have hm : ∀ b ∈ ((List.range n).filter fun j => !isLead ps j).map g, Kr n (vs ps) b := fun b hb => by
    obtain ⟨j, hj, rfl⟩ := List.mem_map.mp hb
    obtain ⟨h1, h2⟩ := List.mem_filter.mp hj
    have h2 : isLead ps j = false := by simpa using h2
    exact (hg j (List.mem_range.mp h1) h2).kr R (List.mem_range.mp h1) h2
  refine ⟨Kr.of_spn hm, fun hv => ?_⟩
  let u : Nat → K := fun i => sm n fun j => (if isLead ps j = true then 0 else v j) * (if isLead ps j = true then 0 else g j i)
  have hu : Spn (((List.range n).filter fun j => !isLead ps j).map g) u := by
    refine spn_sm n (fun j => if isLead ps j = true then 0 else v j) (fun j i => if isLead ps j = true then 0 else g j i) fun j hj => ?_
    cases e : isLead ps j with
    | true => exact Spn.zero.eq fun i => by simp
    | false => exact (Spn.mem (List.mem_map.mpr ⟨j, List.mem_filter.mpr ⟨List.mem_range.mpr hj, by rw [e]; rfl⟩, rfl⟩)).eq fun i => by simp
  have ku := Kr.of_spn hm hu
  -- the difference
  have kd : Kr n (vs ps) (fun i => v i + (-1) * u i) := ⟨fun i hi => by show v i + (-1) * u i = 0; rw [hv.1 i hi, ku.1 i hi]; grind, fun r hr => by rw [dt_addr, hv.2 r hr, ku.2 r hr]; grind⟩
  have z1 : ∀ i, i < n → isLead ps i = false → v i + (-1) * u i = 0 := fun i hi e => by
    have : u i = v i := by
      show sm n _ = _
      rw [sm_one hi fun j hj hne => ?_]
      · rw [e]
        simp only [Bool.false_eq_true, if_false]
        rw [(hg i hi e).no i e, if_pos rfl]
        grind
      · cases ej : isLead ps j with
        | true => simp only [if_true]; grind
        | false =>
          simp only [Bool.false_eq_true, if_false]
          rw [(hg j hj ej).no i e, if_neg (fun z => hne z.symm)]
          grind
    rw [this]; grind
  have z2 : ∀ q ∈ ps, v q.1 + (-1) * u q.1 = 0 := fun q hq => by
    have := kd.2 q.2 (mem_vs.mpr ⟨q, hq, rfl⟩)
    unfold dt at this
    rw [sm_one (R.lt q hq) fun i hi hne => ?_] at this
    · rw [R.one q hq] at this
      grind
    · show q.2 i * (v i + (-1) * u i) = 0
      cases e : isLead ps i with
      | false => rw [z1 i hi e]; grind
      | true =>
        obtain ⟨s, hs, rfl⟩ := isLead_iff.mp e
        rw [R.oth s hs q hq hne]; grind
  refine hu.eq fun i => ?_
  have : v i + (-1) * u i = 0 := by
    by_cases hi : i < n
    · cases e : isLead ps i with
      | false => exact z1 i hi e
      | true =>
        obtain ⟨q, hq, rfl⟩ := isLead_iff.mp e
        exact z2 q hq
    · rw [hv.1 i (by omega), ku.1 i (by omega)]; grind
  grind
theorem kv_ex {n : Nat} {ps : List (Nat × (Nat → K))} (R : Rf n ps) (j : Nat) (nl : isLead ps j = false) : Kv ps j (fun i => if isLead ps i = true then - (cmb ps (fun l => if l = i then 1 else 0) j) else if i = j then 1 else 0) := by
  refine ⟨fun q hq => ?_, fun i hi => by rw [if_neg (by rw [hi]; exact Bool.false_ne_true)]⟩
  rw [if_pos (isLead_iff.mpr ⟨q, hq, rfl⟩), cmb_one ps R.inc hq _ (if_pos rfl) fun r hr hne => if_neg hne]
theorem rf_units (m : Nat) : Rf m ((List.range m).map fun i => (i, fun j => if j < m then (dl i j : K) else 0)) := by
  have inv : ∀ q ∈ (List.range m).map (fun i => (i, fun j => if j < m then (dl i j : K) else 0)), q.1 < m ∧ ∀ j, q.2 j = if j < m then dl q.1 j else 0 := fun q hq => by
    obtain ⟨i, hi, rfl⟩ := List.mem_map.mp hq
    exact ⟨List.mem_range.mp hi, fun j => rfl⟩
  refine ⟨List.pairwise_map.mpr List.pairwise_lt_range, fun q hq => ?_, fun q hq i hi => ?_, fun q hq r hr e => ?_, fun q hq => (inv q hq).1, fun q hq i hi => ?_⟩
  · rw [(inv q hq).2, if_pos (inv q hq).1]; unfold dl; rw [if_pos rfl]
  · rw [(inv q hq).2]; have := (inv q hq).1; rw [if_pos (by omega)]; unfold dl; rw [if_neg (by omega)]
  · rw [(inv r hr).2]; have := (inv q hq).1; rw [if_pos (by omega)]; unfold dl; rw [if_neg (fun z => e z.symm)]
  · rw [(inv q hq).2, if_neg (by omega)]
theorem rk_units (m : Nat) : rk m m (fun i j => (dl i j : K)) = m := by
  unfold rk
  have e : rowsOf m m (fun i j => (dl i j : K)) = vs ((List.range m).map fun i => (i, fun j => if j < m then (dl i j : K) else 0)) := by
    unfold rowsOf vs
    rw [List.map_map]
    rfl
  rw [bse_eq (rf_units m) (fun v => by rw [e])]
  simp
theorem rk_le_h (h w : Nat) (A : Nat → Nat → K) : rk h w A ≤ h := by
  have := (bse_spn (rowsOf_sup h w A)).2.2
  unfold rk
  have e : (rowsOf h w A).length = h := by unfold rowsOf; simp
  omega
theorem cmb_sm (ps : List (Nat × (Nat → K))) (v : Nat → K) (i : Nat) : cmb ps v i = sm ps.length (fun k => v ((ps[k]?.getD (0, fun _ => 0)).1) * (ps[k]?.getD (0, fun _ => 0)).2 i) := by
  induction ps with
  | nil => rfl
  | cons q ps ih =>
    rw [cmb_cons, ih, List.length_cons, sm_head]
    simp
theorem piv_le {n m : Nat} {L : List (Nat → K)} (sup : ∀ b ∈ L, ∀ i, n ≤ i → b i = 0) (piv : Nat → Nat) (f : Nat → Nat → K) (hf : ∀ k, k < m → Spn L (f k)) (h : ∀ k l, k < m → l < m → f k (piv l) = dl k l) : m ≤ (bse n (Spn L)).length := by
  obtain ⟨R, e, _⟩ := bse_spn sup
  generalize bse n (Spn L) = ps at R e ⊢
  have : rk m m (fun i j => (dl i j : K)) ≤ ps.length := by
    have eq : rk m m (fun i j => (dl i j : K)) = rk m m (mm ps.length (fun k a => f k ((ps[a]?.getD (0, fun _ => 0)).1)) (fun a l => (ps[a]?.getD (0, fun _ => 0)).2 (piv l))) := by
      unfold rk rowsOf
      congr 3
      refine List.map_congr_left fun k hk => funext fun l => ?_
      by_cases hl : l < m
      · rw [if_pos hl, if_pos hl]
        show dl k l = mm ps.length (fun k a => f k ((ps[a]?.getD (0, fun _ => 0)).1)) (fun a l => (ps[a]?.getD (0, fun _ => 0)).2 (piv l)) k l
        rw [← h k l (List.mem_range.mp hk) hl, R.coord ((e _).mpr (hf k (List.mem_range.mp hk))), cmb_sm]
        rfl
      · rw [if_neg hl, if_neg hl]
    rw [eq]
    exact Nat.le_trans (rk_mm_r _ _ _ _ _) (rk_le_h _ _ _)
  rw [rk_units] at this
  exact this
theorem kr_size {w : Nat} {ps : List (Nat × (Nat → K))} (R : Rf w ps) (g : Nat → Nat → K) (hg : ∀ j, j < w → isLead ps j = false → Kv ps j (g j)) :
    (bse w (Spn (((List.range w).filter fun j => !isLead ps j).map g))).length = w - ps.length := by
  have sup : ∀ b ∈ ((List.range w).filter fun j => !isLead ps j).map g, ∀ i, w ≤ i → b i = 0 := fun b hb => ((kr_spn R g hg b).mp (Spn.mem hb)).1
  have len : ((List.range w).filter fun j => !isLead ps j).length = w - ps.length := by
    have h1 : ((List.range w).filter fun j => isLead ps j).length = ps.length := by
      have a : ((List.range w).filter fun j => isLead ps j).length ≤ (ps.map Prod.fst).length := nodup_len (List.nodup_range.filter _) fun x hx => by
        obtain ⟨q, hq, e⟩ := isLead_iff.mp (List.mem_filter.mp hx).2
        exact List.mem_map.mpr ⟨q, hq, e⟩
      have b : (ps.map Prod.fst).length ≤ ((List.range w).filter fun j => isLead ps j).length := nodup_len R.nodup1 fun x hx => by
        obtain ⟨q, hq, rfl⟩ := List.mem_map.mp hx
        exact List.mem_filter.mpr ⟨List.mem_range.mpr (R.lt q hq), isLead_iff.mpr ⟨q, hq, rfl⟩⟩
      rw [List.length_map] at a b
      omega
    have h2 : ∀ l : List Nat, (l.filter fun j => !isLead ps j).length + (l.filter fun j => isLead ps j).length = l.length := fun l => by
      induction l with
      | nil => rfl
      | cons x l ih => rw [List.filter_cons, List.filter_cons]; cases isLead ps x <;> simp <;> omega
    have := h2 (List.range w)
    rw [List.length_range] at this
    omega
  refine Nat.le_antisymm ?_ ?_
  · have := (bse_spn sup).2.2
    rw [List.length_map, len] at this
    exact this
  · rw [← len]
    let js := (List.range w).filter fun j => !isLead ps j
    have hj : ∀ k, k < js.length → js[k]?.getD 0 < w ∧ isLead ps (js[k]?.getD 0) = false ∧ js[k]?.getD 0 ∈ js := fun k hk => by
      have hm : js[k]?.getD 0 ∈ js := by rw [List.getElem?_eq_getElem hk]; exact List.getElem_mem hk
      obtain ⟨h1, h2⟩ := List.mem_filter.mp hm
      exact ⟨List.mem_range.mp h1, by simpa using h2, hm⟩
    refine piv_le sup (fun l => js[l]?.getD 0) (fun k => g (js[k]?.getD 0)) (fun k hk => Spn.mem (List.mem_map.mpr ⟨_, (hj k hk).2.2, rfl⟩)) fun k l hk hl => ?_
    rw [(hg _ (hj k hk).1 (hj k hk).2.1).no _ (hj l hl).2.1]
    unfold dl
    have inj : js[l]?.getD 0 = js[k]?.getD 0 ↔ k = l := by
      rw [List.getElem?_eq_getElem hk, List.getElem?_eq_getElem hl]
      show js[l] = js[k] ↔ _
      rw [List.getElem_inj (List.nodup_range.filter _)]
      exact eq_comm
    by_cases e : k = l
    · rw [if_pos e, if_pos (inj.mpr e)]
    · rw [if_neg e, if_neg (fun z => e (inj.mp z))]
theorem kr_bse {w : Nat} {L : List (Nat → K)} (sup : ∀ b ∈ L, ∀ i, w ≤ i → b i = 0) : Rf w (bse w (Kr w L)) ∧ (∀ v, Spn (vs (bse w (Kr w L))) v ↔ Kr w L v) ∧ (bse w (Kr w L)).length = w - (bse w (Spn L)).length := by
  obtain ⟨R, e, _⟩ := bse_spn sup
  have k1 : ∀ v, Kr w (vs (bse w (Spn L))) v ↔ Kr w L v := fun v => Kr.iff e v
  generalize bse w (Spn L) = ps at R e k1 ⊢
  have hg := fun j (_ : j < w) (nl : isLead ps j = false) => kv_ex R j nl
  have sp := kr_spn R _ hg
  have sz := kr_size R _ hg
  generalize ((List.range w).filter fun j => !isLead ps j).map _ = M at sp sz
  have sm : ∀ b ∈ M, ∀ i, w ≤ i → b i = 0 := fun b hb => ((sp b).mp (Spn.mem hb)).1
  obtain ⟨R', e', _⟩ := bse_spn sm
  have : bse w (Kr w L) = bse w (Spn M) := bse_eq R' fun v => (e' v).trans ((sp v).trans (k1 v))
  rw [this]
  exact ⟨R', fun v => (e' v).trans ((sp v).trans (k1 v)), sz⟩
end
end La
namespace La
variable {K : Type} [Lean.Grind.Field K] [DecidableEq K]
end La
set_option maxHeartbeats 4000000
namespace Mn
open PySem PySem.Spec PyProof.Rows
open L2 (atI ixN cutS)
end Mn
namespace Mn
open PySem PySem.Spec PyProof.Rows
open L2 (atI ixN cutS)
end Mn
namespace Mn
open PySem PySem.Spec PyProof.Rows
open L2 (atI ixN cutS)
end Mn
namespace Mn
open PySem PySem.Spec PyProof.Rows
open L2 (atI ixN cutS)
end Mn
namespace Mn
open PySem PySem.Spec PyProof.Rows
open L2 (atI ixN cutS)
end Mn
namespace Mn
open PySem PySem.Spec PyProof.Rows
open L2 (atI ixN cutS)
end Mn
namespace Mn
open PySem PySem.Spec PyProof.Rows
open L2 (atI ixN cutS)
end Mn
namespace Mn
open PySem PySem.Spec PyProof.Rows
open L2 (atI ixN cutS)
end Mn
namespace Mn
open PySem PySem.Spec PyProof.Rows
open L2 (atI ixN cutS)
end Mn
set_option maxHeartbeats 1000000
namespace La
open Mn
open PySem
open L2 (atI ixN atI_nat)
theorem lim : LIM = 1000000 := rfl
theorem mulG_l {x y : Int} (h1 : -1000000000000000 ≤ x) (h2 : x ≤ 1000000000000000) : mulG x y = some (x * y) := by
  unfold mulG
  rw [z_small_of h1 h2]
  rfl
theorem mulG_r {x y : Int} (h1 : -1000000000000000 ≤ y) (h2 : y ≤ 1000000000000000) : mulG x y = some (x * y) := by
  unfold mulG
  rw [z_small_of h1 h2, Bool.or_true]
  rfl
theorem modG_s {x y : Int} (h : 0 < y) : modG x y = some (x % y) := if_pos h
theorem fdivG_s {x y : Int} (h : 0 < y) (h2 : y < 1073741824) : fdivG x y = some (x / y) := if_pos ⟨h, h2⟩
theorem rng1_s {n : Nat} (h : n ≤ 1000000) : rng1 (n : Int) = some ((List.range n).map fun i : Nat => (i : Int)) := by
  unfold rng1
  rw [if_pos ⟨by omega, by omega⟩, Int.toNat_natCast]
theorem rng1_z {n : Int} (h0 : 0 ≤ n) (h : n ≤ 1000000) : rng1 n = some ((List.range n.toNat).map fun i : Nat => (i : Int)) := by
  unfold rng1
  rw [if_pos ⟨by omega, by omega⟩]
theorem rng2_s {a b : Int} (h0 : -1000000 ≤ a) (h1 : a ≤ 1000000) (h2 : -1000000 ≤ b) (h3 : b ≤ 1000000) : rng2 a b = some ((List.range (b - a).toNat).map fun i : Nat => a + (i : Int)) := by
  unfold rng2
  rw [if_pos ⟨h0, h1, h2, h3⟩]
theorem mapO_s {α β : Type} {f : α → Option β} {g : α → β} : ∀ {xs : List α}, (∀ x ∈ xs, f x = some (g x)) → mapO f xs = some (xs.map g)
  | [], _ => rfl
  | x :: xs, h => by
    unfold mapO
    rw [h x (by simp), mapO_s fun y hy => h y (by simp [hy])]
    rfl
theorem mapG_s {α β : Type} {f : α → Option β} {xs : List α} (g : α → β) (h : ∀ x ∈ xs, f x = some (g x)) (hl : xs.length ≤ LIM) : mapG xs f = some (xs.map g) := by
  unfold mapG
  rw [if_pos hl, mapO_s h]
theorem mapG_r {α β : Type} {f : α → Option β} {φ : Nat → α} {n : Nat} (g : Nat → β) (h : ∀ i, i < n → f (φ i) = some (g i)) (hl : n ≤ 1000000) : mapG ((List.range n).map φ) f = some ((List.range n).map g) := by
  have : mapO f ((List.range n).map φ) = some ((List.range n).map g) := by
    have : ∀ xs : List Nat, (∀ i ∈ xs, f (φ i) = some (g i)) → mapO f (xs.map φ) = some (xs.map g) := fun xs => by
      induction xs with
      | nil => intro _; rfl
      | cons x xs ih =>
        intro h
        rw [List.map_cons, List.map_cons]
        unfold mapO
        rw [h x (by simp), ih fun i hi => h i (by simp [hi])]
        rfl
    exact this _ fun i hi => h i (List.mem_range.mp hi)
  unfold mapG
  rw [if_pos (by rw [List.length_map, List.length_range, lim]; exact hl), this]
theorem appG_s {α : Type} {xs : List α} {x : α} (h : xs.length < 1000000) : appG xs x = some (xs ++ [x]) := if_pos h
theorem catG_s {α : Type} {xs ys : List α} (h : xs.length + ys.length ≤ 1000000) : catG xs ys = some (xs ++ ys) := if_pos h
theorem foldO_r {α β : Type} {f : α → List β → Option (List β)} {φ : Nat → α} {n : Nat} (g : Nat → β) (h : ∀ i, i < n → ∀ s, f (φ i) s = appG s (g i)) (hl : n ≤ 1000000) : foldO f ((List.range n).map φ) [] = some ((List.range n).map g) := by
  have : ∀ (xs : List Nat) (s : List β), (∀ i ∈ xs, i < n) → s.length + xs.length ≤ 1000000 → foldO f (xs.map φ) s = some (s ++ xs.map g) := fun xs => by
    induction xs with
    | nil => intro s _ _; simp [foldO]
    | cons x xs ih =>
      intro s hx hs
      rw [List.map_cons]
      unfold foldO
      rw [List.length_cons] at hs
      rw [h x (hx x (by simp)) s, appG_s (by omega)]
      show foldO f (xs.map φ) (s ++ [g x]) = _
      rw [ih _ (fun i hi => hx i (by simp [hi])) (by rw [List.length_append, List.length_cons, List.length_nil]; omega)]
      simp
  have := this (List.range n) [] (fun i hi => List.mem_range.mp hi) (by simp; omega)
  simpa using this
theorem foldO_inv {σ α : Type} {f : α → σ → Option σ} {φ : Nat → α} {n : Nat} (I : Nat → σ → Prop) {s0 : σ} (h0 : I 0 s0) (h : ∀ i s, i < n → I i s → ∃ s', f (φ i) s = some s' ∧ I (i + 1) s') : ∃ s, foldO f ((List.range n).map φ) s0 = some s ∧ I n s := by
  induction n generalizing φ s0 I with
  | zero => exact ⟨s0, rfl, h0⟩
  | succ n ih =>
    rw [List.range_succ_eq_map, List.map_cons, List.map_map]
    obtain ⟨s1, e1, h1⟩ := h 0 s0 (by omega) h0
    obtain ⟨s, e, hs⟩ := ih (φ := φ ∘ Nat.succ) (fun i s => I (i + 1) s) h1 (fun i s hi q => h (i + 1) s (by omega) q)
    refine ⟨s, ?_, hs⟩
    unfold foldO
    rw [e1]
    exact e
theorem loopO_nx {σ ρ α : Type} {f : α → σ → Option (Lp σ ρ)} {φ : Nat → α} {n : Nat} (S : Nat → σ) (h : ∀ i, i < n → f (φ i) (S i) = some (.nx (S (i + 1)))) : loopO f ((List.range n).map φ) (S 0) = some (.nx (S n)) := by
  induction n generalizing φ S with
  | zero => rfl
  | succ n ih =>
    rw [List.range_succ_eq_map, List.map_cons, List.map_map]
    unfold loopO
    rw [h 0 (by omega)]
    exact ih (φ := φ ∘ Nat.succ) (fun i => S (i + 1)) fun i hi => h (i + 1) (by omega)
theorem zip_r {α β : Type} (f : Nat → α) (g : Nat → β) (n : Nat) : List.zip ((List.range n).map f) ((List.range n).map g) = (List.range n).map fun i => (f i, g i) := by
  generalize List.range n = xs
  induction xs with
  | nil => rfl
  | cons x xs ih => simp [ih]
theorem at_r {α : Type} (f : Nat → α) {n i : Nat} (h : i < n) : atI ((List.range n).map f) (i : Int) = some (f i) := atI_nat (by rw [List.getElem?_map, List.getElem?_range h]; rfl)
theorem r_inj {α : Type} {f g : Nat → α} {n : Nat} : (List.range n).map f = (List.range n).map g ↔ ∀ i, i < n → f i = g i := by
  constructor
  · intro h i hi
    have : ((List.range n).map f)[i]? = ((List.range n).map g)[i]? := by rw [h]
    rw [List.getElem?_map, List.getElem?_map, List.getElem?_range hi] at this
    exact Option.some.inj this
  · intro h
    exact List.map_congr_left fun i hi => h i (List.mem_range.mp hi)
theorem r_len {α : Type} (f : Nat → α) (n : Nat) : ((List.range n).map f).length = n := by rw [List.length_map, List.length_range]
variable {p : Int} [Pr p]
def lst (n : Nat) (v : Nat → Fp p) : List Int := (List.range n).map fun i => (v i).v
def rws (h w : Nat) (A : Nat → Nat → Fp p) : List (List Int) := (List.range h).map fun i => lst w (A i)
def tb (h w : Nat) (A : Nat → Nat → Fp p) : Int × Int × List (List Int) := ((h : Int), (w : Int), rws h w A)
theorem lst_len (n : Nat) (v : Nat → Fp p) : (lst n v).length = n := r_len _ _
theorem lst_at {n i : Nat} (v : Nat → Fp p) (h : i < n) : atI (lst n v) (i : Int) = some (v i).v := at_r _ h
theorem rws_at {n w i : Nat} (A : Nat → Nat → Fp p) (h : i < n) : atI (rws n w A) (i : Int) = some (lst w (A i)) := at_r _ h
theorem lst_eq {n : Nat} {v w : Nat → Fp p} : lst n v = lst n w ↔ ∀ i, i < n → v i = w i := by
  unfold lst
  rw [r_inj]
  exact ⟨fun h i hi => Fp.ext (h i hi), fun h i hi => by rw [h i hi]⟩
theorem v_small (a : Fp p) : -1000000000000000 ≤ a.v ∧ a.v ≤ 1000000000000000 := by
  have := a.lo; have := a.hi; have := Pr.le (p := p); omega
theorem sum_r (n : Nat) (f : Nat → Int) : ((List.range (n + 1)).map f).sum = ((List.range n).map f).sum + f n := by
  rw [List.range_succ, List.map_append, List.sum_append, List.map_singleton, List.sum_singleton]
theorem dot_sm (n : Nat) (a b : Nat → Fp p) : ((List.range n).map fun i => (a i).v * (b i).v).sum % p = (sm n fun i => a i * b i).v := by
  induction n with
  | zero => show (0 : Int) % p = (0 : Fp p).v; rw [Fp.zero_v, Int.zero_emod]
  | succ n ih =>
    rw [sum_r, sm_succ, Fp.add_v, ← ih, Fp.mul_v, ← Int.add_emod]
theorem pP : 0 < p := Pr.pos
theorem f_summed (n : Nat) (hn : n ≤ 1000000) (a b : Nat → Fp p) : F_summed p (lst n a) (lst n b) = some (sm n fun i => a i * b i).v := by
  unfold F_summed lst
  rw [zip_r, mapG_r (fun i => (a i).v * (b i).v) (fun i _ => mulG_l (v_small _).1 (v_small _).2) hn]
  rw [Option.bind_some, modG_s pP, dot_sm]
theorem f_led (h w : Nat) (hh : h ≤ 1000000) (hw : w ≤ 1000000) (A : Nat → Nat → Fp p) (v : Nat → Fp p) : F_led p (tb h w A) (lst w v) = some (lst h (ml w A v)) := by
  unfold F_led tb rws
  rw [mapG_r (fun i => (ml w A v i).v) (fun i _ => f_summed w hw (A i) v) hh]
  rfl
end La
set_option maxHeartbeats 4000000
namespace Mn
open PySem PySem.Spec PyProof.Rows
open L2 (atI ixN cutS)
end Mn
set_option maxHeartbeats 1000000
namespace La
open Mn
open PySem
open L2 (atI ixN atI_nat)
variable {p : Int} [Pr p]
theorem Fp.v_ne {x : Fp p} : x ≠ 0 ↔ x.v ≠ 0 := by
  rw [Ne, Fp.ext_iff, Fp.zero_v]
theorem f_inverse (x : Fp p) (h : x ≠ 0) : F_inverse p x.v = some (x⁻¹).v := by
  have h0 := Fp.v_ne.mp h
  have hp := Pr.pr (p := p)
  have lo := x.lo
  have hi := x.hi
  obtain ⟨v, l, u⟩ := x
  simp only at h0 lo hi ⊢
  rcases hp with rfl | rfl | rfl | rfl
  · have : v = 1 := by omega
    subst this; rfl
  · have : v = 1 ∨ v = 2 := by omega
    rcases this with rfl | rfl <;> rfl
  · have : v = 1 ∨ v = 2 ∨ v = 3 ∨ v = 4 := by omega
    rcases this with rfl | rfl | rfl | rfl <;> rfl
  · have : v = 1 ∨ v = 2 ∨ v = 3 ∨ v = 4 ∨ v = 5 ∨ v = 6 := by omega
    rcases this with rfl | rfl | rfl | rfl | rfl | rfl <;> rfl
theorem f_less (n : Nat) (hn : n ≤ 1000000) (r o : Nat → Fp p) (t : Fp p) : F_less p (lst n r) (lst n o) t.v = some (lst n fun i => r i - t * o i) := by
  unfold F_less lst
  rw [zip_r, mapG_r (fun i => (r i - t * o i).v) (fun i _ => ?_) hn]
  rw [mulG_l (v_small _).1 (v_small _).2, Option.bind_some, modG_s pP]
  rw [Fp.sub_v, Fp.mul_v, Int.sub_emod, Int.sub_emod (r i).v, Int.emod_emod_of_dvd _ (Int.dvd_refl p)]
theorem mapG_m {α β γ : Type} {f : β → Option γ} {φ : α → β} {xs : List α} (g : α → γ) (h : ∀ x ∈ xs, f (φ x) = some (g x)) (hl : xs.length ≤ 1000000) : mapG (xs.map φ) f = some (xs.map g) := by
  unfold mapG
  rw [if_pos (by rw [List.length_map, lim]; exact hl)]
  induction xs with
  | nil => rfl
  | cons x xs ih =>
    rw [List.map_cons, List.map_cons]
    unfold mapO
    rw [h x (by simp), Option.bind_some, ih (fun y hy => h y (by simp [hy])) (by simp at hl; omega)]
    rfl
theorem v_ne0 (x : Fp p) : decide (x.v = 0) = decide (x = 0) := by
  by_cases e : x = 0
  · subst e; simp [Fp.zero_v]
  · rw [decide_eq_false e, decide_eq_false (Fp.v_ne.mp e)]
theorem f_first_with (n q : Nat) (hq : q < n) (rows : List (Nat → Fp p)) : ∃ o, F_first_with (rows.map (lst n)) (q : Int) = some o ∧ ((o = none ∧ ∀ r ∈ rows, r q = 0) ∨ ∃ (k : Nat) (r0 : Nat → Fp p), o = some (k : Int) ∧ rows[k]? = some r0 ∧ r0 q ≠ 0) := by
  unfold F_first_with
  have key : ∀ (rows : List (Nat → Fp p)) (j : Nat), ∃ o, loopO (ρ := Option Int) (fun (x2 : Int × List Int) (s1 : Unit) => (atI x2.2 (q : Int)).bind fun (t3 : Int) => if (!decide (t3 = (0 : Int))) = true then ((some ((some x2.1))).bind fun r => some (Lp.rt r)) else (some (Lp.nx (())))) (enI j (rows.map (lst n))) () = some o ∧
      ((o = .nx () ∧ ∀ r ∈ rows, r q = 0) ∨ ∃ (k : Nat) (r0 : Nat → Fp p), o = .rt (some ((j + k : Nat) : Int)) ∧ rows[k]? = some r0 ∧ r0 q ≠ 0) := fun rows => by
    induction rows with
    | nil => intro j; exact ⟨.nx (), rfl, .inl ⟨rfl, fun r hr => absurd hr (by simp)⟩⟩
    | cons r rows ih =>
      intro j
      rw [List.map_cons]
      unfold enI loopO
      rw [lst_at _ hq, Option.bind_some, v_ne0]
      by_cases e : r q = 0
      · obtain ⟨o, h1, h2⟩ := ih (j + 1)
        refine ⟨o, ?_, ?_⟩
        · rw [if_neg (by simp [e])]
          exact h1
        · rcases h2 with ⟨rfl, h2⟩ | ⟨k, r0, rfl, h3, h4⟩
          · exact .inl ⟨rfl, fun s hs => (List.mem_cons.mp hs).elim (fun z => by rw [z]; exact e) (h2 s)⟩
          · exact .inr ⟨k + 1, r0, by rw [show j + 1 + k = j + (k + 1) by omega], by simpa using h3, h4⟩
      · refine ⟨.rt (some (j : Int)), ?_, .inr ⟨0, r, by simp, rfl, e⟩⟩
        rw [if_pos (by simp [e])]
        rfl
  obtain ⟨o, h1, h2⟩ := key rows 0
  rw [h1]
  rcases h2 with ⟨rfl, h2⟩ | ⟨k, r0, rfl, h3, h4⟩
  · exact ⟨none, rfl, .inl ⟨rfl, h2⟩⟩
  · exact ⟨some (k : Int), by show some (some _) = _; simp, .inr ⟨k, r0, rfl, h3, h4⟩⟩
theorem map_erase' {α β : Type} {f : α → β} : ∀ (xs : List α) (k : Nat), (xs.map f).eraseIdx k = (xs.eraseIdx k).map f
  | [], k => by simp
  | _ :: _, 0 => rfl
  | x :: xs, k + 1 => by simp [map_erase' xs k]
theorem popG_m {α β : Type} {φ : α → β} {xs : List α} {k : Nat} {x : α} (h : xs[k]? = some x) (hl : xs.length ≤ 1000000) : popG (xs.map φ) (k : Int) = some ((xs.eraseIdx k).map φ, φ x) := by
  unfold popG
  rw [if_pos (by omega), Int.toNat_natCast, List.getElem?_map, h]
  show (if _ then _ else _) = _
  rw [if_pos (by rw [List.length_map]; exact hl), map_erase']
theorem f_over (n : Nat) (hn : n ≤ 1000000) (c : Fp p) (r : Nat → Fp p) : mapG (lst n r) (fun y => (mulG c.v y).bind fun t => modG t p) = some (lst n fun i => c * r i) := by
  unfold lst
  rw [mapG_r (fun i => (c * r i).v) (fun i _ => ?_) hn]
  rw [mulG_l (v_small _).1 (v_small _).2, Option.bind_some, modG_s pP]
  rfl
theorem f_base_ex (n : Nat) (hn : n ≤ 100000) (rows : List (Nat → Fp p)) (hr : rows.length ≤ 100000) (sup : ∀ r ∈ rows, ∀ i, n ≤ i → r i = 0) :
    ∃ ps, F_base_of p (n : Int) (rows.map (lst n)) = some ((vs ps).map (lst n)) ∧ Rf n ps ∧ ∀ v, Spn (vs ps) v ↔ Spn rows v := by
  unfold F_base_of
  rw [mapG_m (lst n) (fun _ _ => rfl) (by omega), Option.bind_some, Option.bind_some, rng1_s (by omega), Option.bind_some]
  obtain ⟨s, e, rows', ps, rfl, A, sp, l1, l2⟩ := foldO_inv (f := fun (x7 : Int) (s5 : List (List Int) × List (List Int)) =>
      (F_first_with s5.1 x7).bind fun (v_k_9 : Option Int) =>
      if v_k_9.isSome = true then
      ((v_k_9).bind fun (u10 : Int) =>
      (popG s5.1 u10).bind fun (q11 : (List (List Int)) × (List Int)) =>
      (atI q11.2 x7).bind fun (t12 : Int) =>
      (F_inverse p t12).bind fun (v_over_14 : Int) =>
      (mapG q11.2 fun (y15 : Int) => ((mulG v_over_14 y15).bind fun (t16 : Int) => modG t16 p)).bind fun (v_chosen_19 : List Int) =>
      (mapG q11.1 fun (y20 : List Int) => ((atI y20 x7).bind fun (t21 : Int) => F_less p y20 v_chosen_19 t21)).bind fun (v_rows_24 : List (List Int)) =>
      (mapG s5.2 fun (y25 : List Int) => ((atI y25 x7).bind fun (t26 : Int) => F_less p y25 v_chosen_19 t26)).bind fun (t28 : List (List Int)) =>
      (catG t28 ([v_chosen_19])).bind fun (v_base_30 : List (List Int)) =>
      some ((v_rows_24, v_base_30)))
      else
      (some ((s5.1, s5.2)))) (φ := fun i : Nat => (i : Int)) (n := n) (s0 := (rows.map (lst n), []))
    (fun q s => ∃ (rs : List (Nat → Fp p)) (ps : List (Nat × (Nat → Fp p))), s = (rs.map (lst n), (vs ps).map (lst n)) ∧ At n q rs ps ∧ (∀ v, Spn (rs ++ vs ps) v ↔ Spn rows v) ∧ rs.length ≤ 100000 ∧ ps.length ≤ q)
    ⟨rows, [], rfl, At.start sup, fun v => by simp [vs], hr, Nat.le_refl _⟩ (fun q s hq => by
      rintro ⟨rs, ps, rfl, A, sp, l1, l2⟩
      obtain ⟨o, e1, h⟩ := f_first_with n q hq rs
      simp only [e1, Option.bind_some]
      rcases h with ⟨rfl, hz⟩ | ⟨k, r0, rfl, hk, hne⟩
      · exact ⟨_, rfl, rs, ps, rfl, A.skip hz, sp, l1, by omega⟩
      · rw [if_pos (show (some (k : Int)).isSome = true from rfl), Option.bind_some, popG_m hk (by omega), Option.bind_some]
        rw [lst_at _ hq, Option.bind_some, f_inverse _ hne, Option.bind_some, f_over n (by omega), Option.bind_some]
        obtain ⟨A', sp'⟩ := A.step hq hk hne
        have lel : (rs.eraseIdx k).length ≤ rs.length := List.length_eraseIdx_le rs k
        rw [mapG_m (fun r => lst n (cut (fun i => (r0 q)⁻¹ * r0 i) q r)) (fun r _ => by rw [lst_at _ hq, Option.bind_some, f_less n (by omega)]; rfl) (by omega), Option.bind_some]
        rw [mapG_m (fun r => lst n (cut (fun i => (r0 q)⁻¹ * r0 i) q r)) (fun r _ => by rw [lst_at _ hq, Option.bind_some, f_less n (by omega)]; rfl) (by unfold vs; rw [List.length_map]; omega), Option.bind_some]
        rw [catG_s (by rw [List.length_map]; unfold vs; rw [List.length_map]; simp; omega), Option.bind_some]
        refine ⟨_, rfl, _, _, ?_, A', fun v => (sp' v).trans (sp v), by rw [List.length_map]; omega, by simp; omega⟩
        unfold vs
        simp [List.map_map])
  refine ⟨ps, ?_, A.rf, fun v => (A.done v).symm.trans (sp v)⟩
  rw [e, Option.bind_some, mapG_m (lst n) (fun _ _ => rfl) (by unfold vs; rw [List.length_map]; omega)]
theorem f_base_of (n : Nat) (hn : n ≤ 100000) (rows : List (Nat → Fp p)) (hr : rows.length ≤ 100000) (sup : ∀ r ∈ rows, ∀ i, n ≤ i → r i = 0) :
    F_base_of p (n : Int) (rows.map (lst n)) = some ((vs (bse n (Spn rows))).map (lst n)) ∧ Rf n (bse n (Spn rows)) ∧ ∀ v, Spn (vs (bse n (Spn rows))) v ↔ Spn rows v := by
  obtain ⟨ps, e, R, h⟩ := f_base_ex n hn rows hr sup
  rw [bse_eq R h]
  exact ⟨e, R, h⟩
end La
namespace La
open Mn
open PySem
open L2 (atI ixN atI_nat)
variable {p : Int} [Pr p]
theorem at_head {α : Type} (x : α) (xs : List α) : atI (x :: xs) 0 = some x := atI_nat (j := 0) rfl
theorem foldO_l {σ α β : Type} {f : β → σ → Option σ} {φ : α → β} (I : List α → σ → Prop) {xs : List α} {s0 : σ} (h0 : I [] s0) (h : ∀ (ys : List α) (x : α) (s : σ), x ∈ xs → (∃ zs, ys ++ x :: zs = xs) → I ys s → ∃ s', f (φ x) s = some s' ∧ I (ys ++ [x]) s') : ∃ s, foldO f (xs.map φ) s0 = some s ∧ I xs s := by
  have : ∀ (zs ys : List α) (s : σ), ys ++ zs = xs → I ys s → ∃ s', foldO f (zs.map φ) s = some s' ∧ I xs s' := fun zs => by
    induction zs with
    | nil => intro ys s e hi; rw [List.append_nil] at e; subst e; exact ⟨s, rfl, hi⟩
    | cons z zs ih =>
      intro ys s e hi
      obtain ⟨s1, e1, h1⟩ := h ys z s (by rw [← e]; simp) ⟨zs, e⟩ hi
      obtain ⟨s2, e2, h2⟩ := ih (ys ++ [z]) s1 (by rw [← e]; simp) h1
      refine ⟨s2, ?_, h2⟩
      rw [List.map_cons]
      unfold foldO
      rw [e1]
      exact e2
  exact this xs [] s0 rfl h0
theorem fold_r {σ α R : Type} {f : α → σ → Option σ} {φ : Nat → α} {n : Nat} {K : σ → Option R} {res : Option R} {s0 : σ} (I : Nat → σ → Prop) (h0 : I 0 s0) (h : ∀ i s, i < n → I i s → ∃ s', f (φ i) s = some s' ∧ I (i + 1) s') (fin : ∀ s, I n s → K s = res) : (foldO f ((List.range n).map φ) s0).bind K = res := by
  obtain ⟨s, e, hs⟩ := foldO_inv (f := f) (φ := φ) I h0 h
  rw [e]
  exact fin s hs
theorem fold_l {σ α β R : Type} {f : β → σ → Option σ} {φ : α → β} {xs : List α} {K : σ → Option R} {res : Option R} {s0 : σ} (I : List α → σ → Prop) (h0 : I [] s0) (h : ∀ (ys : List α) (x : α) (s : σ), x ∈ xs → (∃ zs, ys ++ x :: zs = xs) → I ys s → ∃ s', f (φ x) s = some s' ∧ I (ys ++ [x]) s') (fin : ∀ s, I xs s → K s = res) : (foldO f (xs.map φ) s0).bind K = res := by
  obtain ⟨s, e, hs⟩ := foldO_l (f := f) (φ := φ) I h0 h
  rw [e]
  exact fin s hs
def eb (n : Nat) (ps : List (Nat × (Nat → Fp p))) : List (Int × List Int) := ps.map fun q => ((q.1 : Int), lst n q.2)
end La
set_option maxHeartbeats 4000000
namespace Mn
open PySem PySem.Spec PyProof.Rows
open L2 (atI ixN cutS)
end Mn
namespace Mn
open PySem PySem.Spec PyProof.Rows
open L2 (atI ixN cutS)
end Mn
set_option maxHeartbeats 1000000
namespace La
open Mn
open PySem
open L2 (atI ixN atI_nat)
theorem at_any {ns : List Int} {i : Int} (h0 : 0 ≤ i) (h1 : i < ns.length) : ∃ x, atI ns i = some x := by
  have : i.toNat < ns.length := by omega
  refine ⟨ns[i.toNat], ?_⟩
  have e : i = ((i.toNat : Nat) : Int) := by omega
  conv => lhs; rw [e]
  exact atI_nat (by rw [List.getElem?_eq_getElem this])
theorem foldO_any {σ α : Type} {f : α → σ → Option σ} (h : ∀ x s, ∃ s', f x s = some s') : ∀ (xs : List α) (s : σ), ∃ s', foldO f xs s = some s'
  | [], s => ⟨s, rfl⟩
  | x :: xs, s => by
    obtain ⟨s1, e⟩ := h x s
    obtain ⟨s2, e2⟩ := foldO_any h xs s1
    exact ⟨s2, by unfold foldO; rw [e]; exact e2⟩
theorem pow9 : powG 10 9 = some 1000000000 := rfl
theorem pow30 : powG 10 30 = some 1000000000000000000000000000000 := rfl
theorem nat_mod {x m : Int} (hm : 0 < m) : ∃ n : Nat, x % m = (n : Nat) ∧ (n : Int) < m := by
  have a := Int.emod_nonneg x (show m ≠ 0 by omega)
  have b := Int.emod_lt_of_pos x hm
  exact ⟨(x % m).toNat, by omega, by omega⟩
variable {p : Int} [Pr p]
end La
set_option maxHeartbeats 4000000
namespace Mn
open PySem PySem.Spec PyProof.Rows
open L2 (atI ixN cutS)
end Mn
set_option maxHeartbeats 1000000
namespace La
open Mn
open PySem
open L2 (atI ixN atI_nat)
variable {p : Int} [Pr p]
end La
set_option maxHeartbeats 4000000
namespace Mn
open PySem PySem.Spec PyProof.Rows
open L2 (atI ixN cutS)
end Mn
namespace Mn
open PySem PySem.Spec PyProof.Rows
open L2 (atI ixN cutS)
end Mn
namespace Mn
open PySem PySem.Spec PyProof.Rows
open L2 (atI ixN cutS)
end Mn
set_option maxHeartbeats 1000000
namespace La
open Mn
open PySem
open L2 (atI ixN atI_nat)
variable {p : Int} [Pr p]
theorem rws_rows (h w : Nat) (A : Nat → Nat → Fp p) : rws h w A = (rowsOf h w A).map (lst w) := by
  unfold rws rowsOf
  rw [List.map_map]
  refine List.map_congr_left fun i _ => ?_
  show lst w (A i) = lst w fun j => if j < w then A i j else 0
  rw [lst_eq]
  intro j hj
  rw [if_pos hj]
theorem rowsOf_len (h w : Nat) (A : Nat → Nat → Fp p) : (rowsOf h w A).length = h := by unfold rowsOf; rw [List.length_map, List.length_range]
end La
namespace La
open Mn
open PySem
open L2 (atI ixN atI_nat)
theorem enI_r {β : Type} (f : Nat → β) (n : Nat) : enI 0 ((List.range n).map f) = (List.range n).map fun i : Nat => ((i : Int), f i) := by
  have : ∀ (m k : Nat), enI k ((List.range m).map fun i => f (k + i)) = (List.range m).map fun i : Nat => (((k + i : Nat) : Int), f (k + i)) := fun m => by
    induction m with
    | zero => intro k; rfl
    | succ m ih =>
      intro k
      rw [List.range_succ_eq_map, List.map_cons, List.map_cons, List.map_map, List.map_map]
      show _ :: enI (k + 1) _ = _
      have := ih (k + 1)
      have e : ((fun i => f (k + i)) ∘ Nat.succ) = fun i => f (k + 1 + i) := funext fun i => by show f (k + (i + 1)) = _; rw [show k + (i + 1) = k + 1 + i by omega]
      have e2 : ((fun i : Nat => (((k + i : Nat) : Int), f (k + i))) ∘ Nat.succ) = fun i : Nat => (((k + 1 + i : Nat) : Int), f (k + 1 + i)) := funext fun i => by show (((k + (i + 1) : Nat) : Int), f (k + (i + 1))) = _; rw [show k + (i + 1) = k + 1 + i by omega]
      rw [e, e2, this]
      rfl
  have := this n 0
  simpa using this
theorem loopO_rt {σ ρ α : Type} {f : α → σ → Option (Lp σ ρ)} {φ : Nat → α} {n l : Nat} {s : σ} {r : ρ} (hl : l < n) (h : ∀ i, i < l → f (φ i) s = some (.nx s)) (hr : f (φ l) s = some (.rt r)) : loopO f ((List.range n).map φ) s = some (.rt r) := by
  induction n generalizing φ l with
  | zero => omega
  | succ n ih =>
    rw [List.range_succ_eq_map, List.map_cons, List.map_map]
    unfold loopO
    cases l with
    | zero => rw [hr]; rfl
    | succ l =>
      rw [h 0 (by omega)]
      exact ih (φ := φ ∘ Nat.succ) (l := l) (by omega) (fun i hi => h (i + 1) (by omega)) hr
variable {p : Int} [Pr p]
theorem f_lead_of {n l : Nat} (v : Nat → Fp p) (hl : l < n) (h1 : v l ≠ 0) (h0 : ∀ i, i < l → v i = 0) : F_lead_of (lst n v) = some (l : Int) := by
  unfold F_lead_of
  have := loopO_rt (ρ := Int) (f := fun (x2 : Int × Int) (s1 : Unit) => if (!decide (x2.2 = (0 : Int))) = true then ((some x2.1).bind fun r => some (Lp.rt r)) else (some (Lp.nx (())))) (φ := fun i : Nat => ((i : Int), (v i).v)) (s := ()) (r := (l : Int)) hl (fun i hi => by
    rw [v_ne0, if_neg (by simp [h0 i hi])]) (by rw [v_ne0, if_pos (by simp [h1])]; rfl)
  unfold lst
  rw [enI_r, this]
  rfl
theorem f_lead_rf {n : Nat} {ps : List (Nat × (Nat → Fp p))} (R : Rf n ps) {q : Nat × (Nat → Fp p)} (hq : q ∈ ps) : F_lead_of (lst n q.2) = some (q.1 : Int) :=
  f_lead_of q.2 (R.lt q hq) (by rw [R.one q hq]; intro e; exact Lean.Grind.Field.zero_ne_one e.symm) (R.low q hq)
theorem setG_lst {n l : Nat} (v : Nat → Fp p) (hl : l < n) (x : Fp p) : setG (lst n v) (l : Int) x.v = some (lst n fun i => if i = l then x else v i) := by
  unfold setG
  have : ixN (lst n v).length (l : Int) = some l := by rw [lst_len, ixN_nat (by omega) (by omega)]; simp
  rw [this, Option.bind_some]
  congr 1
  refine List.ext_getElem (by rw [List.length_set, lst_len, lst_len]) fun i h1 h2 => ?_
  have hi : i < n := by rw [lst_len] at h2; exact h2
  rw [List.getElem_set]
  have e : (lst n fun i => if i = l then x else v i)[i] = (if i = l then x else v i).v := by simp only [lst, List.getElem_map, List.getElem_range]
  have e2 : (lst n v)[i]'(by rw [lst_len]; exact hi) = (v i).v := by simp only [lst, List.getElem_map, List.getElem_range]
  rw [e, e2]
  by_cases q : l = i
  · rw [if_pos q, if_pos q.symm]
  · rw [if_neg q, if_neg (Ne.symm q)]
theorem Kv.uniq {ps : List (Nat × (Nat → Fp p))} {j : Nat} {v w : Nat → Fp p} (a : Kv ps j v) (b : Kv ps j w) : v = w := funext fun i => by
  cases e : isLead ps i with
  | false => rw [a.no i e, b.no i e]
  | true =>
    obtain ⟨q, hq, rfl⟩ := isLead_iff.mp e
    rw [a.at_ q hq, b.at_ q hq]
theorem lead_in (ps : List (Nat × (Nat → Fp p))) (i : Nat) : decide ((i : Int) ∈ ps.map fun q => (q.1 : Int)) = isLead ps i := by
  cases e : isLead ps i with
  | true =>
    obtain ⟨q, hq, rfl⟩ := isLead_iff.mp e
    exact decide_eq_true (List.mem_map.mpr ⟨q, hq, rfl⟩)
  | false =>
    refine decide_eq_false fun h => ?_
    obtain ⟨q, hq, e2⟩ := List.mem_map.mp h
    have : isLead ps i = true := isLead_iff.mpr ⟨q, hq, by omega⟩
    rw [e] at this
    cases this
theorem zip_m {α β γ : Type} (f : α → β) (g : α → γ) : ∀ xs : List α, List.zip (xs.map f) (xs.map g) = xs.map fun x => (f x, g x)
  | [] => rfl
  | x :: xs => by simp [zip_m f g xs]
theorem f_kernel_l (x : Int) (w : Nat) (hw : w ≤ 10000) (L : List (Nat → Fp p)) (hL : L.length ≤ 10000) (sup : ∀ b ∈ L, ∀ i, w ≤ i → b i = 0) :
    F_kernel p (x, (w : Int), L.map (lst w)) = some ((vs (bse w (Kr w L))).map (lst w)) := by
  unfold F_kernel
  obtain ⟨eb, R, sp⟩ := f_base_of w (by omega) L (by omega) sup
  have kb := kr_bse sup
  have k1 : ∀ v, Kr w (vs (bse w (Spn L))) v ↔ Kr w L v := fun v => Kr.iff sp v
  show (some (w : Int)).bind _ = _
  rw [Option.bind_some, eb, Option.bind_some]
  generalize bse w (Spn L) = ps at R sp k1
  have hpl := R.len_le
  have hl : mapG ((vs ps).map (lst w)) (fun (y4 : List Int) => F_lead_of y4) = some (ps.map fun q => (q.1 : Int)) := by
    unfold vs
    rw [List.map_map, mapG_m (φ := (lst w) ∘ Prod.snd) (fun q : Nat × (Nat → Fp p) => (q.1 : Int)) (fun q hq => f_lead_rf R hq) (by omega)]
  rw [hl, Option.bind_some, Option.bind_some, rng1_s (by omega), Option.bind_some]
  let g : Nat → Nat → Fp p := fun j i => if isLead ps i = true then - (cmb ps (fun l => if l = i then 1 else 0) j) else if i = j then 1 else 0
  obtain ⟨s, es, rfl⟩ := foldO_inv (f := fun (x11 : Int) (s9 : List (List Int)) =>
      if (!decide (x11 ∈ ps.map fun q => (q.1 : Int))) = true then
      ((some ((List.range w).map fun i : Nat => (i : Int))).bind fun (r12 : List Int) =>
      (mapG r12 fun (y13 : Int) => some ((if (decide (y13 = x11)) = true then (1 : Int) else 0))).bind fun (v_load_15 : List Int) =>
      (foldO (fun (x17 : List Int × Int) (s16 : List Int) =>
      (atI x17.1 x11).bind fun (t18 : Int) =>
      (modG (((0 : Int)) - t18) p).bind fun (t19 : Int) =>
      (setG s16 x17.2 t19).bind fun (v_load_20 : List Int) =>
      some v_load_20) (List.zip ((vs ps).map (lst w)) (ps.map fun q => (q.1 : Int))) v_load_15).bind fun (s16 : List Int) =>
      (appG s9 s16).bind fun (v_loads_21 : List (List Int)) =>
      some v_loads_21)
      else
      (some s9)) (φ := fun i : Nat => (i : Int)) (n := w) (s0 := []) (fun k s => s = (((List.range k).filter fun j => !isLead ps j).map g).map (lst w)) rfl (fun j s hj es => by
      subst es
      rw [lead_in]
      cases e : isLead ps j with
      | true =>
        refine ⟨_, rfl, ?_⟩
        rw [List.range_succ, List.filter_append]
        simp [e]
      | false =>
        rw [if_pos (show (!false) = true from rfl), Option.bind_some, mapG_r (fun i => ((if i = j then (1 : Fp p) else 0) : Fp p).v) (fun i hi => by
          by_cases q : i = j
          · subst q; simp [Fp.one_v]
          · rw [if_neg q, if_neg (by simp; omega), Fp.zero_v]) (by omega), Option.bind_some]
        have zz : List.zip ((vs ps).map (lst w)) (ps.map fun q => (q.1 : Int)) = ps.map fun q => (lst w q.2, (q.1 : Int)) := by
          unfold vs
          rw [List.map_map]
          exact zip_m _ _ ps
        rw [zz]
        obtain ⟨s2, e2, v, rfl, v1, v2⟩ := foldO_l (f := fun (x17 : List Int × Int) (s16 : List Int) =>
          (atI x17.1 (j : Int)).bind fun (t18 : Int) =>
          (modG (((0 : Int)) - t18) p).bind fun (t19 : Int) =>
          (setG s16 x17.2 t19).bind fun (v_load_20 : List Int) =>
          some v_load_20) (φ := fun q : Nat × (Nat → Fp p) => (lst w q.2, (q.1 : Int))) (xs := ps) (s0 := (List.range w).map fun i => ((if i = j then (1 : Fp p) else 0) : Fp p).v)
          (fun ys s => ∃ v : Nat → Fp p, s = lst w v ∧ (∀ q ∈ ys, v q.1 = - q.2 j) ∧ ∀ i, (∀ q ∈ ys, q.1 ≠ i) → v i = if i = j then 1 else 0)
          ⟨fun i => if i = j then 1 else 0, rfl, fun q h => absurd h (by simp), fun i _ => rfl⟩ (fun ys q s hq ⟨zs, ez⟩ => by
            rintro ⟨v, rfl, v1, v2⟩
            refine ⟨_, ?_, fun i => if i = q.1 then - q.2 j else v i, rfl, fun r hr => ?_, fun i hi => ?_⟩
            · rw [lst_at _ hj, Option.bind_some, modG_s pP, Option.bind_some]
              have : (0 - (q.2 j).v) % p = (- q.2 j).v := by rw [Fp.neg_v, Int.zero_sub]
              rw [this, setG_lst v (R.lt q hq)]
              rfl
            · rcases List.mem_append.mp hr with hr | hr
              · have hlt : r.1 < q.1 := by
                  have hp := R.inc
                  rw [← ez] at hp
                  exact (List.pairwise_append.mp hp).2.2 r hr q (by simp)
                show (if r.1 = q.1 then _ else v r.1) = _
                rw [if_neg (by omega), v1 r hr]
              · rw [List.mem_singleton.mp hr]
                exact if_pos rfl
            · show (if i = q.1 then _ else v i) = _
              rw [if_neg (fun z => hi q (by simp) z.symm), v2 i fun r hr => hi r (by simp [hr])])
        have kv : Kv ps j v := ⟨v1, fun i hi => v2 i fun q hq z => by
          have : isLead ps i = true := isLead_iff.mpr ⟨q, hq, z⟩
          rw [hi] at this
          cases this⟩
        have gv : v = g j := kv.uniq (kv_ex R j e)
        rw [e2, Option.bind_some, appG_s (by
          have := List.length_filter_le (fun j => !isLead ps j) (List.range j)
          simp at this ⊢
          omega), Option.bind_some]
        refine ⟨_, rfl, ?_⟩
        rw [List.range_succ, List.filter_append, gv]
        simp [e])
  rw [es, Option.bind_some]
  have hg := fun j (_ : j < w) (nl : isLead ps j = false) => kv_ex R j nl
  have sk := kr_spn R g hg
  have lenM : (((List.range w).filter fun j => !isLead ps j).map g).length ≤ w := by
    have := List.length_filter_le (fun j => !isLead ps j) (List.range w)
    simp at this ⊢
    omega
  have fin := (f_base_of w (by omega) (((List.range w).filter fun j => !isLead ps j).map g) (by omega) fun b hb => ((sk b).mp (Spn.mem hb)).1).1
  have e : Spn (((List.range w).filter fun j => !isLead ps j).map g) = Kr w L := funext fun v => propext ((sk v).trans (k1 v))
  rw [e] at fin
  exact fin
theorem f_kernel (h w : Nat) (hh : h ≤ 10000) (hw : w ≤ 10000) (A : Nat → Nat → Fp p) : F_kernel p (tb h w A) = some ((vs (bse w (Kr w (rowsOf h w A)))).map (lst w)) := by
  unfold tb
  rw [rws_rows]
  exact f_kernel_l _ w hw _ (by rw [rowsOf_len]; exact hh) (rowsOf_sup h w A)
end La
set_option maxHeartbeats 4000000
namespace Mn
open PySem PySem.Spec PyProof.Rows
open L2 (atI ixN cutS)
end Mn
namespace Mn
open PySem PySem.Spec PyProof.Rows
open L2 (atI ixN cutS)
end Mn
namespace Mn
open PySem PySem.Spec PyProof.Rows
open L2 (atI ixN cutS)
end Mn
namespace Mn
open PySem PySem.Spec PyProof.Rows
open L2 (atI ixN cutS)
end Mn
namespace Mn
open PySem PySem.Spec PyProof.Rows
open L2 (atI ixN cutS)
end Mn
namespace Mn
open PySem PySem.Spec PyProof.Rows
open L2 (atI ixN cutS)
end Mn
namespace Mn
open PySem PySem.Spec PyProof.Rows
open L2 (atI ixN cutS)
end Mn
set_option maxHeartbeats 1000000
namespace La
open Mn
open PySem
open L2 (atI ixN atI_nat)
variable {p : Int} [Pr p]
end La
namespace La
open Mn
open PySem
open L2 (atI ixN atI_nat)
variable {p : Int} [Pr p]
theorem lst_app (n m : Nat) (a b : Nat → Fp p) : lst n a ++ lst m b = lst (n + m) fun j => if j < n then a j else b (j - n) := by
  refine List.ext_getElem (by simp [lst_len]) fun i h1 h2 => ?_
  rw [lst_len] at h2
  by_cases c : i < n
  · rw [List.getElem_append_left (by rw [lst_len]; exact c)]
    simp [lst, c]
  · rw [List.getElem_append_right (by rw [lst_len]; omega)]
    simp [lst, c]
theorem list_r {α β : Type} (xs : List α) (d : α) (g : α → β) : xs.map g = (List.range xs.length).map fun i => g (xs[i]?.getD d) := by
  refine List.ext_getElem (by simp) fun i h1 h2 => ?_
  simp at h1
  simp [List.getElem?_eq_getElem h1]
end La
namespace La
variable {K : Type} [Lean.Grind.Field K] [DecidableEq K]
theorem spn_map {T : (Nat → K) → (Nat → K)} (h0 : T (fun _ => 0) = fun _ => 0) (hl : ∀ z b c, T (fun i => z i + c * b i) = fun i => T z i + c * T b i) (L : List (Nat → K)) (v : Nat → K) : Spn (L.map T) v ↔ ∃ z, Spn L z ∧ v = T z := by
  refine ⟨fun h => ?_, ?_⟩
  · induction h with
    | zero => exact ⟨_, .zero, h0.symm⟩
    | add c hb _ ih =>
      obtain ⟨b0, m0, rfl⟩ := List.mem_map.mp hb
      obtain ⟨z, hz, rfl⟩ := ih
      exact ⟨_, hz.add c m0, (hl z b0 c).symm⟩
  · rintro ⟨z, hz, rfl⟩
    induction hz with
    | zero => rw [h0]; exact .zero
    | add c hb _ ih =>
      rw [hl]
      exact ih.add c (List.mem_map.mpr ⟨_, hb, rfl⟩)
def getL (L : List (Nat → K)) (a : Nat) : Nat → K := L[a]?.getD fun _ => 0
theorem spn_coef (L : List (Nat → K)) (v : Nat → K) : Spn L v ↔ ∃ c : Nat → K, v = fun i => sm L.length fun a => c a * getL L a i := by
  refine ⟨fun h => ?_, ?_⟩
  · induction h with
    | zero => exact ⟨fun _ => 0, funext fun i => (sm_z fun a _ => by grind).symm⟩
    | add c hb _ ih =>
      rename_i b v
      obtain ⟨d, rfl⟩ := ih
      obtain ⟨a, ha, rfl⟩ := List.getElem_of_mem hb
      refine ⟨fun k => d k + c * dl a k, funext fun i => ?_⟩
      have e : getL L a = L[a] := by unfold getL; rw [List.getElem?_eq_getElem ha]; rfl
      rw [show (fun k => (d k + c * dl a k) * getL L k i) = fun k => d k * getL L k i + c * (dl a k * getL L k i) from funext fun k => by grind, sm_add, sm_mul, sm_dl (fun k => getL L k i) ha, e]
  · rintro ⟨c, rfl⟩
    exact spn_sm L.length c (fun a => getL L a) fun a ha => Spn.mem (by unfold getL; rw [List.getElem?_eq_getElem ha]; exact List.getElem_mem ha)
def stR (f w h : Nat) (M : Nat → Nat → K) (z : Nat → K) : Nat → K := fun i => if i < f then z i else if i < f + h then sm w fun k => M (i - f) k * z (f + k) else 0
def jnT (f : Nat) (L : List (Nat → K)) (M : Nat → Nat → K) : Nat → Nat → K := fun k j => if j < L.length then getL L j (f + k) else - M k (j - L.length)
def stL (f w : Nat) (L : List (Nat → K)) (y : Nat → K) : Nat → K := fun i => if i < f then sm L.length fun a => y a * getL L a i else if i < f + w then y (L.length + (i - f)) else 0
theorem stL_lin (f w : Nat) (L : List (Nat → K)) : stL f w L (fun _ => 0) = (fun _ => 0) ∧ ∀ z b c, stL f w L (fun i => z i + c * b i) = fun i => stL f w L z i + c * stL f w L b i := by
  refine ⟨funext fun i => ?_, fun z b c => funext fun i => ?_⟩
  · unfold stL
    split
    · exact sm_z fun k _ => by grind
    · split <;> rfl
  · unfold stL
    split
    · rw [← sm_mul, ← sm_add]
      exact sm_congr fun k _ => by grind
    · split
      · rfl
      · grind
theorem dt_jn (f w : Nat) (L : List (Nat → K)) (M : Nat → Nat → K) (k : Nat) (y : Nat → K) : dt (L.length + w) (fun j => if j < L.length + w then jnT f L M k j else 0) y = (sm L.length fun a => y a * getL L a (f + k)) - sm w fun j => M k j * y (L.length + j) := by
  unfold dt
  rw [sm_append, Lean.Grind.Ring.sub_eq_add_neg, ← sm_neg]
  congr 1
  · refine sm_congr fun a ha => ?_
    dsimp only
    rw [if_pos (by omega)]
    unfold jnT
    rw [if_pos ha]
    grind
  · refine sm_congr fun j hj => ?_
    dsimp only
    rw [if_pos (by omega)]
    unfold jnT
    rw [if_neg (by omega), Nat.add_sub_cancel_left]
    grind
theorem step_l (f w h : Nat) (M : Nat → Nat → K) (L : List (Nat → K)) (B : List (Nat → K)) (hB : ∀ y, Spn B y ↔ Kr (L.length + w) (rowsOf h (L.length + w) (jnT f L M)) y) (v : Nat → K) :
    Spn (B.map (stL f w L)) v ↔ ∃ z, Spn L z ∧ (∀ i, i < f → v i = z i) ∧ (∀ k, k < h → z (f + k) = sm w fun j => M k j * v (f + j)) ∧ ∀ i, f + w ≤ i → v i = 0 := by
  rw [spn_map (stL_lin f w L).1 (stL_lin f w L).2]
  have row : ∀ y, Kr (L.length + w) (rowsOf h (L.length + w) (jnT f L M)) y ↔ (∀ i, L.length + w ≤ i → y i = 0) ∧ ∀ k, k < h → (sm L.length fun a => y a * getL L a (f + k)) = sm w fun j => M k j * y (L.length + j) := fun y => by
    unfold Kr
    refine and_congr Iff.rfl ⟨fun h1 k hk => ?_, fun h1 b hb => ?_⟩
    · have := h1 _ (rowsOf_mem (jnT f L M) hk)
      rw [dt_jn] at this
      grind
    · obtain ⟨k, hk, rfl⟩ := List.mem_map.mp hb
      rw [dt_jn, h1 k (List.mem_range.mp hk)]
      grind
  refine ⟨?_, ?_⟩
  · rintro ⟨y, hy, rfl⟩
    obtain ⟨s, hr⟩ := (row y).mp ((hB y).mp hy)
    refine ⟨fun i => sm L.length fun a => y a * getL L a i, (spn_coef L _).mpr ⟨y, rfl⟩, fun i hi => by unfold stL; rw [if_pos hi], fun k hk => ?_, fun i hi => by unfold stL; rw [if_neg (by omega), if_neg (by omega)]⟩
    show (sm L.length fun a => y a * getL L a (f + k)) = _
    rw [hr k hk]
    refine sm_congr fun j hj => ?_
    unfold stL
    rw [if_neg (by omega), if_pos (by omega), Nat.add_sub_cancel_left]
  · rintro ⟨z, hz, h1, h2, h3⟩
    obtain ⟨c, rfl⟩ := (spn_coef L z).mp hz
    refine ⟨fun i => if i < L.length then c i else if i < L.length + w then v (f + (i - L.length)) else 0, (hB _).mpr ((row _).mpr ⟨fun i hi => by rw [if_neg (by omega), if_neg (by omega)], fun k hk => ?_⟩), funext fun i => ?_⟩
    · have e := h2 k hk
      rw [sm_congr (g := fun a => c a * getL L a (f + k)) fun a ha => by rw [if_pos ha]]
      rw [show (sm L.length fun a => c a * getL L a (f + k)) = _ from e]
      refine sm_congr fun j hj => ?_
      rw [if_neg (by omega), if_pos (by omega), Nat.add_sub_cancel_left]
    · unfold stL
      by_cases c1 : i < f
      · rw [if_pos c1, h1 i c1]
        exact sm_congr fun a ha => by dsimp only; rw [if_pos ha]
      · rw [if_neg c1]
        by_cases c2 : i < f + w
        · rw [if_pos c2]
          dsimp only
          rw [if_neg (by omega), if_pos (by omega), Nat.add_sub_cancel_left, show f + (i - f) = i by omega]
        · rw [if_neg c2]
          exact h3 i (by omega)
end La
set_option maxHeartbeats 4000000
namespace Mn
open PySem PySem.Spec PyProof.Rows
open L2 (atI ixN cutS)
end Mn
namespace Mn
open PySem PySem.Spec PyProof.Rows
open L2 (atI ixN cutS)
end Mn
set_option maxHeartbeats 1000000
namespace La
open Mn
open PySem
open L2 (atI ixN atI_nat)
variable {p : Int} [Pr p]
theorem map_lst (L : List (Nat → Fp p)) (g : (Nat → Fp p) → Fp p) : (L.map fun z => (g z).v) = lst L.length fun a => g (getL L a) := by
  rw [list_r L (fun _ => 0) fun z => (g z).v]
  rfl
theorem f_joined (h w : Nat) (hh : h ≤ 1000) (hw : w ≤ 1000) (M : Nat → Nat → Fp p) (L : List (Nat → Fp p)) (hL : L.length ≤ 1000) (g : (Nat → Fp p) → Nat → Fp p) :
    F_joined_table p (tb h w M) (L.map fun z => lst h (g z)) = some (tb h (L.length + w) fun k j => if j < L.length then g (getL L j) k else - M k (j - L.length)) := by
  unfold F_joined_table
  rw [Option.bind_some]
  show (rng1 (h : Int)).bind _ = _
  rw [rng1_s (by omega), Option.bind_some, foldO_r (fun k => lst (L.length + w) fun j => if j < L.length then g (getL L j) k else - M k (j - L.length)) (fun k hk s => ?_) (by omega), Option.bind_some]
  · rw [List.length_map]
    unfold tb rws
    simp
  · rw [mapG_m (f := fun y6 : List Int => atI y6 (k : Int)) (φ := fun z => lst h (g z)) (fun z => (g z k).v) (fun z _ => lst_at _ hk) (by omega), Option.bind_some]
    show ((atI (rws h w M) (k : Int)).bind _) = _
    rw [rws_at M hk, Option.bind_some]
    have e2 : mapG (lst w (M k)) (fun (y10 : Int) => modG (((0 : Int)) - y10) p) = some (lst w fun j => - M k j) := mapG_r (fun j => (- M k j).v) (fun j _ => by
      rw [modG_s pP, Fp.neg_v, Int.zero_sub]) (by omega)
    rw [e2, Option.bind_some, map_lst L fun z => g z k, catG_s (by rw [lst_len, lst_len]; omega), Option.bind_some, lst_app]
    cases appG s _ <;> rfl
end La
set_option maxHeartbeats 4000000
namespace Mn
open PySem PySem.Spec PyProof.Rows
open L2 (atI ixN cutS)
end Mn
set_option maxHeartbeats 1000000
namespace La
open Mn
open PySem
open L2 (atI ixN atI_nat)
variable {p : Int} [Pr p]
theorem lst_split (n m : Nat) (z : Nat → Fp p) : lst (n + m) z = lst n z ++ lst m fun j => z (n + j) := by
  rw [lst_app]
  refine lst_eq.mpr fun i _ => ?_
  by_cases c : i < n
  · rw [if_pos c]
  · rw [if_neg c, show n + (i - n) = i by omega]
theorem cut_hi (n m : Nat) (z : Nat → Fp p) : cutD (lst (n + m) z) (some (n : Int)) none = lst m fun j => z (n + j) := by
  have l1 : (lst (n + m) z).length = n + m := lst_len _ _
  unfold cutD
  have s1 : HT.sIx (lst (n + m) z).length 0 (some (n : Int)) = n := by
    rw [l1]; unfold HT.sIx; simp; omega
  have s2 : HT.sIx (lst (n + m) z).length (lst (n + m) z).length none = n + m := by rw [l1]; rfl
  rw [s1, s2, lst_split, List.drop_left' (lst_len _ _), List.take_of_length_le (by rw [lst_len]; omega)]
end La
set_option maxHeartbeats 4000000
namespace Mn
open PySem PySem.Spec PyProof.Rows
open L2 (atI ixN cutS)
end Mn
namespace Mn
open PySem PySem.Spec PyProof.Rows
open L2 (atI ixN cutS)
end Mn
namespace Mn
open PySem PySem.Spec PyProof.Rows
open L2 (atI ixN cutS)
end Mn
namespace Mn
open PySem PySem.Spec PyProof.Rows
open L2 (atI ixN cutS)
end Mn
namespace Mn
open PySem PySem.Spec PyProof.Rows
open L2 (atI ixN cutS)
end Mn
set_option maxHeartbeats 1000000
namespace La
open Mn
open PySem
open L2 (atI ixN atI_nat)
abbrev chS (b : Bool) : Str := if b = true then ("l" : Str) else ("r" : Str)
variable {p : Int} [Pr p]
theorem loop_u {ρ α R : Type} {f : α → Unit → Option (Lp Unit ρ)} {φ : Nat → α} {n : Nat} {K : Unit → Option R} {m : ρ → Option R} (h : ∀ i, i < n → f (φ i) () = some (.nx ())) : (loopO f ((List.range n).map φ) ()).bind (lpK K m) = K () := by
  have := loopO_nx (f := f) (φ := φ) (n := n) (fun _ => ()) h
  rw [this]
  rfl
end La
set_option maxHeartbeats 4000000
namespace Mn
open PySem PySem.Spec PyProof.Rows
open L2 (atI ixN cutS)
end Mn
namespace Mn
open PySem PySem.Spec PyProof.Rows
open L2 (atI ixN cutS)
end Mn
set_option maxHeartbeats 1000000
namespace La
open Mn
open PySem
open L2 (atI ixN atI_nat)
variable {p : Int} [Pr p]
def twice (f : Nat) : List (Nat → Fp p) := (List.range f).map fun k i => if i < f + f then (if i < f then dl k i else dl k (i - f)) else 0
def lkS (f : Nat) (wd : Nat → Nat) (cb : Nat → Bool) (M : Nat → Nat → Nat → Fp p) (i : Nat) : Nat → (Nat → Fp p) → Prop
  | 0, z => Spn (twice f) z
  | t + 1, v => if cb (i + t) = true then ∃ z, lkS f wd cb M i t z ∧ (∀ k, k < f → v k = z k) ∧ (∀ k, k < wd (i + t) → z (f + k) = sm (wd (i + t + 1)) fun j => M (i + t) k j * v (f + j)) ∧ ∀ k, f + wd (i + t + 1) ≤ k → v k = 0
    else ∃ z, lkS f wd cb M i t z ∧ v = stR f (wd (i + t)) (wd (i + t + 1)) (M (i + t)) z
noncomputable def nxL (f : Nat) (wd : Nat → Nat) (cb : Nat → Bool) (M : Nat → Nat → Nat → Fp p) (i t : Nat) (L : List (Nat → Fp p)) : List (Nat → Fp p) :=
  if cb (i + t) = true then (vs (bse (L.length + wd (i + t + 1)) (Kr (L.length + wd (i + t + 1)) (rowsOf (wd (i + t)) (L.length + wd (i + t + 1)) (jnT f L (M (i + t))))))).map (stL f (wd (i + t + 1)) L)
  else L.map (stR f (wd (i + t)) (wd (i + t + 1)) (M (i + t)))
end La
namespace La
open Mn
open PySem
open L2 (atI ixN atI_nat)
variable {p : Int} [Pr p]
noncomputable def lkB (f : Nat) (wd : Nat → Nat) (cb : Nat → Bool) (M : Nat → Nat → Nat → Fp p) (i t : Nat) : List (Nat → Fp p) := vs (bse (f + wd (i + t)) (lkS f wd cb M i t))
end La
set_option maxHeartbeats 4000000
namespace Mn
open PySem PySem.Spec PyProof.Rows
open L2 (atI ixN cutS)
end Mn
namespace Mn
open PySem PySem.Spec PyProof.Rows
open L2 (atI ixN cutS)
end Mn
set_option maxHeartbeats 1000000
namespace La
open Mn
open PySem
open L2 (atI ixN atI_nat)
variable {p : Int} [Pr p]
def allV (p : Int) [Pr p] : Nat → List (Nat → Fp p)
  | 0 => [fun _ => 0]
  | n + 1 => (allV p n).flatMap fun v => (List.range p.toNat).map fun x : Nat => fun i => if i = n then (Fp.of (x : Int) : Fp p) else v i
theorem allV_sup : ∀ (n : Nat), ∀ v ∈ allV p n, ∀ i, n ≤ i → v i = 0
  | 0, v, hv, i, _ => by
    rw [show v = fun _ => 0 from by simpa [allV] using hv]
  | n + 1, v, hv, i, hi => by
    obtain ⟨w, hw, h2⟩ := List.mem_flatMap.mp hv
    obtain ⟨x, _, rfl⟩ := List.mem_map.mp h2
    show (if i = n then _ else _) = _
    rw [if_neg (by omega)]
    exact allV_sup n w hw i (by omega)
theorem mem_allV : ∀ (n : Nat) (v : Nat → Fp p), (∀ i, n ≤ i → v i = 0) → v ∈ allV p n
  | 0, v, h => by
    have : v = fun _ => 0 := funext fun i => h i (by omega)
    rw [this]; simp [allV]
  | n + 1, v, h => by
    refine List.mem_flatMap.mpr ⟨fun i => if i = n then 0 else v i, mem_allV n _ fun i hi => ?_, List.mem_map.mpr ⟨(v n).v.toNat, List.mem_range.mpr ?_, funext fun i => ?_⟩⟩
    · by_cases c : i = n
      · rw [if_pos c]
      · rw [if_neg c]; exact h i (by omega)
    · have := (v n).lo; have := (v n).hi; omega
    · dsimp only
      by_cases c : i = n
      · subst c
        rw [if_pos rfl, show (((v i).v.toNat : Nat) : Int) = (v i).v from Int.toNat_of_nonneg (v i).lo]
        exact Fp.of_self _
      · rw [if_neg c, if_neg c]
theorem flat_len {α β : Type} (f : α → List β) (k : Nat) : ∀ xs : List α, (∀ x ∈ xs, (f x).length = k) → (xs.flatMap f).length = xs.length * k
  | [], _ => by simp
  | x :: xs, h => by
    rw [List.flatMap_cons, List.length_append, h x (by simp), flat_len f k xs fun y hy => h y (by simp [hy]), List.length_cons, Nat.succ_mul, Nat.add_comm]
theorem allV_len : ∀ n : Nat, (allV p n).length = p.toNat ^ n
  | 0 => rfl
  | n + 1 => by
    show (List.flatMap _ _).length = _
    rw [flat_len _ p.toNat _ fun x _ => r_len _ _, allV_len n, Nat.pow_succ]
theorem pn_le {a n m : Nat} (h : n ≤ m) (ha : 0 < a) : a ^ n ≤ a ^ m := Nat.pow_le_pow_right ha h
theorem lst_app1 (n : Nat) (v : Nat → Fp p) (x : Fp p) : lst n v ++ [x.v] = lst (n + 1) fun i => if i = n then x else v i := by
  unfold lst
  rw [List.range_succ, List.map_append, List.map_singleton]
  dsimp only
  rw [if_pos rfl]
  congr 1
  refine List.map_congr_left fun i hi => ?_
  rw [if_neg (by have := List.mem_range.mp hi; omega)]
theorem f_all (n : Nat) (hn : n ≤ 100) (hb : p.toNat ^ n ≤ 100000) : F_law_all p (n : Int) = some ((allV p n).map (lst n)) := by
  have pp := Pr.pos (p := p)
  have p7 := Pr.le (p := p)
  unfold F_law_all
  rw [Option.bind_some, rng1_s (by omega), Option.bind_some]
  have e0 : [([] : List Int)] = (allV p 0).map (lst 0) := rfl
  rw [e0]
  refine fold_r (fun k s => s = (allV p k).map (lst k)) rfl (fun k s hk hs => ?_) fun s hs => by rw [hs]
  subst hs
  refine ⟨_, ?_, rfl⟩
  rw [Option.bind_some]
  have hk1 : p.toNat ^ (k + 1) ≤ p.toNat ^ n := pn_le (by omega) (by omega)
  refine fold_l (fun ys s => s = (ys.flatMap fun v => (List.range p.toNat).map fun x : Nat => fun i => if i = k then (Fp.of (x : Int) : Fp p) else v i).map (lst (k + 1))) rfl (fun ys v s hv ⟨zs, ez⟩ hs => ?_) fun s hs => by rw [hs]; rfl
  subst hs
  refine ⟨_, ?_, rfl⟩
  have hl : ((ys ++ [v]).flatMap fun v => (List.range p.toNat).map fun x : Nat => fun i => if i = k then (Fp.of (x : Int) : Fp p) else v i).length ≤ 100000 := by
    rw [flat_len _ p.toNat _ fun x _ => r_len _ _]
    have : (ys ++ [v]).length ≤ (allV p k).length := by rw [← ez]; simp
    rw [allV_len] at this
    rw [Nat.pow_succ] at hk1
    exact Nat.le_trans (Nat.mul_le_mul_right _ this) (by omega)
  rw [List.flatMap_append, List.length_append] at hl
  rw [rng1_z (by omega) (by omega), Option.bind_some, mapG_r (fun x : Nat => lst (k + 1) fun i => if i = k then (Fp.of (x : Int) : Fp p) else v i) (fun x hx => ?_) (by omega), Option.bind_some, catG_s, Option.bind_some]
  · rw [List.flatMap_append, List.map_append]
    simp [List.map_map]
  · rw [List.length_map, r_len]
    simp at hl ⊢
    omega
  · rw [catG_s (by rw [lst_len]; simp; omega)]
    have : ((x : Nat) : Int) = (Fp.of (x : Int) : Fp p).v := by rw [Fp.of_v, Int.emod_eq_of_lt (by omega) (by omega)]
    conv => lhs; rw [this]
    rw [lst_app1]
variable {K : Type} [Lean.Grind.Field K] [DecidableEq K] in
theorem At.step2 {n q : Nat} {rows : List (Nat → K)} {ps : List (Nat × (Nat → K))} (A : At n q rows ps) (hq : q < n) {r0 : Nat → K} (hm : r0 ∈ rows) (h : r0 q ≠ 0) :
    At n (q + 1) (rows.map (cut (fun i => (r0 q)⁻¹ * r0 i) q)) (ps.map (fun b => (b.1, cut (fun i => (r0 q)⁻¹ * r0 i) q b.2)) ++ [(q, fun i => (r0 q)⁻¹ * r0 i)]) ∧
    ∀ v, Spn ((rows.map (cut (fun i => (r0 q)⁻¹ * r0 i) q)) ++ vs (ps.map (fun b => (b.1, cut (fun i => (r0 q)⁻¹ * r0 i) q b.2)) ++ [(q, fun i => (r0 q)⁻¹ * r0 i)])) v ↔ Spn (rows ++ vs ps) v := by
  obtain ⟨k, hkl, hk⟩ := List.getElem_of_mem hm
  have hk2 : rows[k]? = some r0 := by rw [List.getElem?_eq_getElem hkl, hk]
  obtain ⟨A', sp⟩ := A.step hq hk2 h
  have z0 : ∀ i, cut (fun i => (r0 q)⁻¹ * r0 i) q r0 i = 0 := fun i => by
    show r0 i - r0 q * ((r0 q)⁻¹ * r0 i) = 0
    grind
  have spl : ∀ r ∈ rows, r = r0 ∨ r ∈ rows.eraseIdx k := fun r hr => by
    obtain ⟨j, hj, rfl⟩ := List.getElem_of_mem hr
    by_cases e : j = k
    · subst e; exact .inl hk
    · refine .inr (List.mem_iff_getElem?.mpr ?_)
      by_cases l : j < k
      · exact ⟨j, by rw [List.getElem?_eraseIdx, if_pos l]; exact List.getElem?_eq_getElem hj⟩
      · exact ⟨j - 1, by rw [List.getElem?_eraseIdx, if_neg (by omega), show j - 1 + 1 = j by omega]; exact List.getElem?_eq_getElem hj⟩
  refine ⟨⟨A'.rf, A'.ahead, fun r hr i hi => ?_, fun r hr i hi => ?_⟩, fun v => (Iff.trans ⟨Spn.mono fun b hb => ?_, Spn.mono fun b hb => ?_⟩ (sp v))⟩
  · obtain ⟨x, hx, rfl⟩ := List.mem_map.mp hr
    rcases spl x hx with rfl | hx
    · exact z0 i
    · exact A'.zero _ (List.mem_map.mpr ⟨x, hx, rfl⟩) i hi
  · obtain ⟨x, hx, rfl⟩ := List.mem_map.mp hr
    rcases spl x hx with rfl | hx
    · exact z0 i
    · exact A'.sup _ (List.mem_map.mpr ⟨x, hx, rfl⟩) i hi
  · rcases List.mem_append.mp hb with hb | hb
    · obtain ⟨x, hx, rfl⟩ := List.mem_map.mp hb
      rcases spl x hx with rfl | hx
      · exact Spn.zero.eq z0
      · exact Spn.mem (List.mem_append_left _ (List.mem_map.mpr ⟨x, hx, rfl⟩))
    · exact Spn.mem (List.mem_append_right _ hb)
  · rcases List.mem_append.mp hb with hb | hb
    · obtain ⟨x, hx, rfl⟩ := List.mem_map.mp hb
      exact Spn.mem (List.mem_append_left _ (List.mem_map.mpr ⟨x, List.mem_of_mem_eraseIdx hx, rfl⟩))
    · exact Spn.mem (List.mem_append_right _ hb)
theorem over_list0 (x : Fp p) (h : x ≠ 0) : ∃ r, filG ((List.range p.toNat).map fun i : Nat => (i : Int)) (fun (y22 : Int) => filB ((mulG y22 x.v).bind fun (t24 : Int) => (modG t24 p).bind fun (t25 : Int) => some (decide (t25 = (1 : Int)))) (some y22)) = some ((x⁻¹).v :: r) := by
  have h0 := Fp.v_ne.mp h
  have hp := Pr.pr (p := p)
  have lo := x.lo
  have hi := x.hi
  obtain ⟨v, l, u⟩ := x
  simp only at h0 lo hi ⊢
  rcases hp with rfl | rfl | rfl | rfl
  · have : v = 1 := by omega
    subst this; exact ⟨[], rfl⟩
  · have : v = 1 ∨ v = 2 := by omega
    rcases this with rfl | rfl <;> exact ⟨[], rfl⟩
  · have : v = 1 ∨ v = 2 ∨ v = 3 ∨ v = 4 := by omega
    rcases this with rfl | rfl | rfl | rfl <;> exact ⟨[], rfl⟩
  · have : v = 1 ∨ v = 2 ∨ v = 3 ∨ v = 4 ∨ v = 5 ∨ v = 6 := by omega
    rcases this with rfl | rfl | rfl | rfl | rfl | rfl <;> exact ⟨[], rfl⟩
theorem filG_m {α β γ : Type} {f : β → Option (Option γ)} {φ : α → β} {xs : List α} (P : α → Bool) (ψ : α → γ) (h : ∀ x ∈ xs, f (φ x) = some (if P x = true then some (ψ x) else none)) (hl : xs.length ≤ 1000000) : filG (xs.map φ) f = some ((xs.filter P).map ψ) := by
  unfold filG
  rw [if_pos (by rw [List.length_map, lim]; exact hl)]
  induction xs with
  | nil => rfl
  | cons x xs ih =>
    rw [List.map_cons, List.filter_cons]
    unfold filO
    rw [h x (by simp), Option.bind_some, ih (fun y hy => h y (by simp [hy])) (by simp at hl; omega)]
    cases P x <;> rfl
theorem f_law_base2 (n : Nat) (hn : n ≤ 100000) (rows : List (Nat → Fp p)) (hr : rows.length ≤ 100000) (sup : ∀ r ∈ rows, ∀ i, n ≤ i → r i = 0) :
    F_law_base_v2 p (n : Int) (rows.map (lst n)) = some ((vs (bse n (Spn rows))).map (lst n)) := by
  have pp := Pr.pos (p := p)
  have p7 := Pr.le (p := p)
  unfold F_law_base_v2
  rw [mapG_m (lst n) (fun _ _ => rfl) (by omega), Option.bind_some, Option.bind_some, rng1_s (by omega), Option.bind_some]
  refine fold_r (fun q s => ∃ (rs : List (Nat → Fp p)) (ps : List (Nat × (Nat → Fp p))), s = (rs.map (lst n), (vs ps).map (lst n)) ∧ At n q rs ps ∧ (∀ v, Spn (rs ++ vs ps) v ↔ Spn rows v) ∧ rs.length ≤ 100000 ∧ ps.length ≤ q)
    ⟨rows, [], rfl, At.start sup, fun v => by simp [vs], hr, Nat.le_refl _⟩ (fun q s hq => ?_) (fun s => ?_)
  · rintro ⟨rs, ps, rfl, A, sp, l1, l2⟩
    have e1 : filG (rs.map (lst n)) (fun (y8 : List Int) => filB (((atI y8 (q : Int)).bind fun (t9 : Int) => some (!decide (t9 = (0 : Int))))) (some y8)) = some ((rs.filter fun r => !decide (r q = 0)).map (lst n)) := filG_m _ _ (fun r _ => by
      rw [lst_at _ hq, Option.bind_some, v_ne0]
      unfold filB
      rw [Option.bind_some, Option.bind_some]
      cases (!decide (r q = 0)) <;> rfl) (by omega)
    rw [e1, Option.bind_some]
    cases hs : rs.filter fun r => !decide (r q = 0) with
    | nil =>
      rw [if_neg (by simp)]
      refine ⟨_, rfl, rs, ps, rfl, A.skip fun r hr => ?_, sp, l1, by omega⟩
      have := List.filter_eq_nil_iff.mp hs r hr
      simpa using this
    | cons r0 tl =>
      have hm : r0 ∈ rs.filter fun r => !decide (r q = 0) := by rw [hs]; simp
      have hm1 := (List.mem_filter.mp hm).1
      have hne : r0 q ≠ 0 := by simpa using (List.mem_filter.mp hm).2
      rw [if_pos (by simp), rng1_z (by omega) (by omega), Option.bind_some]
      have a0 : ∀ L : List (List Int), atI (lst n r0 :: L) 0 = some (lst n r0) := fun L => at_head _ _
      rw [List.map_cons]
      simp only [a0, Option.bind_some, lst_at _ hq]
      obtain ⟨tl2, eo⟩ := over_list0 (r0 q) hne
      rw [eo, Option.bind_some]
      have a1 : atI ((r0 q)⁻¹.v :: tl2) 0 = some (r0 q)⁻¹.v := at_head _ _
      rw [a1, Option.bind_some, f_over n (by omega), Option.bind_some]
      obtain ⟨A', sp'⟩ := A.step2 hq hm1 hne
      rw [mapG_m (fun r => lst n (cut (fun i => (r0 q)⁻¹ * r0 i) q r)) (fun r _ => by rw [lst_at _ hq, Option.bind_some, f_less n (by omega)]; rfl) (by omega), Option.bind_some]
      rw [mapG_m (fun r => lst n (cut (fun i => (r0 q)⁻¹ * r0 i) q r)) (fun r _ => by rw [lst_at _ hq, Option.bind_some, f_less n (by omega)]; rfl) (by unfold vs; rw [List.length_map]; omega), Option.bind_some]
      rw [catG_s (by rw [List.length_map]; unfold vs; rw [List.length_map]; simp; omega), Option.bind_some]
      refine ⟨_, rfl, _, _, ?_, A', fun v => (sp' v).trans (sp v), by rw [List.length_map]; omega, by simp; omega⟩
      unfold vs
      simp [List.map_map]
  · rintro ⟨rs, ps, rfl, A, sp, l1, l2⟩
    rw [mapG_m (lst n) (fun _ _ => rfl) (by unfold vs; rw [List.length_map]; omega), bse_eq A.rf fun v => (A.done v).symm.trans (sp v)]
theorem loop_l {ρ α β R : Type} {f : β → Unit → Option (Lp Unit ρ)} {φ : α → β} {xs : List α} {K : Unit → Option R} {m : ρ → Option R} (h : ∀ x ∈ xs, f (φ x) () = some (.nx ())) : (loopO f (xs.map φ) ()).bind (lpK K m) = K () := by
  have : loopO f (xs.map φ) () = some (.nx ()) := by
    induction xs with
    | nil => rfl
    | cons x xs ih =>
      rw [List.map_cons]
      unfold loopO
      rw [h x (by simp)]
      exact ih fun y hy => h y (by simp [hy])
  rw [this]
  rfl
theorem zip_self {α : Type} : ∀ xs : List α, List.zip xs xs = xs.map fun x => (x, x)
  | [] => rfl
  | x :: xs => by rw [List.zip_cons_cons, zip_self xs]; rfl
theorem f_law_is_base2 (n : Nat) (hn : n ≤ 1000000) (L : List (List Int)) (h : ∀ xs ∈ L, xs.length = n) : F_law_is_base_v2 L L = some true := by
  unfold F_law_is_base_v2
  rw [if_neg (by simp), zip_self]
  refine loop_l fun x hx => ?_
  rw [if_neg (by simp)]
  have e : mapG x (fun y1 => F_law_whole y1) = some (x.map fun _ => true) := mapG_s (fun _ => true) (fun _ _ => rfl) (by rw [h x hx]; exact hn)
  simp [e]
end La
namespace La
open Mn
open PySem
open L2 (atI ixN atI_nat)
variable {p : Int} [Pr p]
abbrev Ld (p : Int) [Pr p] := Nat → Fp p
theorem f_led2 (h w : Nat) (hh : h ≤ 1000000) (hw : w ≤ 1000000) (A : Nat → Nat → Fp p) (v : Nat → Fp p) : F_law_led_v2_v2 p (rws h w A) (lst w v) = some (lst h (ml w A v)) := by
  unfold F_law_led_v2_v2 rws
  rw [mapG_r (fun i => (ml w A v i).v) (fun i _ => f_summed w hw (A i) v) hh]
  rfl
end La
set_option maxHeartbeats 2000000
namespace La
open Mn
open PySem
open L2 (atI ixN atI_nat)
variable {p : Int} [Pr p]
def ks (s : List (List Int × Bool)) : List (List Int) := s.map fun q => q.1
theorem look_ks (s : List (List Int × Bool)) (l : List Int) : (lookA s l).isSome = true ↔ l ∈ ks s := by
  unfold lookA ks
  rw [Option.isSome_map, List.find?_isSome]
  simp [List.mem_map]
structure Gd (p : Int) [Pr p] (n : Nat) (s : List (List Int × Bool)) : Prop where
  nd : (ks s).Nodup
  ld : ∀ l ∈ ks s, ∃ z : Nat → Fp p, l = lst n z
theorem lst_all (n : Nat) (z : Nat → Fp p) : lst n z ∈ (allV p n).map (lst n) := by
  refine List.mem_map.mpr ⟨fun i => if i < n then z i else 0, mem_allV n _ fun i hi => by rw [if_neg (by omega)], lst_eq.mpr fun i hi => by rw [if_pos hi]⟩
theorem Gd.len {n : Nat} {s : List (List Int × Bool)} (g : Gd p n s) : s.length ≤ p.toNat ^ n := by
  have := nodup_len g.nd (m := (allV p n).map (lst n)) fun l hl => by
    obtain ⟨z, rfl⟩ := g.ld l hl
    exact lst_all n z
  rw [List.length_map, allV_len] at this
  unfold ks at this
  rw [List.length_map] at this
  exact this
theorem put_gd {n : Nat} {s : List (List Int × Bool)} (g : Gd p n s) (hb : p.toNat ^ n ≤ 100000) (z : Nat → Fp p) : ∃ s', putG s (lst n z) true = some s' ∧ Gd p n s' ∧ ∀ l, l ∈ ks s' ↔ l ∈ ks s ∨ l = lst n z := by
  have hl := g.len
  unfold putG
  rw [if_pos (by rw [lim]; omega)]
  refine ⟨_, rfl, ?_⟩
  unfold putA
  by_cases c : (lookA s (lst n z)).isSome = true
  · rw [if_pos c]
    have e : ks (s.map fun q => if q.1 = lst n z then (q.1, true) else q) = ks s := by
      unfold ks
      rw [List.map_map]
      refine List.map_congr_left fun q _ => ?_
      show (if q.1 = lst n z then (q.1, true) else q).1 = q.1
      split <;> rfl
    have m := (look_ks s _).mp c
    refine ⟨⟨by rw [e]; exact g.nd, fun l h => g.ld l (by rw [e] at h; exact h)⟩, fun l => ?_⟩
    rw [e]
    exact ⟨.inl, fun h => h.elim id fun h => by rw [h]; exact m⟩
  · rw [if_neg c]
    have m : lst n z ∉ ks s := fun h => c ((look_ks s _).mpr h)
    have e : ks (s ++ [(lst n z, true)]) = ks s ++ [lst n z] := by unfold ks; rw [List.map_append]; rfl
    refine ⟨⟨?_, fun l h => ?_⟩, fun l => ?_⟩
    · rw [e, List.nodup_append]
      exact ⟨g.nd, by simp, fun a ha b hb2 => by
        rw [List.mem_singleton] at hb2
        rw [hb2]
        exact fun e => m (e ▸ ha)⟩
    · rw [e, List.mem_append, List.mem_singleton] at h
      exact h.elim (g.ld l) fun h => ⟨z, h⟩
    · rw [e, List.mem_append, List.mem_singleton]
theorem spn_snoc (ys : List (Nat → Fp p)) (e z : Nat → Fp p) : Spn (ys ++ [e]) z ↔ ∃ z0 c, Spn ys z0 ∧ z = fun i => z0 i + c * e i := by
  constructor
  · intro h
    induction h with
    | zero => exact ⟨_, 0, .zero, funext fun i => by grind⟩
    | @add c b v hb _ ih =>
      obtain ⟨z0, d, h1, h2⟩ := ih
      rcases List.mem_append.mp hb with hb | hb
      · exact ⟨fun i => z0 i + c * b i, d, h1.add c hb, funext fun i => by rw [h2]; grind⟩
      · rw [List.mem_singleton] at hb
        subst hb
        exact ⟨z0, d + c, h1, funext fun i => by rw [h2]; grind⟩
  · rintro ⟨z0, c, h1, rfl⟩
    exact (h1.mono fun b hb => Spn.mem (List.mem_append_left _ hb)).plus ((Spn.mem (by simp)).smul c)
theorem f_comb (n : Nat) (hn : n ≤ 1000000) (u e : Nat → Fp p) (x : Nat) (hx : x < 1000) : mapG (List.zip (lst n u) (lst n e)) (fun (y12 : Int × Int) => ((mulG (x : Int) y12.2).bind fun (t13 : Int) => modG (y12.1 + t13) p)) = some (lst n fun i => u i + Fp.of (x : Int) * e i) := by
  unfold lst
  rw [zip_r, mapG_r (fun i => (u i + Fp.of (x : Int) * e i).v) (fun i _ => ?_) hn]
  rw [mulG_l (by omega) (by omega), Option.bind_some, modG_s pP]
  show some ((_ + _) % p) = some ((_ + (_ % p * _) % p) % p)
  rw [Fp.mm1, Int.add_emod (u i).v ((x : Int) * (e i).v % p), Int.emod_emod_of_dvd _ (Int.dvd_refl p), ← Int.add_emod]
abbrev Dic := List (List Int × Bool)
def spF1 (p : Int) (x8 x6 : List Int) (x11 : Int) (s9 : Dic) : Option Dic :=
  (mapG (List.zip x8 x6) fun (y12 : Int × Int) => ((mulG x11 y12.2).bind fun (t13 : Int) => modG (y12.1 + t13) p)).bind fun (t15 : List Int) =>
  (putG s9 t15 true).bind fun (v_span_here_16 : List (List Int × Bool)) =>
  some v_span_here_16
def spF2 (p : Int) (x6 x8 : List Int) (s7 : Dic) : Option Dic :=
  (rng2 ((1 : Int)) p).bind fun (r10 : List Int) =>
  (foldO (spF1 p x8 x6) r10 s7).bind fun (s9 : List (List Int × Bool)) =>
  some s9
def spF3 (p : Int) (x6 : List Int) (s5 : Dic) : Option Dic :=
  (foldO (spF2 p x6) (List.map (fun p => p.1) s5) s5).bind fun (s7 : List (List Int × Bool)) =>
  some s7
theorem f_span_u (n : Int) (L : List (List Int)) : F_law_span p n L = (rng1 n).bind fun r1 => (mapG r1 fun (y2 : Int) => some ((0 : Int))).bind fun t3 => (foldO (spF3 p) L [(t3, true)]).bind fun s5 => some s5 := rfl
theorem sp_key {n : Nat} (hn : n ≤ 1000) (hb : p.toNat ^ n ≤ 100000) (z e : Nat → Fp p) {t : Dic} (g : Gd p n t) : ∃ s', spF2 p (lst n e) (lst n z) t = some s' ∧ Gd p n s' ∧ ∀ l, l ∈ ks s' ↔ l ∈ ks t ∨ ∃ x : Nat, x + 1 < p.toNat ∧ l = lst n fun i => z i + Fp.of ((x + 1 : Nat) : Int) * e i := by
  have pp := Pr.pos (p := p)
  have p7 := Pr.le (p := p)
  unfold spF2
  rw [rng2_s (by omega) (by omega) (by omega) (by omega), Option.bind_some]
  have H : ∃ s, foldO (spF1 p (lst n z) (lst n e)) ((List.range (p - 1).toNat).map fun i : Nat => (1 : Int) + (i : Int)) t = some s ∧ Gd p n s ∧ ∀ l, l ∈ ks s ↔ l ∈ ks t ∨ ∃ x : Nat, x < (p - 1).toNat ∧ l = lst n fun i => z i + Fp.of ((x + 1 : Nat) : Int) * e i := by
    refine foldO_inv (fun k t' => Gd p n t' ∧ ∀ l, l ∈ ks t' ↔ l ∈ ks t ∨ ∃ x : Nat, x < k ∧ l = lst n fun i => z i + Fp.of ((x + 1 : Nat) : Int) * e i)
        ⟨g, fun l => ⟨.inl, fun h => h.elim id fun ⟨x, hx, _⟩ => by omega⟩⟩ fun k t' hk hh => ?_
    obtain ⟨g4, h4⟩ := hh
    have ec : (1 : Int) + (k : Int) = ((k + 1 : Nat) : Int) := by omega
    unfold spF1
    rw [ec, f_comb n (by omega) z e (k + 1) (by omega), Option.bind_some]
    obtain ⟨s5, a5, g5, h5⟩ := put_gd g4 hb fun i => z i + Fp.of ((k + 1 : Nat) : Int) * e i
    rw [a5]
    refine ⟨s5, rfl, g5, fun l => (h5 l).trans ?_⟩
    constructor
    · rintro (hl | rfl)
      · rcases (h4 l).mp hl with hl | ⟨x, hx, rfl⟩
        · exact .inl hl
        · exact .inr ⟨x, by omega, rfl⟩
      · exact .inr ⟨k, by omega, rfl⟩
    · rintro (hl | ⟨x, hx, rfl⟩)
      · exact .inl ((h4 l).mpr (.inl hl))
      · by_cases c : x < k
        · exact .inl ((h4 _).mpr (.inr ⟨x, c, rfl⟩))
        · have : x = k := by omega
          subst this
          exact .inr rfl
  obtain ⟨s3, a3, g3, h3⟩ := H
  rw [a3]
  refine ⟨s3, rfl, g3, fun l => (h3 l).trans ?_⟩
  exact or_congr Iff.rfl ⟨fun ⟨x, hx, e⟩ => ⟨x, by omega, e⟩, fun ⟨x, hx, e⟩ => ⟨x, by omega, e⟩⟩
theorem sp_load {n : Nat} (hn : n ≤ 1000) (hb : p.toNat ^ n ≤ 100000) (ys : List (Nat → Fp p)) (e : Nat → Fp p) {s : Dic} (g : Gd p n s) (h : ∀ l, l ∈ ks s ↔ ∃ z, Spn ys z ∧ l = lst n z) :
    ∃ s', spF3 p (lst n e) s = some s' ∧ Gd p n s' ∧ ∀ l, l ∈ ks s' ↔ ∃ z, Spn (ys ++ [e]) z ∧ l = lst n z := by
  unfold spF3
  have H : ∃ s1, foldO (spF2 p (lst n e)) (List.map (fun q : List Int × Bool => q.1) s) s = some s1 ∧ Gd p n s1 ∧ ∀ l, l ∈ ks s1 ↔ l ∈ ks s ∨ ∃ (u : Nat → Fp p) (x : Nat), lst n u ∈ ks s ∧ x + 1 < p.toNat ∧ l = lst n fun i => u i + Fp.of ((x + 1 : Nat) : Int) * e i := by
    refine foldO_l (fun us t => Gd p n t ∧ ∀ l, l ∈ ks t ↔ l ∈ ks s ∨ ∃ (u : Nat → Fp p) (x : Nat), lst n u ∈ ks us ∧ x + 1 < p.toNat ∧ l = lst n fun i => u i + Fp.of ((x + 1 : Nat) : Int) * e i)
      ⟨g, fun l => ⟨.inl, fun h => h.elim id fun ⟨u, x, h, _⟩ => by simp [ks] at h⟩⟩ fun us q t hq _ hh => ?_
    obtain ⟨g2, h2⟩ := hh
    obtain ⟨z, ez⟩ := g.ld q.1 (List.mem_map.mpr ⟨q, hq, rfl⟩)
    obtain ⟨s3, a3, g3, h3⟩ := sp_key hn hb z e g2
    rw [ez]
    refine ⟨s3, a3, g3, fun l => (h3 l).trans ?_⟩
    have ek : ks (us ++ [q]) = ks us ++ [lst n z] := by unfold ks; rw [List.map_append, ← ez]; rfl
    rw [ek]
    constructor
    · rintro (hl | ⟨x, hx, rfl⟩)
      · rcases (h2 l).mp hl with hl | ⟨u, x, hu, hx, rfl⟩
        · exact .inl hl
        · exact .inr ⟨u, x, List.mem_append_left _ hu, hx, rfl⟩
      · exact .inr ⟨z, x, by simp, hx, rfl⟩
    · rintro (hl | ⟨u, x, hu, hx, rfl⟩)
      · exact .inl ((h2 l).mpr (.inl hl))
      · rcases List.mem_append.mp hu with hu | hu
        · exact .inl ((h2 _).mpr (.inr ⟨u, x, hu, hx, rfl⟩))
        · rw [List.mem_singleton] at hu
          refine .inr ⟨x, hx, lst_eq.mpr fun i hi => ?_⟩
          rw [lst_eq.mp hu i hi]
  obtain ⟨s1, a1, g1, h1⟩ := H
  rw [a1]
  refine ⟨s1, rfl, g1, fun l => (h1 l).trans ?_⟩
  constructor
  · rintro (hl | ⟨u, x, hu, hx, rfl⟩)
    · obtain ⟨z, hz, rfl⟩ := (h l).mp hl
      exact ⟨z, hz.mono fun b hb => Spn.mem (List.mem_append_left _ hb), rfl⟩
    · obtain ⟨z, hz, ez⟩ := (h _).mp hu
      refine ⟨fun i => z i + Fp.of ((x + 1 : Nat) : Int) * e i, (spn_snoc _ _ _).mpr ⟨z, _, hz, rfl⟩, lst_eq.mpr fun i hi => ?_⟩
      rw [lst_eq.mp ez i hi]
  · rintro ⟨z, hz, rfl⟩
    obtain ⟨z0, c, hz0, rfl⟩ := (spn_snoc _ _ _).mp hz
    by_cases c0 : c.v = 0
    · refine .inl ((h _).mpr ⟨z0, hz0, lst_eq.mpr fun i hi => ?_⟩)
      have : c = 0 := Fp.ext (c0.trans Fp.zero_v.symm)
      rw [this]; grind
    · have lo := c.lo
      have hi := c.hi
      refine .inr ⟨z0, c.v.toNat - 1, (h _).mpr ⟨z0, hz0, rfl⟩, by omega, lst_eq.mpr fun i hi => ?_⟩
      have e2 : ((c.v.toNat - 1 + 1 : Nat) : Int) = c.v := by omega
      rw [e2, Fp.of_self]
theorem f_span (n : Nat) (hn : n ≤ 1000) (hb : p.toNat ^ n ≤ 100000) (L : List (Nat → Fp p)) : ∃ s, F_law_span p (n : Int) (L.map (lst n)) = some s ∧ ∀ l, l ∈ ks s ↔ ∃ z, Spn L z ∧ l = lst n z := by
  rw [f_span_u, rng1_s (by omega), Option.bind_some]
  have e0 : mapG ((List.range n).map fun i : Nat => (i : Int)) (fun (y2 : Int) => some ((0 : Int))) = some (lst n fun _ => (0 : Fp p)) := mapG_r (fun i => ((0 : Fp p)).v) (fun i _ => congrArg some Fp.zero_v.symm) (by omega)
  rw [e0, Option.bind_some]
  have H : ∃ s, foldO (spF3 p) (L.map (lst n)) [(lst n fun _ => (0 : Fp p), true)] = some s ∧ Gd p n s ∧ ∀ l, l ∈ ks s ↔ ∃ z, Spn L z ∧ l = lst n z := by
    refine foldO_l (fun ys s => Gd p n s ∧ ∀ l, l ∈ ks s ↔ ∃ z, Spn ys z ∧ l = lst n z) ⟨⟨by simp [ks], fun l hl => ⟨fun _ => 0, by simpa [ks] using hl⟩⟩, fun l => ⟨fun hl => ⟨fun _ => 0, .zero, by simpa [ks] using hl⟩, fun ⟨z, h1, h2⟩ => by
      have : z = fun _ => 0 := funext (spn_nil h1)
      rw [h2, this]; simp [ks]⟩⟩ fun ys e s he _ hh => ?_
    exact sp_load hn hb ys e hh.1 hh.2
  obtain ⟨s, e1, g, h⟩ := H
  exact ⟨s, by rw [e1, Option.bind_some], h⟩
end La
namespace La
open Mn
open PySem
open L2 (atI ixN atI_nat)
variable {p : Int} [Pr p]
def IsB (p : Int) [Pr p] (n : Nat) (X : List (List Int)) : Prop := ∃ L : List (Nat → Fp p), X = L.map (lst n) ∧ (∀ b ∈ L, ∀ i, n ≤ i → b i = 0) ∧ L.length ≤ n
theorem isB_bse {n : Nat} {rows : List (Nat → Fp p)} (sup : ∀ b ∈ rows, ∀ i, n ≤ i → b i = 0) : IsB p n ((vs (bse n (Spn rows))).map (lst n)) := by
  obtain ⟨R, _, _⟩ := bse_spn sup
  refine ⟨_, rfl, fun b hb i hi => ?_, ?_⟩
  · obtain ⟨q, hq, rfl⟩ := mem_vs.mp hb
    exact R.sup q hq i hi
  · unfold vs
    rw [List.length_map]
    exact R.len_le
theorem IsB.nil (n : Nat) : IsB p n [] := ⟨[], rfl, fun b hb => by simp at hb, Nat.zero_le _⟩
theorem IsB.lens {n : Nat} {X : List (List Int)} (h : IsB p n X) : ∀ xs ∈ X, xs.length = n := fun xs hx => by
  obtain ⟨L, rfl, _, _⟩ := h
  obtain ⟨z, _, rfl⟩ := List.mem_map.mp hx
  exact lst_len _ _
theorem f_along (h w : Nat) (hh : h ≤ 1000) (hw : w ≤ 1000) (A : Nat → Nat → Fp p) {X : List (List Int)} (hX : IsB p w X) :
    ∃ Y, F_pressed p (tb h w A) X = some Y ∧ F_law_due_v10 p (tb h w A) X true = some Y ∧ IsB p h Y := by
  obtain ⟨L, rfl, sup, len⟩ := hX
  have e1 : (L.map fun z => lst h (ml w A z)) = (L.map fun z i => if i < h then ml w A z i else 0).map (lst h) := by
    rw [List.map_map]
    refine List.map_congr_left fun z _ => lst_eq.mpr fun i hi => ?_
    show _ = if i < h then _ else _
    rw [if_pos hi]
  have sp : ∀ b ∈ (L.map fun z i => if i < h then ml w A z i else 0), ∀ i, h ≤ i → b i = 0 := fun b hb i hi => by
    obtain ⟨z, _, rfl⟩ := List.mem_map.mp hb
    show (if i < h then _ else _) = _
    rw [if_neg (by omega)]
  refine ⟨_, ?_, ?_, isB_bse sp⟩
  · unfold F_pressed
    rw [mapG_m (fun z => lst h (ml w A z)) (fun z _ => f_led h w (by omega) (by omega) A z) (by omega), Option.bind_some, e1]
    exact (f_base_of h (by omega) _ (by rw [List.length_map]; omega) sp).1
  · unfold F_law_due_v10
    rw [if_pos rfl]
    show (mapG (L.map (lst w)) fun y1 => F_law_led_v2_v2 p (rws h w A) y1).bind _ = _
    rw [mapG_m (fun z => lst h (ml w A z)) (fun z _ => f_led2 h w (by omega) (by omega) A z) (by omega), Option.bind_some, e1]
    exact f_law_base2 h (by omega) _ (by rw [List.length_map]; omega) sp
theorem f_against (h w : Nat) (hh : h ≤ 100) (hw : w ≤ 100) (hb : p.toNat ^ h ≤ 100000) (hb2 : p.toNat ^ w ≤ 100000) (A : Nat → Nat → Fp p) {X : List (List Int)} (hX : IsB p h X) :
    ∃ Y, F_leading_to p (tb h w A) X = some Y ∧ F_law_due_v10 p (tb h w A) X false = some Y ∧ IsB p w Y := by
  obtain ⟨L, rfl, sup, len⟩ := hX
  have hK := kr_bse (rowsOf_sup h (L.length + w) (jnT 0 L A))
  have hlen := hK.1.len_le
  have sl := step_l 0 w h A L _ hK.2.1
  have spR : ∀ b ∈ (vs (bse (L.length + w) (Kr (L.length + w) (rowsOf h (L.length + w) (jnT 0 L A))))).map (stL 0 w L), ∀ i, w ≤ i → b i = 0 := fun b hb i hi => by
    obtain ⟨y, _, rfl⟩ := List.mem_map.mp hb
    unfold stL
    rw [if_neg (by omega), if_neg (by omega)]
  have vl : (vs (bse (L.length + w) (Kr (L.length + w) (rowsOf h (L.length + w) (jnT 0 L A))))).length ≤ L.length + w := by unfold vs; rw [List.length_map]; exact hlen
  refine ⟨_, ?_, ?_, isB_bse spR⟩
  · unfold F_leading_to
    have e0 : L.map (lst h) = L.map fun z => lst h fun k => z (0 + k) := by simp
    have ej : F_joined_table p (tb h w A) (L.map (lst h)) = some (tb h (L.length + w) (jnT 0 L A)) := by
      rw [e0, f_joined h w (by omega) (by omega) A L (by omega) fun z k => z (0 + k)]
      rfl
    rw [ej, Option.bind_some, f_kernel h (L.length + w) (by omega) (by omega), Option.bind_some, List.length_map]
    rw [mapG_m (fun y => lst w fun j => y (L.length + j)) (fun y _ => by rw [cut_hi]) (by omega), Option.bind_some]
    have e1 : ((vs (bse (L.length + w) (Kr (L.length + w) (rowsOf h (L.length + w) (jnT 0 L A))))).map fun y => lst w fun j => y (L.length + j)) = ((vs (bse (L.length + w) (Kr (L.length + w) (rowsOf h (L.length + w) (jnT 0 L A))))).map (stL 0 w L)).map (lst w) := by
      rw [List.map_map]
      refine List.map_congr_left fun y _ => lst_eq.mpr fun i hi => ?_
      unfold stL
      rw [if_neg (by omega), if_pos (by omega), Nat.sub_zero]
    rw [e1]
    exact (f_base_of w (by omega) _ (by rw [List.length_map]; omega) spR).1
  · unfold F_law_due_v10
    rw [if_neg Bool.false_ne_true]
    obtain ⟨s, es, hs⟩ := f_span h (by omega) hb L
    show (F_law_span p (h : Int) (L.map (lst h))).bind _ = _
    rw [es, Option.bind_some]
    show (F_law_all p (w : Int)).bind _ = _
    rw [f_all w (by omega) hb2, Option.bind_some]
    show (filG ((allV p w).map (lst w)) fun y8 => filB ((F_law_led_v2_v2 p (rws h w A) y8).bind fun t9 => some ((lookA s t9).isSome)) (some y8)).bind _ = _
    rw [filG_m (fun v => (lookA s (lst h (ml w A v))).isSome) (lst w) (fun v _ => by
      rw [f_led2 h w (by omega) (by omega) A v, Option.bind_some]
      unfold filB
      rw [Option.bind_some]
      cases (lookA s (lst h (ml w A v))).isSome <;> rfl) (by rw [allV_len]; omega), Option.bind_some]
    show F_law_base_v2 p (w : Int) _ = _
    have fl : ((allV p w).filter fun v => (lookA s (lst h (ml w A v))).isSome).length ≤ 100000 := Nat.le_trans (List.length_filter_le _ _) (by rw [allV_len]; exact hb2)
    rw [f_law_base2 w (by omega) _ fl fun b hb => allV_sup w b (List.mem_filter.mp hb).1]
    have eS : Spn ((allV p w).filter fun v => (lookA s (lst h (ml w A v))).isSome) = Spn ((vs (bse (L.length + w) (Kr (L.length + w) (rowsOf h (L.length + w) (jnT 0 L A))))).map (stL 0 w L)) := by
      refine funext fun v => propext ⟨fun hv => hv.mono fun b hb => ?_, fun hv => ?_⟩
      · obtain ⟨m1, m2⟩ := List.mem_filter.mp hb
        obtain ⟨z, hz, ez⟩ := (hs _).mp ((look_ks _ _).mp m2)
        refine (sl b).mpr ⟨z, hz, fun i hi => by omega, fun k hk => ?_, fun i hi => allV_sup w b m1 i (by omega)⟩
        rw [Nat.zero_add, ← lst_eq.mp ez k hk]
        exact sm_congr fun j _ => by rw [Nat.zero_add]
      · obtain ⟨z, hz, _, h2, h3⟩ := (sl v).mp hv
        refine Spn.mem (List.mem_filter.mpr ⟨mem_allV w v fun i hi => h3 i (by omega), (look_ks _ _).mpr ((hs _).mpr ⟨z, hz, lst_eq.mpr fun k hk => ?_⟩)⟩)
        have := h2 k hk
        rw [Nat.zero_add] at this
        rw [this]
        exact sm_congr fun j _ => by rw [Nat.zero_add]
    rw [eS]
end La
set_option maxHeartbeats 4000000
namespace Mn
open PySem PySem.Spec PyProof.Rows
open L2 (atI ixN cutS)
end Mn
namespace Mn
open PySem PySem.Spec PyProof.Rows
open L2 (atI ixN cutS)
end Mn
namespace Mn
open PySem PySem.Spec PyProof.Rows
open L2 (atI ixN cutS)
end Mn
namespace Mn
open PySem PySem.Spec PyProof.Rows
open L2 (atI ixN cutS)
end Mn
namespace Mn
open PySem PySem.Spec PyProof.Rows
open L2 (atI ixN cutS)
end Mn
set_option maxHeartbeats 1000000
namespace La
open Mn
open PySem
open L2 (atI ixN atI_nat)
theorem cell_ex (ns : List Int) (hns : ns.length ≤ 1000) (k : Int) (h0 : 0 ≤ k) (h1 : k < 1000000) : ∃ m, F_law_cell ns k = some m ∧ 0 ≤ m := by
  have hk : 0 ≤ k * k := Int.mul_nonneg h0 h0
  have hk2 : k * k ≤ 1000000 * 1000000 := Int.mul_le_mul (by omega) (by omega) h0 (by omega)
  unfold F_law_cell
  have fin : ∀ g : Int, ∃ m, ((powG ((10 : Int)) ((30 : Int))).bind fun (t21 : Int) =>
      (modG g t21).bind fun (t22 : Int) =>
      (mulG t22 ((48271 : Int))).bind fun (t23 : Int) =>
      (mulG ((7 : Int)) k).bind fun (t24 : Int) =>
      (mulG t24 k).bind fun (t25 : Int) =>
      (mulG ((13 : Int)) k).bind fun (t26 : Int) =>
      (modG (((t23 + t25) + t26) + ((5 : Int))) ((2147483647 : Int))).bind fun (t27 : Int) =>
      (mulG t27 ((69621 : Int))).bind fun (t28 : Int) =>
      modG t28 ((1000000007 : Int))) = some m ∧ 0 ≤ m := fun g => by
    rw [pow30, Option.bind_some, modG_s (by omega), Option.bind_some, mulG_r (by omega) (by omega), Option.bind_some, mulG_l (by omega) (by omega), Option.bind_some, mulG_r (by omega) (by omega), Option.bind_some, mulG_l (by omega) (by omega), Option.bind_some, modG_s (by omega), Option.bind_some, mulG_r (by omega) (by omega), Option.bind_some, modG_s (by omega)]
    exact ⟨_, rfl, Int.emod_nonneg _ (by omega)⟩
  have fin2 : ∃ m, ((some k).bind fun (v_given_16 : Int) =>
      (if (decide ((0 : Int) < (ns.length : Int))) = true then
      ((modG k ((ns.length : Int))).bind fun (t18 : Int) =>
      (atI ns t18).bind fun (v_given_20 : Int) =>
      some v_given_20)
      else
      (some v_given_16) : Option (Int)).bind fun (s17 : Int) =>
      (powG ((10 : Int)) ((30 : Int))).bind fun (t21 : Int) =>
      (modG s17 t21).bind fun (t22 : Int) =>
      (mulG t22 ((48271 : Int))).bind fun (t23 : Int) =>
      (mulG ((7 : Int)) k).bind fun (t24 : Int) =>
      (mulG t24 k).bind fun (t25 : Int) =>
      (mulG ((13 : Int)) k).bind fun (t26 : Int) =>
      (modG (((t23 + t25) + t26) + ((5 : Int))) ((2147483647 : Int))).bind fun (t27 : Int) =>
      (mulG t27 ((69621 : Int))).bind fun (t28 : Int) =>
      modG t28 ((1000000007 : Int))) = some m ∧ 0 ≤ m := by
    rw [Option.bind_some]
    by_cases c : ns.length = 0
    · rw [if_neg (by simp [c]), Option.bind_some]
      exact fin _
    · have m0 := Int.emod_nonneg k (show (ns.length : Int) ≠ 0 by omega)
      have m1 := Int.emod_lt_of_pos k (show 0 < (ns.length : Int) by omega)
      obtain ⟨x, e⟩ := at_any m0 m1
      rw [if_pos (by simp; omega), modG_s (by omega), Option.bind_some, e, Option.bind_some, Option.bind_some]
      exact fin _
  by_cases c2 : (1 : Int) < ns.length
  · obtain ⟨x0, e0⟩ := at_any (ns := ns) (i := 0) (by omega) (by omega)
    rw [if_pos (by simp [c2]), e0, Option.bind_some, modG_s (by omega), Option.bind_some, Option.bind_some]
    by_cases c3 : x0 % 2 = 1
    · rw [if_pos (by simp [c3]), modG_s (by omega), Option.bind_some]
      have m2 := Int.emod_nonneg k (show (ns.length : Int) - 1 ≠ 0 by omega)
      have m3 := Int.emod_lt_of_pos k (show 0 < (ns.length : Int) - 1 by omega)
      obtain ⟨d, e1⟩ := at_any (ns := ns) (i := 1 + k % ((ns.length : Int) - 1)) (by omega) (by omega)
      have q0 : 0 ≤ k / ((ns.length : Int) - 1) := Int.ediv_nonneg h0 (by omega)
      have q1 : k / ((ns.length : Int) - 1) ≤ k := Int.ediv_le_self _ h0
      have l1 : min 60 (k / ((ns.length : Int) - 1)) ≤ 60 := Int.min_le_left _ _
      have l0 : 0 ≤ min 60 (k / ((ns.length : Int) - 1)) := Int.le_min.mpr ⟨by omega, q0⟩
      rw [e1, Option.bind_some, fdivG_s (by omega) (by omega), Option.bind_some, rng1_z l0 (by omega), Option.bind_some]
      obtain ⟨s, e2⟩ := foldO_any (σ := Int) (f := fun (x : Int) (s : Int) => (powG 10 9).bind fun t20 => (fdivG s t20).bind fun v => some v) (fun x s => ⟨s / 1000000000, by rw [pow9, Option.bind_some, fdivG_s (by omega) (by omega)]; rfl⟩) ((List.range (min 60 (k / ((ns.length : Int) - 1))).toNat).map fun i : Nat => (i : Int)) d
      rw [e2, Option.bind_some, pow9, Option.bind_some, modG_s (by omega)]
      exact ⟨_, rfl, Int.emod_nonneg _ (by omega)⟩
    · rw [if_neg (by simp [c3])]
      exact fin2
  · rw [if_neg (by simpa using c2), Option.bind_some, if_neg (by simp)]
    exact fin2
def cellV (ns : List Int) (k : Int) : Int := (F_law_cell ns k).getD 0
theorem cell_s {ns : List Int} (hns : ns.length ≤ 63) {k : Int} (h0 : 0 ≤ k) (h1 : k < 1000000) : F_law_cell ns k = some (cellV ns k) := by
  obtain ⟨m, e, _⟩ := cell_ex ns (by omega) k h0 h1
  unfold cellV
  rw [e]
  rfl
theorem cellV_nn {ns : List Int} (hns : ns.length ≤ 63) {k : Int} (h0 : 0 ≤ k) (h1 : k < 1000000) : 0 ≤ cellV ns k := by
  obtain ⟨m, e, h⟩ := cell_ex ns (by omega) k h0 h1
  unfold cellV
  rw [e]
  exact h
variable {p : Int} [Pr p]
def cells (ns : List Int) (at_ : Int) (w : Nat) (i j : Nat) : Fp p := if 0 < cellV ns (at_ + (i : Int) * (w : Int) + (j : Int)) % 4 then Fp.of (cellV ns (at_ + (i : Int) * (w : Int) + (j : Int)) / 4) else 0
end La
set_option maxHeartbeats 2000000
namespace La
open Mn
open PySem
open L2 (atI ixN atI_nat)
section
variable {p : Int} [Pr p]
theorem loads_ex {ns : List Int} (hns : ns.length ≤ 63) {at_ : Int} (h0 : 0 ≤ at_) (h1 : at_ < 10000) {n : Nat} (hn : n ≤ 100) :
    ∃ L : List (Nat → Fp p), F_law_loads_v2 ns at_ p (n : Int) = some (L.map (lst n)) ∧ (∀ b ∈ L, ∀ i, n ≤ i → b i = 0) ∧ L.length ≤ 3 := by
  unfold F_law_loads_v2
  obtain ⟨m, em, lm⟩ := nat_mod (x := cellV ns at_) (m := 4) (by omega)
  rw [Option.bind_some, cell_s hns h0 (by omega), Option.bind_some, modG_s (by omega), Option.bind_some, em, rng1_s (by omega), Option.bind_some]
  refine ⟨(List.range m).map fun (k : Nat) (j : Nat) => if j < n then (Fp.of (cellV ns (((at_ + 1) + 5 * (k : Int)) + (j : Int)) / 4) : Fp p) else 0, ?_, fun b hb i hi => ?_, by rw [List.length_map, List.length_range]; omega⟩
  · rw [foldO_r (fun k => lst n fun j => if j < n then (Fp.of (cellV ns (((at_ + 1) + 5 * (k : Int)) + (j : Int)) / 4) : Fp p) else 0) (fun k hk s => ?_) (by omega), Option.bind_some]
    · rw [List.map_map]
      rfl
    · rw [rng1_s (by omega), Option.bind_some]
      rw [mapG_r (fun j => (if j < n then (Fp.of (cellV ns (((at_ + 1) + 5 * (k : Int)) + (j : Int)) / 4) : Fp p) else 0).v) (fun j hj => by
        rw [mulG_l (by omega) (by omega), Option.bind_some, cell_s hns (by omega) (by omega), Option.bind_some, fdivG_s (by omega) (by omega), Option.bind_some, modG_s pP, if_pos hj]
        rfl) (by omega), Option.bind_some]
      show (appG s _).bind _ = _
      unfold lst
      cases appG s _ <;> rfl
  · obtain ⟨k, _, rfl⟩ := List.mem_map.mp hb
    show (if i < n then _ else _) = _
    rw [if_neg (by omega)]
theorem table_ex {ns : List Int} (hns : ns.length ≤ 63) {at_ : Int} (h0 : 0 ≤ at_) (h1 : at_ < 10000) {h w : Nat} (hh : h < 100) (hw : w < 100) : ∃ A : Nat → Nat → Fp p, F_law_table_v4 ns at_ p (h : Int) (w : Int) = some (tb h w A) := by
  unfold F_law_table_v4
  refine ⟨cells (p := p) ns at_ w, ?_⟩
  rw [Option.bind_some, rng1_s (by omega), Option.bind_some, foldO_r (fun i => lst w (cells (p := p) ns at_ w i)) (fun i hi s => ?_) (by omega), Option.bind_some]
  · rfl
  · rw [rng1_s (by omega), Option.bind_some]
    rw [mapG_r (fun j => cellV ns (at_ + (i : Int) * (w : Int) + (j : Int))) (fun j hj => by
      have b0 : 0 ≤ (i : Int) * (w : Int) := Int.mul_nonneg (by omega) (by omega)
      have b1 : (i : Int) * (w : Int) ≤ 100 * 100 := Int.mul_le_mul (by omega) (by omega) (by omega) (by omega)
      rw [mulG_r (by omega) (by omega), Option.bind_some, cell_s hns (by omega) (by omega)]) (by omega), Option.bind_some]
    rw [mapG_r (fun j => (cells (p := p) ns at_ w i j).v) (fun j hj => by
      rw [fdivG_s (by omega) (by omega), Option.bind_some, modG_s pP, Option.bind_some, modG_s (by omega), Option.bind_some, mulG_r (by split <;> omega) (by split <;> omega)]
      unfold cells
      by_cases c : 0 < cellV ns (at_ + (i : Int) * (w : Int) + (j : Int)) % 4
      · rw [if_pos c, if_pos (by simpa using c), Int.mul_one]; rfl
      · rw [if_neg c, if_neg (by simpa using c), Int.mul_zero]; exact congrArg some Fp.zero_v.symm) (by omega), Option.bind_some]
    show (appG s _).bind _ = _
    unfold lst
    cases appG s _ <;> rfl
theorem base_isB {n : Nat} (hn : n ≤ 100) {L : List (Nat → Fp p)} (sup : ∀ b ∈ L, ∀ i, n ≤ i → b i = 0) (hl : L.length ≤ 100) : ∃ X, F_law_base_v2 p (n : Int) (L.map (lst n)) = some X ∧ IsB p n X :=
  ⟨_, f_law_base2 n (by omega) L (by omega) sup, isB_bse sup⟩
theorem right_ok (h w : Nat) (hh : h ≤ 100) (hw : w ≤ 100) (hb : p.toNat ^ h ≤ 100000) (hb2 : p.toNat ^ w ≤ 100000) (A : Nat → Nat → Fp p) (b : Bool) {X Y : List (List Int)} (hX : IsB p (if b = true then w else h) X) (hY : IsB p (if b = true then h else w) Y) :
    F_law_right_v11 (b, p, tb h w A) p (tb h w A) b X Y = some true := by
  unfold F_law_right_v11
  rw [Option.bind_some]
  cases b with
  | true =>
    simp only [if_true, Bool.not_true] at hX hY ⊢
    obtain ⟨U, a1, a2, a3⟩ := f_along h w (by omega) (by omega) A hX
    obtain ⟨V, b1, b2, b3⟩ := f_against h w hh hw hb hb2 A hY
    have f1 : F_Right_forth (true, p, tb h w A) X = some U := a1
    have f2 : F_Left_forth (true, p, tb h w A) Y = some V := b1
    rw [a2, Option.bind_some, f1, Option.bind_some, f_law_is_base2 h (by omega) U a3.lens, Option.bind_some, if_neg (by simp), Option.bind_some, b2, Option.bind_some, f2, Option.bind_some, f_law_is_base2 w (by omega) V b3.lens, Option.bind_some]
    simp
  | false =>
    simp only [Bool.false_eq_true, if_false, Bool.not_false] at hX hY ⊢
    obtain ⟨U, a1, a2, a3⟩ := f_against h w hh hw hb hb2 A hX
    obtain ⟨V, b1, b2, b3⟩ := f_along h w (by omega) (by omega) A hY
    have f1 : F_Left_forth (false, p, tb h w A) X = some U := a1
    have f2 : F_Right_forth (false, p, tb h w A) Y = some V := b1
    rw [a2, Option.bind_some, f1, Option.bind_some, f_law_is_base2 w (by omega) U a3.lens, Option.bind_some, if_neg (by simp), Option.bind_some, b2, Option.bind_some, f2, Option.bind_some, f_law_is_base2 h (by omega) V b3.lens, Option.bind_some]
    simp
end
theorem draw20 (c : Int) (h : 0 ≤ c) : ∃ (p : Int) (_ : Pr p) (mo : Nat), atI [(2 : Int), 3, 5, 7] (c % 4) = some p ∧ atI [(4 : Int), 4, 3, 3] (c % 4) = some (mo : Int) ∧ 0 < mo ∧ mo ≤ 4 ∧ ∀ n, n < mo → p.toNat ^ n ≤ 100000 := by
  have a : c % 4 = 0 ∨ c % 4 = 1 ∨ c % 4 = 2 ∨ c % 4 = 3 := by omega
  have q : ∀ (b m : Nat), b ^ m ≤ 100000 → 0 < b → ∀ n, n < m → b ^ n ≤ 100000 := fun b m h h0 n hn => Nat.le_trans (pn_le (by omega) h0) h
  rcases a with a | a | a | a <;> rw [a]
  · exact ⟨2, ⟨by simp⟩, 4, rfl, rfl, by omega, by omega, q 2 4 (by decide) (by decide)⟩
  · exact ⟨3, ⟨by simp⟩, 4, rfl, rfl, by omega, by omega, q 3 4 (by decide) (by decide)⟩
  · exact ⟨5, ⟨by simp⟩, 3, rfl, rfl, by omega, by omega, q 5 3 (by decide) (by decide)⟩
  · exact ⟨7, ⟨by simp⟩, 3, rfl, rfl, by omega, by omega, q 7 3 (by decide) (by decide)⟩
theorem k20_true (ns : List Int) (hns : ns.length ≤ 63) : F_law_k20 ns = some true := by
  unfold F_law_k20
  have c0 := cellV_nn hns (k := 0) (by omega) (by omega)
  rw [cell_s hns (by omega) (by omega), Option.bind_some, modG_s (by omega), Option.bind_some]
  obtain ⟨p, _, mo, e1, e2, m0, m4, hq⟩ := draw20 (cellV ns 0) c0
  rw [e1, Option.bind_some, Option.bind_some, e2, Option.bind_some, fdivG_s (by omega) (by omega), Option.bind_some, modG_s (by omega), Option.bind_some, Option.bind_some, fdivG_s (by omega) (by omega), Option.bind_some, modG_s (by omega), Option.bind_some, fdivG_s (by omega) (by omega), Option.bind_some, modG_s (by omega), Option.bind_some, Option.bind_some]
  obtain ⟨s0, f0, l0⟩ := nat_mod (x := cellV ns 0 / 8) (m := (mo : Int)) (by omega)
  obtain ⟨s1, f1, l1⟩ := nat_mod (x := cellV ns 0 / 32) (m := (mo : Int)) (by omega)
  rw [f0, f1]
  generalize decide (cellV ns 0 / 4 % 2 = 1) = b
  have a0 : atI [(s0 : Int), (s1 : Int)] 0 = some (s0 : Int) := rfl
  have a1 : atI [(s0 : Int), (s1 : Int)] 1 = some (s1 : Int) := rfl
  have q0 := hq s0 (by omega)
  have q1 := hq s1 (by omega)
  have main : ∀ (h w : Nat) (A : Nat → Nat → Fp p), (if b = true then w else h) = s0 → (if b = true then h else w) = s1 → 
      ((rng1 ((3 : Int))).bind fun (r25 : List Int) =>
  (loopO (ρ := Bool) (fun (x26 : Int) (s24 : Unit) =>
  (atI [(s0 : Int), (s1 : Int)] ((0 : Int))).bind fun (t27 : Int) =>
  (mulG ((40 : Int)) x26).bind fun (t28 : Int) =>
  (atI [(s0 : Int), (s1 : Int)] ((0 : Int))).bind fun (t29 : Int) =>
  (F_law_loads_v2 ns (((10 : Int)) + t28) p t29).bind fun (t30 : List (List Int)) =>
  (F_law_base_v2 p t27 t30).bind fun (v_left_base_32 : List (List Int)) =>
  (atI [(s0 : Int), (s1 : Int)] ((1 : Int))).bind fun (t33 : Int) =>
  (mulG ((40 : Int)) x26).bind fun (t34 : Int) =>
  (atI [(s0 : Int), (s1 : Int)] ((1 : Int))).bind fun (t35 : Int) =>
  (F_law_loads_v2 ns (((30 : Int)) + t34) p t35).bind fun (t36 : List (List Int)) =>
  (F_law_base_v2 p t33 t36).bind fun (v_right_base_38 : List (List Int)) =>
  (F_law_right_v11 (b, p, tb h w A) p (tb h w A) b v_left_base_32 v_right_base_38).bind fun (t39 : Bool) =>
  if (!t39) = true then
  ((some false).bind fun r => some (Lp.rt r))
  else
  (some (Lp.nx (())))) r25 (())).bind (lpK (fun (s24 : Unit) => F_law_right_v11 (b, p, tb h w A) p (tb h w A) b (([] : List (List Int))) (([] : List (List Int)))) fun v => some v)) = some true := fun h w A hs0 hs1 => by
    have hh : h ≤ 4 ∧ p.toNat ^ h ≤ 100000 ∧ w ≤ 4 ∧ p.toNat ^ w ≤ 100000 := by
      cases b with
      | true => simp at hs0 hs1; subst hs0 hs1; exact ⟨by omega, q1, by omega, q0⟩
      | false => simp at hs0 hs1; subst hs0 hs1; exact ⟨by omega, q0, by omega, q1⟩
    obtain ⟨b1, b2, b3, b4⟩ := hh
    rw [show (3 : Int) = ((3 : Nat) : Int) from rfl, rng1_s (by omega), Option.bind_some]
    have go := fun (X Y : List (List Int)) (hX : IsB p s0 X) (hY : IsB p s1 Y) => right_ok h w (by omega) (by omega) b2 b4 A b (X := X) (Y := Y) (by rw [hs0]; exact hX) (by rw [hs1]; exact hY)
    rw [loop_u fun k hk => ?_]
    · exact go [] [] (IsB.nil _) (IsB.nil _)
    · rw [a0, Option.bind_some, mulG_l (by omega) (by omega), Option.bind_some, Option.bind_some]
      obtain ⟨L, g1, g2, g3⟩ := loads_ex (p := p) hns (at_ := 10 + 40 * (k : Int)) (by omega) (by omega) (n := s0) (by omega)
      obtain ⟨X, x1, x2⟩ := base_isB (n := s0) (by omega) g2 (by omega)
      rw [g1, Option.bind_some, x1, Option.bind_some, a1, Option.bind_some, Option.bind_some]
      obtain ⟨L', g4, g5, g6⟩ := loads_ex (p := p) hns (at_ := 30 + 40 * (k : Int)) (by omega) (by omega) (n := s1) (by omega)
      obtain ⟨Y, y1, y2⟩ := base_isB (n := s1) (by omega) g5 (by omega)
      rw [Option.bind_some, g4, Option.bind_some, y1, Option.bind_some, go X Y x2 y2, Option.bind_some, if_neg (by simp)]
  cases b with
  | true =>
    obtain ⟨A, eA⟩ := table_ex (p := p) hns (at_ := 1) (by omega) (by omega) (h := s1) (w := s0) (by omega) (by omega)
    simp only [if_true]
    rw [a1, Option.bind_some, show (1 : Int) - 1 = 0 from rfl, a0, Option.bind_some, eA, Option.bind_some, Option.bind_some, Option.bind_some, Option.bind_some, if_neg (by simp)]
    exact main s1 s0 A rfl rfl
  | false =>
    obtain ⟨A, eA⟩ := table_ex (p := p) hns (at_ := 1) (by omega) (by omega) (h := s0) (w := s1) (by omega) (by omega)
    simp only [Bool.false_eq_true, if_false]
    rw [a0, Option.bind_some, show (1 : Int) - 0 = 1 from rfl, a1, Option.bind_some, eA, Option.bind_some, Option.bind_some, Option.bind_some, if_neg (by simp)]
    exact main s0 s1 A rfl rfl
end La
set_option maxHeartbeats 4000000
namespace Lk20
open PySem PySem.Spec PyProof.Rows L2 Mn
theorem all_mk {l : W.OpenLaw} {w : World} {K : W.Frag} {h : Heap} {mg : Str → Option Value} {fa f0 f1 f2 f3 f4 f5 f6 f7 f8 f9 f10 f11 f12 f13 f14 f15 f16 f17 f18 f19 f20 f21 f22 f23 : Addr} (X : K.In h) (G : h.Ns mainGlobals mg) (hfa : mg "law" = some (.ref fa))
    {od0 od1 od2 od3 od4 od5 od6 od7 od8 od9 od10 od11 od12 od13 od14 od15 od16 od17 od18 od19 od20 od21 od22 od23 an0 an1 an2 an3 an4 an5 an6 an7 an8 an9 an10 an11 an12 an13 an14 an15 an16 an17 an18 an19 an20 an21 an22 an23 : Option Addr} {sl0 sl1 sl2 sl3 sl4 sl5 sl6 sl7 sl8 sl9 sl10 sl11 sl12 sl13 sl14 sl15 sl16 sl17 sl18 sl19 sl20 sl21 sl22 sl23 : Array (Option Value)} {oc0 oc1 oc2 oc3 oc4 oc5 oc6 oc7 oc8 oc9 oc10 oc11 oc12 oc13 oc14 oc15 oc16 oc17 oc18 oc19 oc20 oc21 oc22 oc23 kV0 kV1 kV2 kV3 kV4 kV5 kV6 kV7 kV8 kV9 kV10 kV11 kV12 kV13 kV14 kV15 kV16 kV17 kV18 kV19 kV20 kV21 kV22 kV23 dc0 dc1 dc2 dc3 dc4 dc5 dc6 dc7 dc8 dc9 dc10 dc11 dc12 dc13 dc14 dc15 dc16 dc17 dc18 dc19 dc20 dc21 dc22 dc23 pm0 pm1 pm2 pm3 pm4 pm5 pm6 pm7 pm8 pm9 pm10 pm11 pm12 pm13 pm14 pm15 pm16 pm17 pm18 pm19 pm20 pm21 pm22 pm23 cd0 cd1 cd2 cd3 cd4 cd5 cd6 cd7 cd8 cd9 cd10 cd11 cd12 cd13 cd14 cd15 cd16 cd17 cd18 cd19 cd20 cd21 cd22 cd23 ct0 ct1 ct2 ct3 ct4 ct5 ct6 ct7 ct8 ct9 ct10 ct11 ct12 ct13 ct14 ct15 ct16 ct17 ct18 ct19 ct20 ct21 ct22 ct23 : Value}
    {JC0 JC1 JC2 : Addr} {jm0 : Addr} {jo0 : Value} {jd0 : Option Addr} {js0 : Array (Option Value)} {jx0 jy0 jz0 jv0 jw0 : Value} {ju0 : Option Addr} {jm1 : Addr} {jo1 : Value} {jd1 : Option Addr} {js1 : Array (Option Value)} {jx1 jy1 jz1 jv1 jw1 : Value} {ju1 : Option Addr} {jm2 : Addr} {jo2 : Value} {jd2 : Option Addr} {js2 : Array (Option Value)} {jx2 jy2 jz2 jv2 jw2 : Value} {ju2 : Option Addr} {jm3 : Addr} {jo3 : Value} {jd3 : Option Addr} {js3 : Array (Option Value)} {jx3 jy3 jz3 jv3 jw3 : Value} {ju3 : Option Addr} {jm4 : Addr} {jo4 : Value} {jd4 : Option Addr} {js4 : Array (Option Value)} {jx4 jy4 jz4 jv4 jw4 : Value} {ju4 : Option Addr} {jm5 : Addr} {jo5 : Value} {jd5 : Option Addr} {js5 : Array (Option Value)} {jx5 jy5 jz5 jv5 jw5 : Value} {ju5 : Option Addr} {jm6 : Addr} {jo6 : Value} {jd6 : Option Addr} {js6 : Array (Option Value)} {jx6 jy6 jz6 jv6 jw6 : Value} {ju6 : Option Addr}
    (a0 : W.nsIn K mainGlobals "_law_cell" = some (some (.ref f0))) (l0 : K.lookup f0 = some ⟨oc0, od0, .func (W.fnOf "_law_cell" "_law_cell" (defArgs t__law_cell) (defBody t__law_cell) (defScope t__law_cell) .none kV0 dc0 pm0 an0 cd0 ct0), sl0⟩) (c0 : W.codeIn K cd0 "_law_cell" = true) (k0 : W.keepIn K (.ref f0) = true)
    (a1 : W.nsIn K mainGlobals "_law_table" = some (some (.ref f1))) (l1 : K.lookup f1 = some ⟨oc1, od1, .func (W.fnOf "_law_table" "_law_table" (defArgs t__law_table) (defBody t__law_table) (defScope t__law_table) .none kV1 dc1 pm1 an1 cd1 ct1), sl1⟩) (c1 : W.codeIn K cd1 "_law_table" = true) (k1 : W.keepIn K (.ref f1) = true)
    (a2 : W.nsIn K mainGlobals "_law_less" = some (some (.ref f2))) (l2 : K.lookup f2 = some ⟨oc2, od2, .func (W.fnOf "_law_less" "_law_less" (defArgs t__law_less) (defBody t__law_less) (defScope t__law_less) .none kV2 dc2 pm2 an2 cd2 ct2), sl2⟩) (c2 : W.codeIn K cd2 "_law_less" = true) (k2 : W.keepIn K (.ref f2) = true)
    (a3 : W.nsIn K mainGlobals "_law_base" = some (some (.ref f3))) (l3 : K.lookup f3 = some ⟨oc3, od3, .func (W.fnOf "_law_base" "_law_base" (defArgs t__law_base) (defBody t__law_base) (defScope t__law_base) .none kV3 dc3 pm3 an3 cd3 ct3), sl3⟩) (c3 : W.codeIn K cd3 "_law_base" = true) (k3 : W.keepIn K (.ref f3) = true)
    (a4 : W.nsIn K mainGlobals "_law_loads" = some (some (.ref f4))) (l4 : K.lookup f4 = some ⟨oc4, od4, .func (W.fnOf "_law_loads" "_law_loads" (defArgs t__law_loads) (defBody t__law_loads) (defScope t__law_loads) .none kV4 dc4 pm4 an4 cd4 ct4), sl4⟩) (c4 : W.codeIn K cd4 "_law_loads" = true) (k4 : W.keepIn K (.ref f4) = true)
    (a5 : W.nsIn K mainGlobals "_law_led" = some (some (.ref f5))) (l5 : K.lookup f5 = some ⟨oc5, od5, .func (W.fnOf "_law_led" "_law_led" (defArgs t__law_led) (defBody t__law_led) (defScope t__law_led) .none kV5 dc5 pm5 an5 cd5 ct5), sl5⟩) (c5 : W.codeIn K cd5 "_law_led" = true) (k5 : W.keepIn K (.ref f5) = true)
    (a6 : W.nsIn K mainGlobals "_law_span" = some (some (.ref f6))) (l6 : K.lookup f6 = some ⟨oc6, od6, .func (W.fnOf "_law_span" "_law_span" (defArgs t__law_span) (defBody t__law_span) (defScope t__law_span) .none kV6 dc6 pm6 an6 cd6 ct6), sl6⟩) (c6 : W.codeIn K cd6 "_law_span" = true) (k6 : W.keepIn K (.ref f6) = true)
    (a7 : W.nsIn K mainGlobals "_law_all" = some (some (.ref f7))) (l7 : K.lookup f7 = some ⟨oc7, od7, .func (W.fnOf "_law_all" "_law_all" (defArgs t__law_all) (defBody t__law_all) (defScope t__law_all) .none kV7 dc7 pm7 an7 cd7 ct7), sl7⟩) (c7 : W.codeIn K cd7 "_law_all" = true) (k7 : W.keepIn K (.ref f7) = true)
    (a8 : W.nsIn K mainGlobals "_law_due" = some (some (.ref f8))) (l8 : K.lookup f8 = some ⟨oc8, od8, .func (W.fnOf "_law_due" "_law_due" (defArgs t__law_due) (defBody t__law_due) (defScope t__law_due) .none kV8 dc8 pm8 an8 cd8 ct8), sl8⟩) (c8 : W.codeIn K cd8 "_law_due" = true) (k8 : W.keepIn K (.ref f8) = true)
    (a9 : W.nsIn K mainGlobals "_law_whole" = some (some (.ref f9))) (l9 : K.lookup f9 = some ⟨oc9, od9, .func (W.fnOf "_law_whole" "_law_whole" (defArgs t__law_whole) (defBody t__law_whole) (defScope t__law_whole) .none kV9 dc9 pm9 an9 cd9 ct9), sl9⟩) (c9 : W.codeIn K cd9 "_law_whole" = true) (k9 : W.keepIn K (.ref f9) = true)
    (a10 : W.nsIn K mainGlobals "_law_is_base" = some (some (.ref f10))) (l10 : K.lookup f10 = some ⟨oc10, od10, .func (W.fnOf "_law_is_base" "_law_is_base" (defArgs t__law_is_base) (defBody t__law_is_base) (defScope t__law_is_base) .none kV10 dc10 pm10 an10 cd10 ct10), sl10⟩) (c10 : W.codeIn K cd10 "_law_is_base" = true) (k10 : W.keepIn K (.ref f10) = true)
    (a11 : W.nsIn K mainGlobals "first_with" = some (some (.ref f11))) (l11 : K.lookup f11 = some ⟨oc11, od11, .func (W.fnOf "first_with" "first_with" (defArgs t_first_with) (defBody t_first_with) (defScope t_first_with) .none kV11 dc11 pm11 an11 cd11 ct11), sl11⟩) (c11 : W.codeIn K cd11 "first_with" = true) (k11 : W.keepIn K (.ref f11) = true)
    (a12 : W.nsIn K mainGlobals "inverse" = some (some (.ref f12))) (l12 : K.lookup f12 = some ⟨oc12, od12, .func (W.fnOf "inverse" "inverse" (defArgs t_inverse) (defBody t_inverse) (defScope t_inverse) .none kV12 dc12 pm12 an12 cd12 ct12), sl12⟩) (c12 : W.codeIn K cd12 "inverse" = true) (k12 : W.keepIn K (.ref f12) = true)
    (a13 : W.nsIn K mainGlobals "less" = some (some (.ref f13))) (l13 : K.lookup f13 = some ⟨oc13, od13, .func (W.fnOf "less" "less" (defArgs t_less) (defBody t_less) (defScope t_less) .none kV13 dc13 pm13 an13 cd13 ct13), sl13⟩) (c13 : W.codeIn K cd13 "less" = true) (k13 : W.keepIn K (.ref f13) = true)
    (a14 : W.nsIn K mainGlobals "base_of" = some (some (.ref f14))) (l14 : K.lookup f14 = some ⟨oc14, od14, .func (W.fnOf "base_of" "base_of" (defArgs t_base_of) (defBody t_base_of) (defScope t_base_of) .none kV14 dc14 pm14 an14 cd14 ct14), sl14⟩) (c14 : W.codeIn K cd14 "base_of" = true) (k14 : W.keepIn K (.ref f14) = true)
    (a15 : W.nsIn K mainGlobals "summed" = some (some (.ref f15))) (l15 : K.lookup f15 = some ⟨oc15, od15, .func (W.fnOf "summed" "summed" (defArgs t_summed) (defBody t_summed) (defScope t_summed) .none kV15 dc15 pm15 an15 cd15 ct15), sl15⟩) (c15 : W.codeIn K cd15 "summed" = true) (k15 : W.keepIn K (.ref f15) = true)
    (a16 : W.nsIn K mainGlobals "led" = some (some (.ref f16))) (l16 : K.lookup f16 = some ⟨oc16, od16, .func (W.fnOf "led" "led" (defArgs t_led) (defBody t_led) (defScope t_led) .none kV16 dc16 pm16 an16 cd16 ct16), sl16⟩) (c16 : W.codeIn K cd16 "led" = true) (k16 : W.keepIn K (.ref f16) = true)
    (a17 : W.nsIn K mainGlobals "pressed" = some (some (.ref f17))) (l17 : K.lookup f17 = some ⟨oc17, od17, .func (W.fnOf "pressed" "pressed" (defArgs t_pressed) (defBody t_pressed) (defScope t_pressed) .none kV17 dc17 pm17 an17 cd17 ct17), sl17⟩) (c17 : W.codeIn K cd17 "pressed" = true) (k17 : W.keepIn K (.ref f17) = true)
    (a18 : W.nsIn K mainGlobals "lead_of" = some (some (.ref f18))) (l18 : K.lookup f18 = some ⟨oc18, od18, .func (W.fnOf "lead_of" "lead_of" (defArgs t_lead_of) (defBody t_lead_of) (defScope t_lead_of) .none kV18 dc18 pm18 an18 cd18 ct18), sl18⟩) (c18 : W.codeIn K cd18 "lead_of" = true) (k18 : W.keepIn K (.ref f18) = true)
    (a19 : W.nsIn K mainGlobals "kernel" = some (some (.ref f19))) (l19 : K.lookup f19 = some ⟨oc19, od19, .func (W.fnOf "kernel" "kernel" (defArgs t_kernel) (defBody t_kernel) (defScope t_kernel) .none kV19 dc19 pm19 an19 cd19 ct19), sl19⟩) (c19 : W.codeIn K cd19 "kernel" = true) (k19 : W.keepIn K (.ref f19) = true)
    (a20 : W.nsIn K mainGlobals "joined_table" = some (some (.ref f20))) (l20 : K.lookup f20 = some ⟨oc20, od20, .func (W.fnOf "joined_table" "joined_table" (defArgs t_joined_table) (defBody t_joined_table) (defScope t_joined_table) .none kV20 dc20 pm20 an20 cd20 ct20), sl20⟩) (c20 : W.codeIn K cd20 "joined_table" = true) (k20 : W.keepIn K (.ref f20) = true)
    (a21 : W.nsIn K mainGlobals "leading_to" = some (some (.ref f21))) (l21 : K.lookup f21 = some ⟨oc21, od21, .func (W.fnOf "leading_to" "leading_to" (defArgs t_leading_to) (defBody t_leading_to) (defScope t_leading_to) .none kV21 dc21 pm21 an21 cd21 ct21), sl21⟩) (c21 : W.codeIn K cd21 "leading_to" = true) (k21 : W.keepIn K (.ref f21) = true)
    (a22 : W.nsIn K mainGlobals "_law_right" = some (some (.ref f22))) (l22 : K.lookup f22 = some ⟨oc22, od22, .func (W.fnOf "_law_right" "_law_right" (defArgs t__law_right) (defBody t__law_right) (defScope t__law_right) .none kV22 dc22 pm22 an22 cd22 ct22), sl22⟩) (c22 : W.codeIn K cd22 "_law_right" = true) (k22 : W.keepIn K (.ref f22) = true)
    (a23 : W.nsIn K mainGlobals "law" = some (some (.ref f23))) (l23 : K.lookup f23 = some ⟨oc23, od23, .func (W.fnOf "law" "law" (defArgs t_law) (defBody t_law) (defScope t_law) .none kV23 dc23 pm23 an23 cd23 ct23), sl23⟩) (c23 : W.codeIn K cd23 "law" = true) (k23 : W.keepIn K (.ref f23) = true)
    (z0 : W.nsIn K mainGlobals "len" = some none)
    (z1 : W.nsIn K mainGlobals "sum" = some none)
    (z2 : W.nsIn K mainGlobals "min" = some none)
    (z3 : W.nsIn K mainGlobals "max" = some none)
    (z4 : W.nsIn K mainGlobals "any" = some none)
    (z5 : W.nsIn K mainGlobals "all" = some none)
    (z6 : W.nsIn K mainGlobals "int" = some none)
    (z7 : W.nsIn K mainGlobals "str" = some none)
    (z8 : W.nsIn K mainGlobals "tuple" = some none)
    (z9 : W.nsIn K mainGlobals "list" = some none)
    (z10 : W.nsIn K mainGlobals "sorted" = some none)
    (z11 : W.nsIn K mainGlobals "isinstance" = some none)
    (z12 : W.nsIn K mainGlobals "bool" = some none)
    (z13 : W.nsIn K mainGlobals "dict" = some none)
    (z14 : W.nsIn K mainGlobals "range" = some none)
    (z15 : W.nsIn K mainGlobals "zip" = some none)
    (z16 : W.nsIn K mainGlobals "enumerate" = some none)
    (z17 : W.nsIn K mainGlobals "reversed" = some none)
    (ja0 : W.nsIn K mainGlobals "Right" = some (some (.ref JC0)))
    (ja1 : W.nsIn K mainGlobals "Left" = some (some (.ref JC1)))
    (ja2 : W.nsIn K mainGlobals "Arrow" = some (some (.ref JC2)))
    (jpg0 : W.plainGet K JC0 Str.empty = true)
    (jhd0 : W.hasDictIn K JC0 = true)
    (jpo0 : W.plainOver K JC0 = true)
    (jsa0 : W.findIn K (.ref JC0) "__setattr__" = some (some (.builtin "object.__setattr__")))
    (jmk0 : W.makesIn K JC0 = true)
    (jkp0 : W.keepIn K (.ref JC0) = true)
    (jf0x0 : W.findIn K (.ref JC0) "prime" = some none)
    (jf0x1 : W.findIn K (.ref JC0) "table" = some none)
    (jxc0 : W.findIn K (.ref JC0) "__class__" = some (some (.builtin "object.__class__")))
    (jxm0 : W.mroIn K JC0 (.type "object") = some true)
    (jk0x2 : W.kitOne K (.ref JC0) (.ref JC2) = some true)
    (jpg1 : W.plainGet K JC1 Str.empty = true)
    (jhd1 : W.hasDictIn K JC1 = true)
    (jpo1 : W.plainOver K JC1 = true)
    (jsa1 : W.findIn K (.ref JC1) "__setattr__" = some (some (.builtin "object.__setattr__")))
    (jmk1 : W.makesIn K JC1 = true)
    (jkp1 : W.keepIn K (.ref JC1) = true)
    (jf1x0 : W.findIn K (.ref JC1) "prime" = some none)
    (jf1x1 : W.findIn K (.ref JC1) "table" = some none)
    (jxc1 : W.findIn K (.ref JC1) "__class__" = some (some (.builtin "object.__class__")))
    (jxm1 : W.mroIn K JC1 (.type "object") = some true)
    (jk1x2 : W.kitOne K (.ref JC1) (.ref JC2) = some true)
    (jxs : W.specialIn K (.builtin "object.__class__") "__get__" = some (some (.builtin "getset_descriptor.__get__")))
    (jxt : W.takesIn K (.builtin "object.__class__") = some true)
    (jI0x0 : W.findIn K (.ref JC0) "__init__" = some (some (.ref jm0)))
    (jI1x0 : W.findIn K (.ref JC1) "__init__" = some (some (.ref jm0)))
    (jN0 : W.isFn K (.ref jm0) = true)
    (jL0 : K.lookup jm0 = some ⟨jo0, jd0, .func (W.fnOf "__init__" "Arrow.__init__" (defArgs tm_arr_init) (defBody tm_arr_init) (defScope tm_arr_init) .none jx0 jy0 jz0 ju0 jv0 jw0), js0⟩)
    (jO0 : W.codeIn K jv0 "Arrow.__init__" = true)
    (jK0 : W.keepIn K (.ref jm0) = true)
    (jI0x1 : W.findIn K (.ref JC0) "along" = some (some (.ref jm1)))
    (jI1x1 : W.findIn K (.ref JC1) "along" = some (some (.ref jm1)))
    (jN1 : W.isFn K (.ref jm1) = true)
    (jL1 : K.lookup jm1 = some ⟨jo1, jd1, .func (W.fnOf "along" "Arrow.along" (defArgs tm_Arrow_along) (defBody tm_Arrow_along) (defScope tm_Arrow_along) .none jx1 jy1 jz1 ju1 jv1 jw1), js1⟩)
    (jO1 : W.codeIn K jv1 "Arrow.along" = true)
    (jK1 : W.keepIn K (.ref jm1) = true)
    (jI0x2 : W.findIn K (.ref JC0) "forth" = some (some (.ref jm2)))
    (jN2 : W.isFn K (.ref jm2) = true)
    (jL2 : K.lookup jm2 = some ⟨jo2, jd2, .func (W.fnOf "forth" "Right.forth" (defArgs tm_Right_forth) (defBody tm_Right_forth) (defScope tm_Right_forth) .none jx2 jy2 jz2 ju2 jv2 jw2), js2⟩)
    (jO2 : W.codeIn K jv2 "Right.forth" = true)
    (jK2 : W.keepIn K (.ref jm2) = true)
    (jI0x3 : W.findIn K (.ref JC0) "against" = some (some (.ref jm3)))
    (jI1x3 : W.findIn K (.ref JC1) "against" = some (some (.ref jm3)))
    (jN3 : W.isFn K (.ref jm3) = true)
    (jL3 : K.lookup jm3 = some ⟨jo3, jd3, .func (W.fnOf "against" "Arrow.against" (defArgs tm_Arrow_against) (defBody tm_Arrow_against) (defScope tm_Arrow_against) .none jx3 jy3 jz3 ju3 jv3 jw3), js3⟩)
    (jO3 : W.codeIn K jv3 "Arrow.against" = true)
    (jK3 : W.keepIn K (.ref jm3) = true)
    (jI1x4 : W.findIn K (.ref JC1) "forth" = some (some (.ref jm4)))
    (jN4 : W.isFn K (.ref jm4) = true)
    (jL4 : K.lookup jm4 = some ⟨jo4, jd4, .func (W.fnOf "forth" "Left.forth" (defArgs tm_Left_forth) (defBody tm_Left_forth) (defScope tm_Left_forth) .none jx4 jy4 jz4 ju4 jv4 jw4), js4⟩)
    (jO4 : W.codeIn K jv4 "Left.forth" = true)
    (jK4 : W.keepIn K (.ref jm4) = true)
    (jI0x5 : W.findIn K (.ref JC0) "back" = some (some (.ref jm5)))
    (jN5 : W.isFn K (.ref jm5) = true)
    (jL5 : K.lookup jm5 = some ⟨jo5, jd5, .func (W.fnOf "back" "Right.back" (defArgs tm_Right_back) (defBody tm_Right_back) (defScope tm_Right_back) .none jx5 jy5 jz5 ju5 jv5 jw5), js5⟩)
    (jO5 : W.codeIn K jv5 "Right.back" = true)
    (jK5 : W.keepIn K (.ref jm5) = true)
    (jI1x6 : W.findIn K (.ref JC1) "back" = some (some (.ref jm6)))
    (jN6 : W.isFn K (.ref jm6) = true)
    (jL6 : K.lookup jm6 = some ⟨jo6, jd6, .func (W.fnOf "back" "Left.back" (defArgs tm_Left_back) (defBody tm_Left_back) (defScope tm_Left_back) .none jx6 jy6 jz6 ju6 jv6 jw6), js6⟩)
    (jO6 : W.codeIn K jv6 "Left.back" = true)
    (jK6 : W.keepIn K (.ref jm6) = true)
    : ∃ fd : FuncData, (∀ (s : Shared) (v : Value), BindsTo s fd ⟨[v], []⟩ [("_law_script", v)]) ∧ ∀ base : Heap, K.In base → base.Ns mainGlobals mg → FnOk l.prog w K mg base CX0 8 fa fd ["_law_script"] (spD K 1 s_law_k20) := by
  have e := hfa.symm.trans (W.mg_of X G a23)
  cases e
  have bn : ∀ x ∈ bnames, mg x = none := fun x hx => by
    simp only [bnames, List.mem_cons, List.mem_nil_iff, or_false] at hx
    rcases hx with rfl | rfl | rfl | rfl | rfl | rfl | rfl | rfl | rfl | rfl | rfl | rfl | rfl | rfl | rfl | rfl | rfl | rfl
    · exact W.mg_none_of X G z0
    · exact W.mg_none_of X G z1
    · exact W.mg_none_of X G z2
    · exact W.mg_none_of X G z3
    · exact W.mg_none_of X G z4
    · exact W.mg_none_of X G z5
    · exact W.mg_none_of X G z6
    · exact W.mg_none_of X G z7
    · exact W.mg_none_of X G z8
    · exact W.mg_none_of X G z9
    · exact W.mg_none_of X G z10
    · exact W.mg_none_of X G z11
    · exact W.mg_none_of X G z12
    · exact W.mg_none_of X G z13
    · exact W.mg_none_of X G z14
    · exact W.mg_none_of X G z15
    · exact W.mg_none_of X G z16
    · exact W.mg_none_of X G z17
  have F0 := fun_mk (st := t__law_cell) l0 c0 k0
  have b0 := F0.binds (ps := ["_law_script", "_law_k"]) fun _ _ _ _ _ _ us hl => match us, hl with | [_, _], _ => rfl
  have F1 := fun_mk (st := t__law_table) l1 c1 k1
  have b1 := F1.binds (ps := ["_law_script", "_law_at", "_law_p", "_law_high", "_law_wide"]) fun _ _ _ _ _ _ us hl => match us, hl with | [_, _, _, _, _], _ => rfl
  have F2 := fun_mk (st := t__law_less) l2 c2 k2
  have b2 := F2.binds (ps := ["_law_p", "_law_row", "_law_other", "_law_times"]) fun _ _ _ _ _ _ us hl => match us, hl with | [_, _, _, _], _ => rfl
  have F3 := fun_mk (st := t__law_base) l3 c3 k3
  have b3 := F3.binds (ps := ["_law_p", "_law_long", "_law_loads_here"]) fun _ _ _ _ _ _ us hl => match us, hl with | [_, _, _], _ => rfl
  have F4 := fun_mk (st := t__law_loads) l4 c4 k4
  have b4 := F4.binds (ps := ["_law_script", "_law_at", "_law_p", "_law_long"]) fun _ _ _ _ _ _ us hl => match us, hl with | [_, _, _, _], _ => rfl
  have F5 := fun_mk (st := t__law_led) l5 c5 k5
  have b5 := F5.binds (ps := ["_law_p", "_law_rows", "_law_load"]) fun _ _ _ _ _ _ us hl => match us, hl with | [_, _, _], _ => rfl
  have F6 := fun_mk (st := t__law_span) l6 c6 k6
  have b6 := F6.binds (ps := ["_law_p", "_law_long", "_law_base_here"]) fun _ _ _ _ _ _ us hl => match us, hl with | [_, _, _], _ => rfl
  have F7 := fun_mk (st := t__law_all) l7 c7 k7
  have b7 := F7.binds (ps := ["_law_p", "_law_long"]) fun _ _ _ _ _ _ us hl => match us, hl with | [_, _], _ => rfl
  have F8 := fun_mk (st := t__law_due) l8 c8 k8
  have b8 := F8.binds (ps := ["_law_p", "_law_table_here", "_law_base_here", "_law_along"]) fun _ _ _ _ _ _ us hl => match us, hl with | [_, _, _, _], _ => rfl
  have F9 := fun_mk (st := t__law_whole) l9 c9 k9
  have b9 := F9.binds (ps := ["_law_found"]) fun _ _ _ _ _ _ us hl => match us, hl with | [_], _ => rfl
  have F10 := fun_mk (st := t__law_is_base) l10 c10 k10
  have b10 := F10.binds (ps := ["_law_found", "_law_due_here"]) fun _ _ _ _ _ _ us hl => match us, hl with | [_, _], _ => rfl
  have F11 := fun_mk (st := t_first_with) l11 c11 k11
  have b11 := F11.binds (ps := ["rows", "place"]) fun _ _ _ _ _ _ us hl => match us, hl with | [_, _], _ => rfl
  have F12 := fun_mk (st := t_inverse) l12 c12 k12
  have b12 := F12.binds (ps := ["p", "x"]) fun _ _ _ _ _ _ us hl => match us, hl with | [_, _], _ => rfl
  have F13 := fun_mk (st := t_less) l13 c13 k13
  have b13 := F13.binds (ps := ["p", "row", "other", "times"]) fun _ _ _ _ _ _ us hl => match us, hl with | [_, _, _, _], _ => rfl
  have F14 := fun_mk (st := t_base_of) l14 c14 k14
  have b14 := F14.binds (ps := ["p", "long", "loads"]) fun _ _ _ _ _ _ us hl => match us, hl with | [_, _, _], _ => rfl
  have F15 := fun_mk (st := t_summed) l15 c15 k15
  have b15 := F15.binds (ps := ["p", "row", "load"]) fun _ _ _ _ _ _ us hl => match us, hl with | [_, _, _], _ => rfl
  have F16 := fun_mk (st := t_led) l16 c16 k16
  have b16 := F16.binds (ps := ["p", "table", "load"]) fun _ _ _ _ _ _ us hl => match us, hl with | [_, _, _], _ => rfl
  have F17 := fun_mk (st := t_pressed) l17 c17 k17
  have b17 := F17.binds (ps := ["p", "table", "base"]) fun _ _ _ _ _ _ us hl => match us, hl with | [_, _, _], _ => rfl
  have F18 := fun_mk (st := t_lead_of) l18 c18 k18
  have b18 := F18.binds (ps := ["load"]) fun _ _ _ _ _ _ us hl => match us, hl with | [_], _ => rfl
  have F19 := fun_mk (st := t_kernel) l19 c19 k19
  have b19 := F19.binds (ps := ["p", "table"]) fun _ _ _ _ _ _ us hl => match us, hl with | [_, _], _ => rfl
  have F20 := fun_mk (st := t_joined_table) l20 c20 k20
  have b20 := F20.binds (ps := ["p", "table", "loads"]) fun _ _ _ _ _ _ us hl => match us, hl with | [_, _, _], _ => rfl
  have F21 := fun_mk (st := t_leading_to) l21 c21 k21
  have b21 := F21.binds (ps := ["p", "table", "base"]) fun _ _ _ _ _ _ us hl => match us, hl with | [_, _, _], _ => rfl
  have F22 := fun_mk (st := t__law_right) l22 c22 k22
  have b22 := F22.binds (ps := ["_law_arrow", "_law_p", "_law_table_here", "_law_right_here", "_law_left_base", "_law_right_base"]) fun _ _ _ _ _ _ us hl => match us, hl with | [_, _, _, _, _, _], _ => rfl
  have F23 := fun_mk (st := t_law) l23 c23 k23
  refine ⟨W.fnOf "law" "law" (defArgs t_law) (defBody t_law) (defScope t_law) .none kV23 dc23 pm23 an23 cd23 ct23, fun s v => .of_eq rfl, fun base KB GB => ?_⟩
  have jCl0 : L2.Cls K JC0 := ⟨jpg0, jhd0, jpo0, jsa0⟩
  have jAt0 : ClsAt K "Right" JC0 := ja0
  have jCl1 : L2.Cls K JC1 := ⟨jpg1, jhd1, jpo1, jsa1⟩
  have jAt1 : ClsAt K "Left" JC1 := ja1
  have jOf : OfsOk K OFA := (.cons jAt0 jCl0 jf0x0 (.cons jAt0 jCl0 jf0x1 (.cons jAt1 jCl1 jf1x0 (.cons jAt1 jCl1 jf1x1 OfsOk.nil))))
  have jF0 := fun_mk (st := tm_arr_init) jL0 jO0 jK0
  have jB0 := jF0.binds (ps := ["self", "p", "table"]) fun _ _ _ _ _ _ us hl => match us, hl with | [_, _, _], _ => rfl
  have jF1 := fun_mk (st := tm_Arrow_along) jL1 jO1 jK1
  have jB1 := jF1.binds (ps := ["self", "base"]) fun _ _ _ _ _ _ us hl => match us, hl with | [_, _], _ => rfl
  have jF2 := fun_mk (st := tm_Right_forth) jL2 jO2 jK2
  have jB2 := jF2.binds (ps := ["self", "base"]) fun _ _ _ _ _ _ us hl => match us, hl with | [_, _], _ => rfl
  have jF3 := fun_mk (st := tm_Arrow_against) jL3 jO3 jK3
  have jB3 := jF3.binds (ps := ["self", "base"]) fun _ _ _ _ _ _ us hl => match us, hl with | [_, _], _ => rfl
  have jF4 := fun_mk (st := tm_Left_forth) jL4 jO4 jK4
  have jB4 := jF4.binds (ps := ["self", "base"]) fun _ _ _ _ _ _ us hl => match us, hl with | [_, _], _ => rfl
  have jF5 := fun_mk (st := tm_Right_back) jL5 jO5 jK5
  have jB5 := jF5.binds (ps := ["self", "base"]) fun _ _ _ _ _ _ us hl => match us, hl with | [_, _], _ => rfl
  have jF6 := fun_mk (st := tm_Left_back) jL6 jO6 jK6
  have jB6 := jF6.binds (ps := ["self", "base"]) fun _ _ _ _ _ _ us hl => match us, hl with | [_, _], _ => rfl
  have hcj0 : CalC l.prog w K mg base 1 "Right" 3 t_arr_init := ⟨fun _ _ _ _ h => runT_len h, JC0, jm0, _, _, W.mg_of X G ja0, jAt0, ⟨jmk0, jI0x0, jN0, jkp0⟩, jB0, fn_mkTT (T := {}) jF0 cm_arr_init .nil .nil .nil XcOk.none no1 bn (to := trs_j .nil jOf ImsOk.nil JasOk.nil)⟩
  have hcj1 : CalC l.prog w K mg base 1 "Left" 3 t_arr_init := ⟨fun _ _ _ _ h => runT_len h, JC1, jm0, _, _, W.mg_of X G ja1, jAt1, ⟨jmk1, jI1x0, jN0, jkp1⟩, jB0, fn_mkTT (T := {}) jF0 cm_arr_init .nil .nil .nil XcOk.none no1 bn (to := trs_j .nil jOf ImsOk.nil JasOk.nil)⟩
  have h__law_cell : Cal l.prog w K mg base 1 "_law_cell" 2 s_law_cell := cal_mk F0 (W.mg_of X G a0) b0 c__law_cell .nil .nil bn
  have h__law_table : Cal l.prog w K mg base 2 "_law_table" 5 s_law_table_v4 := cal_mk F1 (W.mg_of X G a1) b1 c__law_table (.cons h__law_cell (by decide) .nil) .nil bn
  have h__law_less : Cal l.prog w K mg base 1 "_law_less" 4 s_less := cal_mk F2 (W.mg_of X G a2) b2 c__law_less .nil .nil bn
  have h__law_base : Cal l.prog w K mg base 2 "_law_base" 3 s_law_base_v2 := cal_mk F3 (W.mg_of X G a3) b3 c__law_base (.cons h__law_less (by decide) .nil) .nil bn
  have h__law_loads : Cal l.prog w K mg base 2 "_law_loads" 4 s_law_loads_v2 := cal_mk F4 (W.mg_of X G a4) b4 c__law_loads (.cons h__law_cell (by decide) .nil) .nil bn
  have h__law_led : Cal l.prog w K mg base 1 "_law_led" 3 s_law_led_v2 := cal_mk F5 (W.mg_of X G a5) b5 c__law_led .nil .nil bn
  have h__law_span : Cal l.prog w K mg base 1 "_law_span" 3 s_law_span := cal_mk F6 (W.mg_of X G a6) b6 c__law_span .nil .nil bn
  have h__law_all : Cal l.prog w K mg base 1 "_law_all" 2 s_law_all := cal_mk F7 (W.mg_of X G a7) b7 c__law_all .nil .nil bn
  have h__law_due : Cal l.prog w K mg base 3 "_law_due" 4 s_law_due_v10 := cal_mk F8 (W.mg_of X G a8) b8 c__law_due (.cons h__law_base (by decide) (.cons h__law_led (by decide) (.cons h__law_span (by decide) (.cons h__law_all (by decide) .nil)))) .nil bn
  have h__law_whole : Cal l.prog w K mg base 1 "_law_whole" 1 s_law_whole := cal_mk F9 (W.mg_of X G a9) b9 c__law_whole .nil .nil bn
  have h__law_is_base : Cal l.prog w K mg base 2 "_law_is_base" 2 s_law_is_base_v2 := cal_mk F10 (W.mg_of X G a10) b10 c__law_is_base (.cons h__law_whole (by decide) .nil) .nil bn
  have h_first_with : Cal l.prog w K mg base 1 "first_with" 2 s_first_with := cal_mk F11 (W.mg_of X G a11) b11 c_first_with .nil .nil bn
  have h_inverse : Cal l.prog w K mg base 1 "inverse" 2 s_inverse := cal_mk F12 (W.mg_of X G a12) b12 c_inverse .nil .nil bn
  have h_less : Cal l.prog w K mg base 1 "less" 4 s_less := cal_mk F13 (W.mg_of X G a13) b13 c_less .nil .nil bn
  have h_base_of : Cal l.prog w K mg base 2 "base_of" 3 s_base_of := cal_mk F14 (W.mg_of X G a14) b14 c_base_of (.cons h_first_with (by decide) (.cons h_inverse (by decide) (.cons h_less (by decide) .nil))) .nil bn
  have h_summed : Cal l.prog w K mg base 1 "summed" 3 s_summed := cal_mk F15 (W.mg_of X G a15) b15 c_summed .nil .nil bn
  have h_led : Cal l.prog w K mg base 2 "led" 3 s_led := cal_mk F16 (W.mg_of X G a16) b16 c_led (.cons h_summed (by decide) .nil) .nil bn
  have h_pressed : Cal l.prog w K mg base 3 "pressed" 3 s_pressed := cal_mk F17 (W.mg_of X G a17) b17 c_pressed (.cons h_base_of (by decide) (.cons h_led (by decide) .nil)) .nil bn
  have hi_Right_along : CalI l.prog w K mg base 4 "Right" "along" s_Arrow_along := cal_mkI (T := {}) jF1 (fun C' hC' => by cases ClsAt.eq hC' jAt0; exact ⟨jCl0, jI0x1, jN1, jK1⟩) jB1 cm_Arrow_along (.cons h_pressed (by decide) .nil) .nil .nil XcOk.none no1 bn (to := trs_j .nil jOf ImsOk.nil JasOk.nil)
  have hi_Left_along : CalI l.prog w K mg base 4 "Left" "along" s_Arrow_along := cal_mkI (T := {}) jF1 (fun C' hC' => by cases ClsAt.eq hC' jAt1; exact ⟨jCl1, jI1x1, jN1, jK1⟩) jB1 cm_Arrow_along (.cons h_pressed (by decide) .nil) .nil .nil XcOk.none no1 bn (to := trs_j .nil jOf ImsOk.nil JasOk.nil)
  have hi_Right_forth : CalI l.prog w K mg base 5 "Right" "forth" s_Right_forth := cal_mkI (T := {}) jF2 (fun C' hC' => by cases ClsAt.eq hC' jAt0; exact ⟨jCl0, jI0x2, jN2, jK2⟩) jB2 cm_Right_forth .nil .nil .nil XcOk.none no1 bn (to := trs_j .nil jOf (ImsOk.cons hi_Right_along (by decide) (ImsOk.cons hi_Left_along (by decide) ImsOk.nil)) JasOk.nil)
  have h_lead_of : Cal l.prog w K mg base 1 "lead_of" 1 s_lead_of := cal_mk F18 (W.mg_of X G a18) b18 c_lead_of .nil .nil bn
  have h_kernel : Cal l.prog w K mg base 3 "kernel" 2 s_kernel := cal_mk F19 (W.mg_of X G a19) b19 c_kernel (.cons h_base_of (by decide) (.cons h_lead_of (by decide) .nil)) .nil bn
  have h_joined_table : Cal l.prog w K mg base 1 "joined_table" 3 s_joined_table := cal_mk F20 (W.mg_of X G a20) b20 c_joined_table .nil .nil bn
  have h_leading_to : Cal l.prog w K mg base 4 "leading_to" 3 s_leading_to := cal_mk F21 (W.mg_of X G a21) b21 c_leading_to (.cons h_kernel (by decide) (.cons h_joined_table (by decide) (.cons h_base_of (by decide) .nil))) .nil bn
  have hi_Right_against : CalI l.prog w K mg base 5 "Right" "against" s_Arrow_against := cal_mkI (T := {}) jF3 (fun C' hC' => by cases ClsAt.eq hC' jAt0; exact ⟨jCl0, jI0x3, jN3, jK3⟩) jB3 cm_Arrow_against (.cons h_leading_to (by decide) .nil) .nil .nil XcOk.none no1 bn (to := trs_j .nil jOf ImsOk.nil JasOk.nil)
  have hi_Left_against : CalI l.prog w K mg base 5 "Left" "against" s_Arrow_against := cal_mkI (T := {}) jF3 (fun C' hC' => by cases ClsAt.eq hC' jAt1; exact ⟨jCl1, jI1x3, jN3, jK3⟩) jB3 cm_Arrow_against (.cons h_leading_to (by decide) .nil) .nil .nil XcOk.none no1 bn (to := trs_j .nil jOf ImsOk.nil JasOk.nil)
  have hi_Left_forth : CalI l.prog w K mg base 6 "Left" "forth" s_Left_forth := cal_mkI (T := {}) jF4 (fun C' hC' => by cases ClsAt.eq hC' jAt1; exact ⟨jCl1, jI1x4, jN4, jK4⟩) jB4 cm_Left_forth .nil .nil .nil XcOk.none no1 bn (to := trs_j .nil jOf (ImsOk.cons hi_Right_against (by decide) (ImsOk.cons hi_Left_against (by decide) ImsOk.nil)) JasOk.nil)
  have hi_Right_back : CalI l.prog w K mg base 6 "Right" "back" s_Left_forth := cal_mkI (T := {}) jF5 (fun C' hC' => by cases ClsAt.eq hC' jAt0; exact ⟨jCl0, jI0x5, jN5, jK5⟩) jB5 cm_Right_back .nil .nil .nil XcOk.none no1 bn (to := trs_j .nil jOf (ImsOk.cons hi_Right_against (by decide) (ImsOk.cons hi_Left_against (by decide) ImsOk.nil)) JasOk.nil)
  have hi_Left_back : CalI l.prog w K mg base 5 "Left" "back" s_Right_forth := cal_mkI (T := {}) jF6 (fun C' hC' => by cases ClsAt.eq hC' jAt1; exact ⟨jCl1, jI1x6, jN6, jK6⟩) jB6 cm_Left_back .nil .nil .nil XcOk.none no1 bn (to := trs_j .nil jOf (ImsOk.cons hi_Right_along (by decide) (ImsOk.cons hi_Left_along (by decide) ImsOk.nil)) JasOk.nil)
  have h__law_right : Cal l.prog w K mg base 7 "_law_right" 6 s_law_right_v11 := cal_mkT (T := {}) F22 (W.mg_of X G a22) b22 c__law_right (.cons h__law_due (by decide) (.cons h__law_is_base (by decide) .nil)) .nil .nil XcOk.none no1 bn (to := trs_j .nil jOf (ImsOk.cons hi_Right_forth (by decide) (ImsOk.cons hi_Left_forth (by decide) (ImsOk.cons hi_Right_back (by decide) (ImsOk.cons hi_Left_back (by decide) ImsOk.nil)))) JasOk.nil)
  exact fn_mkT (T := {}) F23 c_law (.cons h__law_cell (by decide) (.cons h__law_table (by decide) (.cons h__law_base (by decide) (.cons h__law_loads (by decide) (.cons h__law_right (by decide) .nil))))) .nil .nil XcOk.none no1 bn (to := trs_j (.cons rfl rfl hcj0 (by decide) (.cons rfl rfl hcj1 (by decide) .nil)) jOf ImsOk.nil (JasOk.cons (W.mg_of X G ja2) (fun C hC => by cases ClsAt.eq hC jAt0; exact ⟨jCl0, jxc0, jxs, jxt, jxm0, jk0x2⟩) (JasOk.cons (W.mg_of X G ja2) (fun C hC => by cases ClsAt.eq hC jAt1; exact ⟨jCl1, jxc1, jxs, jxt, jxm1, jk1x2⟩) JasOk.nil)))
theorem law_true (ns : List Int) (h : ns.length ≤ 63) : s_law_k20 [scrD ns] = some (.fz (.bool true)) := w_law_k20 ns true (La.k20_true ns h)
end Lk20
open PySem PySem.W PyProof.Rows
set_option maxHeartbeats 0 in
theorem PySem.Challenge.cw_barsplit_k20_forth_and_back_by_an_arrow_holds : PySem.Challenge.rw_barsplit_k20_forth_and_back_by_an_arrow.Holds := by
  refine Hd.fin ?_
  k_fill
  refine L2.walk_of (l := PySem.Challenge.rw_barsplit_k20_forth_and_back_by_an_arrow) (n := 63) (k := 8) (x := "_law_script") (CX := fun _ => L2.CX0) (sp := fun w => Mn.spD _ 1 Mn.s_law_k20) rfl (by decide) (by kernel_rfl) ⟨rfl, by decide, by decide⟩ (fun w h Y => PySem.W.kIn_of Y) ?F (fun w H a ns hl _ hS => Mn.law_sp Lk20.law_true H a ns hl hS) (fun _ _ _ _ _ h => h)
  case F =>
    intro w mg fa h KX G hmg
    refine' Lk20.all_mk KX G hmg ?_ ?_ ?_ ?_ ?_ ?_ ?_ ?_ ?_ ?_ ?_ ?_ ?_ ?_ ?_ ?_ ?_ ?_ ?_ ?_ ?_ ?_ ?_ ?_ ?_ ?_ ?_ ?_ ?_ ?_ ?_ ?_ ?_ ?_ ?_ ?_ ?_ ?_ ?_ ?_ ?_ ?_ ?_ ?_ ?_ ?_ ?_ ?_ ?_ ?_ ?_ ?_ ?_ ?_ ?_ ?_ ?_ ?_ ?_ ?_ ?_ ?_ ?_ ?_ ?_ ?_ ?_ ?_ ?_ ?_ ?_ ?_ ?_ ?_ ?_ ?_ ?_ ?_ ?_ ?_ ?_ ?_ ?_ ?_ ?_ ?_ ?_ ?_ ?_ ?_ ?_ ?_ ?_ ?_ ?_ ?_ ?_ ?_ ?_ ?_ ?_ ?_ ?_ ?_ ?_ ?_ ?_ ?_ ?_ ?_ ?_ ?_ ?_ ?_ ?_ ?_ ?_ ?_ ?_ ?_ ?_ ?_ ?_ ?_ ?_ ?_ ?_ ?jk0x2 ?_ ?_ ?_ ?_ ?_ ?_ ?_ ?_ ?_ ?_ ?jk1x2 ?_ ?_ ?_ ?_ ?_ ?_ ?_ ?_ ?_ ?_ ?_ ?_ ?_ ?_ ?_ ?_ ?_ ?_ ?_ ?_ ?_ ?_ ?_ ?_ ?_ ?_ ?_ ?_ ?_ ?_ ?_ ?_ ?_ ?_ ?_ ?_ ?_ ?_ ?_ ?_
    all_goals try k_is
    (case jk0x2 => (first | rfl | k_is | decide +kernel)); (case jk1x2 => (first | rfl | k_is | decide +kernel))
    all_goals first | rfl | k_is | decide
