import PyProof.Rows.All
import Wide.All
import OpenK.AllK
import Wide.FinOn
import PyProof.EqAt
import PyProof.SeqIndex
import PyProof.P3In
import HandS.Base
import HandS.Call
import HandS.List
import HandS.Comp
import HandS.Words
import HandS.TupAny
import HandS.Conv
import HandS.Deep
import HandS.TupMul
import HandS.Iter
import KE.GoesEnum
import KE.GoesMore
import HandS.Style
import HandS.Wide
import HandS.NoneIn
import HandS.IsInst
import HandS.WordsDict
import HandS.Flow
import HandS.Ends
import HandS.Small
import HandS.DictComp
import HandS.SortInts
import HandS.SortRule
import HandS.SetFor
import HandS.Strs
import HandS.Zip
import HandS.Remove
import PySem.Challenge.RW_fewerpours_k22_whole_best_fixed_tapes
import HandS.ForMost
set_option Elab.async false
set_option linter.all false
set_option maxRecDepth 100000
set_option maxHeartbeats 4000000
/-! DLZ: tuples of which it is known that they have no dict; their methods. -/
namespace L2
open PySem PySem.Spec PyProof.Rows HT
/-- what stands where a tuple was made -/
def TupU (u : HO) (xs : List V) : Prop := ∃ o : Obj, u = .frz o (.tup xs) ∧ o.cls = .type "tuple" ∧ o.dict = none
/-- a tuple without a dict -/
def SqD (K : PySem.W.Frag) (H : Hp) (a : Addr) (xs : List V) : Prop :=
  (∃ u, H a = some u ∧ TupU u xs) ∨
    ∃ (o : Obj) (its : Array Value) (n : Nat), K.lookup a = some o ∧ o.cls = .type "tuple" ∧ o.dict = none ∧ o.data = .seq its n ∧ its.size ≤ sizeLine ∧ Vals xs its.toList
theorem SqD.t {K : PySem.W.Frag} {H : Hp} {a : Addr} {xs : List V} (h : SqD K H a xs) : SqT K H a xs := by
  rcases h with ⟨u, h, o, rfl, _, _⟩ | ⟨o, its, n, h1, h2, _, h4, h5, h6⟩
  · exact .inl (.inr ⟨o, h⟩)
  · exact .inr ⟨o, its, n, h1, h2, h4, h5, h6⟩
section
variable {X : Cx} {pins : List (Addr × Obj)} {σ : St} {H : Hp} {s : Shared}
/-- a new tuple -/
theorem Inv.laidT (I : Inv X pins σ H s) {xs : List V} {its : List Value} (r : Vals xs its) (hz : xs.length ≤ sizeLine) :
    ∃ u, TupU u xs ∧ Inv X pins σ (upd H s.heap.objs.size u) { s with heap := s.heap.push { cls := .type "tuple", data := .seq its.toArray } } :=
  ⟨_, ⟨_, rfl, rfl, rfl⟩, I.laid (t' := s.toks) (o := .frz { cls := .type "tuple", data := .seq its.toArray } (.tup xs)) (fun b o e => Heap.get?_push_of_some _ e) (Nat.le_refl _) ⟨Heap.get?_push_size _ rfl, hz, its, r, IsTup.new _ _⟩⟩
theorem Inv.tupD (I : Inv X pins σ H s) {a : Addr} {xs : List V} (h : SqD X.K H a xs) : ∃ o, s.heap.get? a = some o ∧ o.cls = .type "tuple" ∧ o.dict = none := by
  rcases h with ⟨u, h, o, rfl, h1, h2⟩ | ⟨o, its, n, h1, h2, h3, _⟩
  · exact ⟨o, (I.hok _ _ h).1, h1, h2⟩
  · exact ⟨o, I.kIn _ _ h1, h2, h3⟩
end
section
variable {X : Cx} {e o : Expr} {es : List Expr} {t : TA} {to te : TE} {pos apos cpos : Pos}
def tTupZ (t : TA) : TE := fun σ H Q => t σ H fun xs H1 => xs.length ≤ sizeLine ∧ ∀ p u, TupU u xs → H1 p = none → Q (.ref p) (upd H1 p u)
theorem pe_tupZ {x1} (h : PA X es t) : PE X (.Tuple es x1 pos) (tTupZ t) := by
  refine ⟨fun pins s σ H Q I hq => ?_⟩
  refine wpAny_Tuple_spliced (thn (h.run pos pins s σ H _ I hq) fun us s1 ⟨xs, H1, I1, r, z, q⟩ => ⟨by rw [← r.length]; exact z, ?_⟩)
  obtain ⟨u, hu, I2⟩ := I1.laidT r z
  exact ⟨.ref s1.heap.objs.size, _, I2, rfl, q _ u hu (I1.hok.fresh (Nat.le_refl _))⟩
theorem call_tuple_ofZ : CallR X (.type "tuple") (fun xs H Q => ∃ p ys, xs = [.ref p] ∧ ((SqL X.K H p ys ∧ ∀ l u, TupU u ys → H l = none → Q (.ref l) (upd H l u)) ∨ (SqT X.K H p ys ∧ Q (.ref p) H))) := by
  intro pins s σ H xs us Q I r h
  obtain ⟨p, ys, rfl, h⟩ := h
  obtain ⟨u, rfl, rx⟩ := vals1 r
  cases rx
  rcases h with ⟨hq, q⟩ | ⟨hq, q⟩
  · obtain ⟨its, r', pl, hz⟩ := I.list hq
    have hlen := r'.length
    refine call_tuple_list pl.isList (fun h' kp => ?_) (by simp only [List.size_toArray] <;> omega)
    have I1 : Inv X pins σ H { s with heap := h' } := I.kept (t' := s.toks) kp
    obtain ⟨u, hu, I2⟩ := I1.laidT r' hz
    exact ⟨.ref h'.objs.size, _, I2, rfl, q _ u hu (I1.hok.fresh (Nat.le_refl _))⟩
  · obtain ⟨its, r', pl, hz⟩ := I.tuple hq
    exact call_tuple_same pl ⟨.ref p, H, I, rfl, q⟩
def rCatZ (K : PySem.W.Frag) : R2 := fun x y H Q => ∃ a b xs ys, x = .ref a ∧ y = .ref b ∧ SqT K H a xs ∧ SqT K H b ys ∧ xs.length + ys.length ≤ sizeLine ∧
  (xs = [] → Q (.ref b) H) ∧ (xs ≠ [] → ys = [] → Q (.ref a) H) ∧ (xs ≠ [] → ys ≠ [] → ∀ p u, TupU u (xs ++ ys) → H p = none → Q (.ref p) (upd H p u))
theorem op_catZ : OpR X (binaryOp .Add) (rCatZ X.K) := by
  intro pins s σ H x y v u Q I rx ry h
  obtain ⟨a, b, xs, ys, rfl, rfl, ha, hb, hz, q0, q1, q2⟩ := h
  cases rx
  cases ry
  obtain ⟨its, r1, p1, _⟩ := I.tuple ha
  obtain ⟨its2, r2, p2, _⟩ := I.tuple hb
  by_cases hx : xs = []
  · subst hx
    cases r1
    exact cat_tup0 p1 p2 ⟨.ref b, H, I, rfl, q0 rfl⟩
  · refine HT.cat_tup p1 p2 (fun z => hx (r1.nil_iff.mp z)) (fun z => ⟨.ref a, H, I, rfl, q1 hx (r2.nil_iff.mp z)⟩) (fun z => ?_) (by rw [← r1.length, ← r2.length]; exact hz)
    obtain ⟨u, hu, I2⟩ := I.laidT (r1.append r2) (by rw [List.length_append]; exact hz)
    exact ⟨.ref s.heap.objs.size, _, I2, rfl, q2 hx (fun w => z (r2.nil_iff.mpr w)) _ u hu (I.hok.fresh (Nat.le_refl _))⟩
def rSlZ (K : PySem.W.Frag) : V → Option Int → Option Int → Hp → VK → Prop := fun x lo hi H Q => ∃ a xs, x = .ref a ∧ SqT K H a xs ∧
  (HT.sIx xs.length 0 lo = 0 ∧ HT.sIx xs.length xs.length hi = xs.length → Q (.ref a) H) ∧ (¬ (HT.sIx xs.length 0 lo = 0 ∧ HT.sIx xs.length xs.length hi = xs.length) → ∀ p u, TupU u (cutV xs lo hi) → H p = none → Q (.ref p) (upd H p u))
theorem sl_tupZ : SlR X (rSlZ X.K) := by
  intro pins s σ H x v vl vu lo hi sl Q I rx hs pl pu h
  obtain ⟨a, xs, rfl, hx, q1, q2⟩ := h
  cases rx
  obtain ⟨its, r, ht, hz⟩ := I.tuple hx
  have hlen : its.toArray.size = xs.length := by rw [List.size_toArray]; exact r.length.symm
  refine ⟨"tuple", _, PyProof.Rows.slot_tuple_getitem.lookup, ht.typeIs, ?_⟩
  by_cases hw : HT.sIx xs.length 0 lo = 0 ∧ HT.sIx xs.length xs.length hi = xs.length
  · exact getItem_tuple_whole ht hs pl pu (by rw [hlen]; exact hw) ⟨.ref a, H, I, rfl, q1 hw⟩
  · refine HT.getItem_tuple_cut ht hs pl pu (by rw [hlen]; exact hw) ?_ (by rw [hlen]; exact hz)
    rw [hlen]
    obtain ⟨u, hu, I2⟩ := I.laidT (xs := cutV xs lo hi) ((r.drop (HT.sIx xs.length 0 lo)).take (HT.sIx xs.length xs.length hi - HT.sIx xs.length 0 lo)) (Nat.le_trans (cutV_length xs lo hi) hz)
    exact ⟨.ref s.heap.objs.size, _, I2, rfl, q2 hw _ u hu (I.hok.fresh (Nat.le_refl _))⟩
def tTupRgZ (te : St → Hp → (Int → Int → Hp → Prop) → Prop) : TE := fun σ H Q => te σ H fun a b H1 => RgOk a b ∧ ∀ q u, TupU u (rgV a b) → H1 q = none → Q (.ref q) (upd H1 q u)
theorem pe_tupRgZ {te : St → Hp → (Int → Int → Hp → Prop) → Prop} {p pos : Pos} (hc : X.calm = true) (hg : Gl X "tuple") (hm : X.mg "tuple" = none) (he : PRg X e te) (na : starEach [e] X.env = (false, eval e X.env) :: starEach [] X.env := by rfl) : PE X (.Call (.Name "tuple" p) [e] [] pos) (tTupRgZ te) := by
  refine ⟨fun pins s σ H Q I h => ?_⟩
  refine Call_ (ld_blt I hg hm boot_tuple (PyProof.Rows.callWith_type1 (args_cons (thn (he pins s σ H _ I h) fun x s1 ⟨r, a, b, t, u, v, H1, ex, hr, I1, ok, q⟩ => args_nil ?_) na) na))
  subst ex
  obtain ⟨b1, b2, b3, b4, b5⟩ := ok
  refine call_tuple_range (n := (b - a).toNat) (I1.ok.hd hc) hr (small_one b1 b2 b3 b4) (rangeSize_nat a b) b5 fun h' tk acc hk hi => ?_
  have I2 : Inv X pins σ H1 { s1 with heap := h', toks := tk } := I1.kept hk
  obtain ⟨u, hu, I3⟩ := I2.laidT (vals_rg hi) (by rw [rgV_length, sizeLine_eq]; omega)
  rw [Array.toArray_toList] at I3
  exact ⟨.ref h'.objs.size, _, I3, rfl, q _ u hu (I2.hok.fresh (Nat.le_refl _))⟩
/-! ### in, over tuples of any data -/
def rInT (K : PySem.W.Frag) : R2 := fun x y H Q => ∃ d ds, Dp K H x d ∧ Dp K H y (.tuple ds) ∧ SeqAt.shaped d = true ∧ SeqAt.shaped (.tuple ds) = true ∧ Q (.bl (ds.any fun z => PyData.eqv z d)) H
def rNotInT (K : PySem.W.Frag) : R2 := fun x y H Q => ∃ d ds, Dp K H x d ∧ Dp K H y (.tuple ds) ∧ SeqAt.shaped d = true ∧ SeqAt.shaped (.tuple ds) = true ∧ Q (.bl (!ds.any fun z => PyData.eqv z d)) H
theorem op_inT (hu : X.A.units + 65 < cLine) : OpR X (compareOp .In) (rInT X.K) := by
  intro pins s σ H x y v u Q I rx ry h
  obtain ⟨d, ds, hd, he, sd, se, q⟩ := h
  obtain ⟨as, r1⟩ := Dp.reads I d x v hd rx
  obtain ⟨bs, r2⟩ := Dp.reads I (.tuple ds) y u he ry
  exact SeqAt.in_tuple_reads r2 r1 (SeqAt.canLay_of_shaped se) (SeqAt.canLay_of_shaped sd) (room_in_shaped sd hu) ⟨.bl _, H, I, rfl, q⟩
theorem op_notInT (hu : X.A.units + 65 < cLine) : OpR X (compareOp .NotIn) (rNotInT X.K) := by
  intro pins s σ H x y v u Q I rx ry h
  obtain ⟨d, ds, hd, he, sd, se, q⟩ := h
  obtain ⟨as, r1⟩ := Dp.reads I d x v hd rx
  obtain ⟨bs, r2⟩ := Dp.reads I (.tuple ds) y u he ry
  exact SeqAt.notIn_tuple_reads r2 r1 (SeqAt.canLay_of_shaped se) (SeqAt.canLay_of_shaped sd) (room_in_shaped sd hu) ⟨.bl _, H, I, rfl, q⟩
/-! ### index, count -/
/-- t.index(x): the first place of an equal one -/
def rIndexT (K : PySem.W.Frag) : V → List V → Hp → VK → Prop := fun x xs H Q => ∃ (a : Addr) (y : V) (d : PyData) (ds : List PyData) (j : Nat) (z : PyData), x = V.ref a ∧ xs = [y] ∧ Dp K H (V.ref a) (.tuple ds) ∧ Dp K H y d ∧
  SeqAt.shaped (.tuple ds) = true ∧ SeqAt.shaped d = true ∧ ds[j]? = some z ∧ PyData.eqv z d = true ∧ (∀ (m : Nat) (z' : PyData), m < j → ds[m]? = some z' → PyData.eqv z' d = false) ∧ Q (.int (j : Nat)) H
theorem mt_indexT (hu : X.A.units + 65 < cLine) : MtR X "tuple.index" (rIndexT X.K) := by
  intro pins s σ H x xs v us Q I rx rxs h
  obtain ⟨a, y, d, ds, j, z, rfl, rfl, hl, hy, sl, sd, hz, hzj, hno, q⟩ := h
  cases rx
  cases rxs with
  | cons ry rt =>
    rename_i uy ut
    cases rt
    obtain ⟨bs, r1⟩ := Dp.reads I d y uy hy ry
    have hxs : PyData.canLayAll0 ds = true := SeqAt.canLay_of_shaped sl
    have hroom : X.A.units + 1 + min (PyData.depthAll ds) d.depth < cLine := room_in_shaped sd hu
    cases hl with
    | tup hs ha =>
      obtain ⟨its, rv, ⟨⟨cls, dd, data, sls⟩, ho, hc, n, hdt⟩, hlen⟩ := I.tuple hs
      simp only at hc hdt
      subst hc hdt
      obtain ⟨as, h4⟩ := Dp.readsAll I ds _ its ha rv
      have hn : its.length = ds.length := SeqAt.ReadsAll.length ds its as h4
      have hmap : its.map (SeqAt.readOf s.heap) = ds := SeqAt.readsAll_map ds its as hxs h4
      obtain ⟨hjd, _⟩ := List.getElem?_eq_some_iff.mp hz
      have hjl : j < its.length := by omega
      have hj : j < its.toArray.size := by simpa using hjl
      have at_ : ∀ (m : Nat) (hm : m < its.toArray.size) (z' : PyData), ds[m]? = some z' → SeqAt.readOf s.heap its.toArray[m] = z' := by
        intro m hm z' hz'
        have hml : m < its.length := by simpa using hm
        rw [← hmap, List.getElem?_map, List.getElem?_eq_getElem hml] at hz'
        have e1 : SeqAt.readOf s.heap its[m] = z' := Option.some.inj (show some (SeqAt.readOf s.heap its[m]) = some z' from hz')
        simpa using e1
      have hea := SeqAt.items_eqAt (A := X.A) (s := s) (vs := its.toArray) (show ReadsAll s.heap its.toArray.toList ds as from h4) r1 hxs (SeqAt.canLay_of_shaped sd) hroom
      refine call_meets PySem.F.slot_tuple_index ⟨_, ho, rfl⟩ PySem.F.entry_tuple_index (PySem.F.args_tuple_index_2 _ _)
        (SeqAt.tuple_index2_found a its.toArray n dd sls uy (fun m => match its.toArray[m]? with | some u => PyData.eqv (SeqAt.readOf s.heap u) d | none => false) j hj (Nat.zero_le _) hj ?_ ?_) ⟨ho, fun m hm => ?_, ?_⟩
      · show (match its.toArray[j]? with | some u => PyData.eqv (SeqAt.readOf s.heap u) d | none => false) = true
        rw [Array.getElem?_eq_getElem hj]
        show PyData.eqv (SeqAt.readOf s.heap its.toArray[j]) d = true
        rw [at_ j hj z hz]
        exact hzj
      · intro m hm _ hmj
        have hmd : m < ds.length := by omega
        have hz' : ds[m]? = some ds[m] := List.getElem?_eq_getElem hmd
        show (match its.toArray[m]? with | some u => PyData.eqv (SeqAt.readOf s.heap u) d | none => false) = false
        rw [Array.getElem?_eq_getElem hm]
        show PyData.eqv (SeqAt.readOf s.heap its.toArray[m]) d = false
        rw [at_ m hm _ hz']
        exact hno m _ hmj hz'
      · show SeqAt.EqAt X.A.in1 s its.toArray[m] uy (match its.toArray[m]? with | some u => PyData.eqv (SeqAt.readOf s.heap u) d | none => false)
        rw [Array.getElem?_eq_getElem hm]
        exact hea _ (Array.getElem_mem hm)
      · exact ⟨.int (j : Nat), H, I.tok _, ⟨_, rfl⟩, q⟩
def rCountT (K : PySem.W.Frag) : V → List V → Hp → VK → Prop := fun x xs H Q => ∃ (a : Addr) (y : V) (d : PyData) (ds : List PyData), x = V.ref a ∧ xs = [y] ∧ Dp K H (V.ref a) (.tuple ds) ∧ Dp K H y d ∧
  SeqAt.shaped (.tuple ds) = true ∧ SeqAt.shaped d = true ∧ Q (.int (ds.countP fun z => PyData.eqv z d : Nat)) H
theorem countP_reads {its : List Value} {ds : List PyData} {h : Heap} {d : PyData} (hmap : its.map (SeqAt.readOf h) = ds) : its.countP (fun u => PyData.eqv (SeqAt.readOf h u) d) = ds.countP fun z => PyData.eqv z d := by
  subst hmap
  rw [List.countP_map]; rfl
theorem mt_countT (hu : X.A.units + 65 < cLine) : MtR X "tuple.count" (rCountT X.K) := by
  intro pins s σ H x xs v us Q I rx rxs h
  obtain ⟨a, y, d, ds, rfl, rfl, hl, hy, sl, sd, q⟩ := h
  cases rx
  cases rxs with
  | cons ry rt =>
    rename_i uy ut
    cases rt
    obtain ⟨bs, r1⟩ := Dp.reads I d y uy hy ry
    have hxs : PyData.canLayAll0 ds = true := SeqAt.canLay_of_shaped sl
    have hroom : X.A.units + 1 + min (PyData.depthAll ds) d.depth < cLine := room_in_shaped sd hu
    cases hl with
    | tup hs ha =>
      obtain ⟨its, rv, ⟨⟨cls, dd, data, sls⟩, ho, hc, n, hdt⟩, hlen⟩ := I.tuple hs
      simp only at hc hdt
      subst hc hdt
      obtain ⟨as, h4⟩ := Dp.readsAll I ds _ its ha rv
      have hmap : its.map (SeqAt.readOf s.heap) = ds := SeqAt.readsAll_map ds its as hxs h4
      refine call_meets PySem.F.slot_tuple_count ⟨_, ho, rfl⟩ PySem.F.entry_tuple_count (PySem.F.args_tuple_count_2 _ _)
        (SeqAt.tuple_countAt a its.toArray n dd sls uy (fun u => PyData.eqv (SeqAt.readOf s.heap u) d)) ⟨ho, SeqAt.items_eqAt (vs := its.toArray) (show ReadsAll s.heap its.toArray.toList ds as from h4) r1 hxs (SeqAt.canLay_of_shaped sd) hroom, ?_⟩
      show EP X pins σ Q (.int ((its.countP fun u => PyData.eqv (SeqAt.readOf s.heap u) d : Nat) : Int) s.toks) _
      rw [countP_reads hmap]
      exact ⟨.int _, H, I.tok _, ⟨_, rfl⟩, q⟩
def rCountL (K : PySem.W.Frag) : V → List V → Hp → VK → Prop := fun x xs H Q => ∃ (a : Addr) (y : V) (d : PyData) (ds : List PyData), x = V.ref a ∧ xs = [y] ∧ Dp K H (V.ref a) (.list ds) ∧ Dp K H y d ∧
  SeqAt.shaped (.list ds) = true ∧ SeqAt.shaped d = true ∧ Q (.int (ds.countP fun z => PyData.eqv z d : Nat)) H
theorem mt_countL (hu : X.A.units + 65 < cLine) : MtR X "list.count" (rCountL X.K) := by
  intro pins s σ H x xs v us Q I rx rxs h
  obtain ⟨a, y, d, ds, rfl, rfl, hl, hy, sl, sd, q⟩ := h
  cases rx
  cases rxs with
  | cons ry rt =>
    rename_i uy ut
    cases rt
    obtain ⟨bs, r1⟩ := Dp.reads I d y uy hy ry
    have hxs : PyData.canLayAll0 ds = true := SeqAt.canLay_of_shaped sl
    have hroom : X.A.units + 1 + min (PyData.depthAll ds) d.depth < cLine := room_in_shaped sd hu
    cases hl with
    | lst hs ha =>
      obtain ⟨its, rv, ⟨⟨cls, dd, data, sls⟩, n, ho, hc, hdn, hdt⟩, hlen⟩ := I.list hs
      simp only at hc hdt
      subst hc hdt
      obtain ⟨as, h4⟩ := Dp.readsAll I ds _ its ha rv
      have hmap : its.map (SeqAt.readOf s.heap) = ds := SeqAt.readsAll_map ds its as hxs h4
      refine call_meets PySem.F.slot_list_count ⟨_, ho, rfl⟩ PySem.F.entry_list_count (PySem.F.args_list_count_2 _ _)
        (SeqAt.list_countAt a its.toArray n dd sls uy (fun u => PyData.eqv (SeqAt.readOf s.heap u) d)) ⟨ho, SeqAt.items_eqAt (vs := its.toArray) (show ReadsAll s.heap its.toArray.toList ds as from h4) r1 hxs (SeqAt.canLay_of_shaped sd) hroom, ?_⟩
      show EP X pins σ Q (.int ((its.countP fun u => PyData.eqv (SeqAt.readOf s.heap u) d : Nat) : Int) s.toks) _
      rw [countP_reads hmap]
      exact ⟨.int _, H, I.tok _, ⟨_, rfl⟩, q⟩
/-- o.name(..) of a list or of a tuple -/
def tSqM (K : PySem.W.Frag) (rL rT : V → List V → Hp → VK → Prop) (to : TE) (t : TA) : TE := fun σ H Q => to σ H fun x H1 =>
  (tyV K "list" x H1 ∧ t σ H1 fun xs H2 => rL x xs H2 Q) ∨ ((∃ a ys, x = .ref a ∧ SqD K H1 a ys) ∧ t σ H1 fun xs H2 => rT x xs H2 Q)
theorem pe_sqm {name : Str} {idL idT : String} {rL rT : V → List V → Hp → VK → Prop} (slL : Slot "list" name idL) (htL : typeOf (.builtin idL) = pure (.type "method_descriptor")) (hmL : MtR X idL rL)
    (slT : Slot "tuple" name idT) (htT : typeOf (.builtin idT) = pure (.type "method_descriptor")) (hmT : MtR X idT rT) (ho : PE X o to) (ha : PA X (e :: es) t)
    (hbase : attributeBase o name X.env (eval o X.env) = eval o X.env := by rfl)
    (hfew : ((backTo cpos (starEach (e :: es) X.env)).all (fun x => !x.1) && (backToKw cpos (keywordEach [] X.env)).all (fun x => x.1.isSome)
      && decide ((e :: es).length + ([] : List Keyword).length + (if ([] : List Keyword).isEmpty then 0 else 1) < 30)) = true := by rfl)
    (hline : (apos.endLine == cpos.line) = true := by rfl) (hs : starEach (e :: es) X.env = (false, eval e X.env) :: starEach es X.env := by rfl) (hplain : (backTo cpos (starEach es X.env)).any (·.1) = false := by rfl) :
    PE X (.Call (.Attribute o name apos) (e :: es) [] cpos) (tSqM X.K rL rT to t) := by
  refine ⟨fun pins s σ H Q I h => ?_⟩
  refine wpAny_Call_method_late hbase hfew hline rfl (thn (ho.run pins s σ H _ I h) fun v s1 ⟨x, H1, I1, r1, q1⟩ => ?_)
  have go : ∀ (id : String) (r : V → List V → Hp → VK → Prop), MtR X id r → (t σ H1 fun xs H2 => r x xs H2 Q) → wpAny (model X.prog X.w) X.A (callWith cpos (.builtin id) [v] (backTo cpos (starEach (e :: es) X.env)) []) (EP X pins σ Q) X.xe s1 := fun id r hm q => by
    have hA := ha.run cpos pins s1 σ H1 _ I1 q
    rw [hs] at hA ⊢
    refine Calls.callWith_builtin (by show (false || (backTo cpos (starEach es X.env)).any (·.1)) = false; rw [hplain] <;> rfl) (Calls.evalArgs_plain ?_)
    exact thn hA fun us s2 ⟨vs, H2, I2, r2, q2⟩ => hm pins s2 σ H2 x vs v us Q I2 r1 r2 q2
  rcases q1 with ⟨ty, q⟩ | ⟨⟨a, ys, rfl, hd⟩, q⟩
  · obtain ⟨h1, h2⟩ := tyV_is I1 r1 ty
    exact ⟨"list", idL, PySem.F.plainAttrs_list, slL, htL, h1, h2, go idL rL hmL q⟩
  · cases r1
    obtain ⟨ob, g1, g2, g3⟩ := I1.tupD hd
    exact ⟨"tuple", idT, PySem.F.plainAttrs_tuple, slT, htT, ⟨ob, g1, g2⟩, fun b e => by cases e; exact ⟨ob, g1, g3⟩, go idT rT hmT q⟩
end
/-- a tuple times an int -/
def rRepTZ (K : PySem.W.Frag) : R2 := fun x y H Q => ∃ l k xs, x = .ref l ∧ y = .int k ∧ SqT K H l xs ∧ xs ≠ [] ∧ 2 ≤ k ∧ k ≤ 1000 ∧ xs.length ≤ 1000 ∧ ∀ p u, TupU u (List.replicate k.toNat xs).flatten → H p = none → Q (.ref p) (upd H p u)
theorem op_repTZ {X : Cx} : OpR X (binaryOp .Mult) (rRepTZ X.K) := by
  intro pins s σ H x y v u Q I rx ry h
  obtain ⟨l, k, xs, rfl, rfl, hT, hne, h1, h2, hz, q⟩ := h
  cases rx
  obtain ⟨t, rfl⟩ := ry
  obtain ⟨its, r, ⟨⟨cls, dd, data, sl⟩, ho, hc, n, hd⟩, hs⟩ := I.tuple hT
  simp only at hc hd
  subst hc hd
  have hle : its.length = xs.length := r.length.symm
  have hn : its ≠ [] := fun e => hne (by
    rw [e] at hle
    exact List.eq_nil_of_length_eq_zero hle.symm)
  have hi : its.toArray.isEmpty = false := by
    cases its with
    | nil => exact absurd rfl hn
    | cons a b => rfl
  have hsz0 : its.toArray.size = xs.length := by rw [List.size_toArray, hle]
  have hm : ((its.toArray.size : Nat) : Int) * k ≤ 1000000 := by
    rw [hsz0]
    have a1 : ((xs.length : Nat) : Int) * k ≤ 1000 * k := Int.mul_le_mul_of_nonneg_right (by omega) (by omega)
    omega
  have flen : (List.replicate k.toNat its).flatten.length ≤ sizeLine := by
    rw [PyProof.Rows.lm_len_rep_flat, hle, sizeLine_eq]
    have a1 : k.toNat * xs.length ≤ 1000 * 1000 := Nat.mul_le_mul (by omega) hz
    omega
  have c0 : (decide (k < -(2 ^ 63)) || decide (k ≥ 2 ^ 63)) = false := by
    rw [decide_eq_false (by omega), decide_eq_false (by omega)] <;> rfl
  have c1 : (its.toArray.isEmpty || k == 1) = false := by
    rw [hi, Bool.false_or]
    exact beq_eq_false_iff_ne.mpr (by omega)
  have c2 : (decide (k ≤ 0) || its.toArray.isEmpty) = false := by
    rw [hi, Bool.or_false]
    exact decide_eq_false (by omega)
  have c4 : Builtin.Tuple.tupleTooMany (((its.toArray.size : Nat) : Int) * k) = false := by
    unfold Builtin.Tuple.tupleTooMany
    rw [sizeLine_eq]
    exact decide_eq_false (by omega)
  refine wpAny_binaryOp_repeat_ref (T := "tuple") (U := "int") (by decide) ⟨_, ho, rfl⟩ (fun s' => typeIs_int s' k t) noFill_tuple_mul F.fills_int_mul F.slot_int_rmul repeat_tuple F.slot_int_index.lookup
    (call_meets F.slot_int_rmul (typeIs_int s k t) F.entry_int_rmul (F.args_int_rmul_2 _ _) (int_rmul_tuple k t l its.toArray n dd sl)
      ⟨ho, rfl, ⟨_, ho, rfl⟩, call_meets F.slot_tuple_mul ⟨_, ho, rfl⟩ F.entry_tuple_mul (F.args_tuple_mul_2 _ _) (tuple_mulW l its.toArray n dd sl k t c0 c1 c2 (by omega) c4 (by rw [size_rep, List.size_toArray]; exact flen)) ⟨ho, ?_⟩⟩)
  rw [size_rep]
  obtain ⟨u, hu, I2⟩ := I.laidT (r.rep k.toNat) (by rw [PyProof.Rows.lm_len_rep_flat, sizeLine_eq]; have a1 : k.toNat * xs.length ≤ 1000 * 1000 := Nat.mul_le_mul (by omega) hz; omega)
  exact ⟨.ref s.heap.objs.size, _, I2, rfl, q _ u hu (I.hok.fresh (Nat.le_refl _))⟩
end L2

set_option Elab.async false
set_option linter.all false
set_option maxRecDepth 100000
set_option maxHeartbeats 4000000
/-! DLA: data as trees, slots that hold frozen or owned data, how they lie in the layer's heap. -/
namespace DL
open PySem L2

/-- data as a tree -/
inductive Dv where
  | non | bl (b : Bool) | int (i : Int) | str (s : Str)
  | tup (xs : List Dv) | lst (xs : List Dv) | dic (ks : List Key) (vs : List Dv)
  | scr (ns : List Int) | ty (n : String)
  deriving Inhabited

mutual
def Rep (K : PySem.W.Frag) (F : Hp) : Dv → V → Prop
  | .non, x => x = .non
  | .bl b, x => x = .bl b
  | .int i, x => x = .int i
  | .str s, x => x = .str s
  | .tup ds, x => ∃ a vs, x = .ref a ∧ SqD K F a vs ∧ Reps K F ds vs
  | .lst ds, x => ∃ a vs, x = .ref a ∧ F a = some (.lst vs) ∧ Reps K F ds vs
  | .dic ks ds, x => ∃ a vs, x = .ref a ∧ F a = some (.dK (ks.zip vs)) ∧ ks.length = vs.length ∧ Reps K F ds vs
  | .scr ns, x => ∃ a, x = .ref a ∧ SqL K F a (ns.map V.int)
  | .ty n, x => x = .ty n
def Reps (K : PySem.W.Frag) (F : Hp) : List Dv → List V → Prop
  | [], vs => vs = []
  | d :: ds, vs => ∃ v r, vs = v :: r ∧ Rep K F d v ∧ Reps K F ds r
end

def Ex (H H' : Hp) : Prop := ∀ a o, H a = some o → H' a = some o
theorem Ex.refl (H : Hp) : Ex H H := fun _ _ h => h
theorem Ex.trans {H H1 H2 : Hp} (a : Ex H H1) (b : Ex H1 H2) : Ex H H2 := fun x o h => b x o (a x o h)
theorem Ex.new {H : Hp} {p : Addr} {o : HO} (h : H p = none) : Ex H (upd H p o) := fun a u e => by
  rw [upd_ne (ne_of_none e h)]
  exact e
theorem Ex.free {H H' : Hp} (e : Ex H H') {p : Addr} (h : H' p = none) : H p = none := by
  cases q : H p with
  | none => rfl
  | some o => rw [e p o q] at h; cases h
theorem Ex.mut {H H' : Hp} {p : Addr} {o : HO} (e : Ex H H') (h : H p = none) : Ex H (upd H' p o) := fun a u ha => by
  rw [upd_ne (ne_of_none ha h)]
  exact e a u ha
theorem Ex.both {H H' : Hp} {p : Addr} {o : HO} (e : Ex H H') (h : H' p = none) : Ex (upd H p o) (upd H' p o) := fun a u ha => by
  by_cases q : a = p
  · subst q; rw [upd_same] at ha ⊢; exact ha
  · rw [upd_ne q] at ha ⊢; exact e a u ha
theorem ex_tt {K : PySem.W.Frag} {H H' : Hp} {a : Addr} {xs : List V} (e : Ex H H') (h : SqT K H a xs) : SqT K H' a xs := by
  rcases h with (h | ⟨o, h⟩) | h
  · exact Or.inl (.inl (e _ _ h))
  · exact Or.inl (.inr ⟨o, e _ _ h⟩)
  · exact Or.inr h
theorem ex_d {K : PySem.W.Frag} {H H' : Hp} {a : Addr} {xs : List V} (e : Ex H H') (h : SqD K H a xs) : SqD K H' a xs := by
  rcases h with ⟨u, h, z⟩ | h
  · exact .inl ⟨u, e _ _ h, z⟩
  · exact .inr h
theorem ex_t {K : PySem.W.Frag} {H H' : Hp} {a : Addr} {xs : List V} (e : Ex H H') (h : SqD K H a xs) : SqT K H' a xs := ex_tt e h.t
theorem ex_l {K : PySem.W.Frag} {H H' : Hp} {a : Addr} {xs : List V} (e : Ex H H') (h : SqL K H a xs) : SqL K H' a xs := by
  rcases h with (h | ⟨o, h⟩) | h
  · exact Or.inl (.inl (e _ _ h))
  · exact Or.inl (.inr ⟨o, e _ _ h⟩)
  · exact Or.inr h

section
variable {K : PySem.W.Frag} {F F' : Hp}
mutual
theorem Rep.mono (e : Ex F F') : ∀ {d : Dv} {x : V}, Rep K F d x → Rep K F' d x
  | .non, _, h => h
  | .bl _, _, h => h
  | .int _, _, h => h
  | .str _, _, h => h
  | .ty _, _, h => h
  | .tup _, _, h => by
    obtain ⟨a, vs, h1, h2, h3⟩ := h
    exact ⟨a, vs, h1, ex_d e h2, Reps.mono e h3⟩
  | .lst _, _, h => by
    obtain ⟨a, vs, h1, h2, h3⟩ := h
    exact ⟨a, vs, h1, e _ _ h2, Reps.mono e h3⟩
  | .dic _ _, _, h => by
    obtain ⟨a, vs, h1, h2, h4, h3⟩ := h
    exact ⟨a, vs, h1, e _ _ h2, h4, Reps.mono e h3⟩
  | .scr _, _, h => by
    obtain ⟨a, h1, h2⟩ := h
    exact ⟨a, h1, ex_l e h2⟩
theorem Reps.mono (e : Ex F F') : ∀ {ds : List Dv} {xs : List V}, Reps K F ds xs → Reps K F' ds xs
  | [], _, h => h
  | _ :: _, _, h => by
    obtain ⟨v, r, h1, h2, h3⟩ := h
    exact ⟨v, r, h1, Rep.mono e h2, Reps.mono e h3⟩
end
theorem Reps.nil : Reps K F [] [] := rfl
theorem Reps.cons {d : Dv} {ds : List Dv} {v : V} {vs : List V} (h : Rep K F d v) (t : Reps K F ds vs) : Reps K F (d :: ds) (v :: vs) := ⟨v, vs, rfl, h, t⟩
theorem Reps.length : ∀ {ds : List Dv} {vs : List V}, Reps K F ds vs → ds.length = vs.length
  | [], _, h => by rw [show _ = [] from h]; rfl
  | _ :: _, _, h => by
    obtain ⟨v, r, h1, h2, h3⟩ := h
    rw [h1, List.length_cons, List.length_cons, Reps.length h3]
theorem Reps.append : ∀ {ds es : List Dv} {vs ws : List V}, Reps K F ds vs → Reps K F es ws → Reps K F (ds ++ es) (vs ++ ws)
  | [], _, _, _, h, k => by rw [show _ = [] from h]; exact k
  | _ :: _, _, _, _, h, k => by
    obtain ⟨v, r, h1, h2, h3⟩ := h
    subst h1
    exact ⟨v, _, rfl, h2, Reps.append h3 k⟩
theorem Reps.get : ∀ {ds : List Dv} {vs : List V} {i : Nat} {d : Dv}, Reps K F ds vs → ds[i]? = some d → ∃ v, vs[i]? = some v ∧ Rep K F d v
  | [], _, _, _, _, e => by simp at e
  | _ :: _, _, 0, _, h, e => by
    obtain ⟨v, r, h1, h2, h3⟩ := h
    simp at e; subst e; subst h1
    exact ⟨v, rfl, h2⟩
  | _ :: _, _, i + 1, _, h, e => by
    obtain ⟨v, r, h1, h2, h3⟩ := h
    subst h1
    obtain ⟨w, q1, q2⟩ := Reps.get (i := i) h3 (by simpa using e)
    exact ⟨w, by simpa using q1, q2⟩
theorem Reps.getv : ∀ {ds : List Dv} {vs : List V} {i : Nat} {v : V}, Reps K F ds vs → vs[i]? = some v → ∃ d, ds[i]? = some d ∧ Rep K F d v := by
  intro ds vs i v h e
  have hl := Reps.length h
  have hi : i < ds.length := by
    rw [hl]; exact (List.getElem?_eq_some_iff.mp e).1
  obtain ⟨w, q1, q2⟩ := Reps.get h (List.getElem?_eq_getElem hi)
  rw [e] at q1; cases q1
  exact ⟨_, List.getElem?_eq_getElem hi, q2⟩
theorem Reps.take : ∀ {ds : List Dv} {vs : List V} (n : Nat), Reps K F ds vs → Reps K F (ds.take n) (vs.take n)
  | _, _, 0, _ => rfl
  | [], _, n + 1, h => by rw [show _ = [] from h]; rfl
  | _ :: _, _, n + 1, h => by
    obtain ⟨v, r, h1, h2, h3⟩ := h
    subst h1
    exact ⟨v, _, rfl, h2, Reps.take n h3⟩
theorem Reps.drop : ∀ {ds : List Dv} {vs : List V} (n : Nat), Reps K F ds vs → Reps K F (ds.drop n) (vs.drop n)
  | _, _, 0, h => h
  | [], _, n + 1, h => by rw [show _ = [] from h]; rfl
  | _ :: _, _, n + 1, h => by
    obtain ⟨v, r, h1, h2, h3⟩ := h
    subst h1
    exact Reps.drop n h3
theorem Reps.set : ∀ {ds : List Dv} {vs : List V} {d : Dv} {v : V} (i : Nat), Reps K F ds vs → Rep K F d v → Reps K F (ds.set i d) (vs.set i v)
  | [], _, _, _, _, h, _ => by rw [show _ = [] from h]; rfl
  | _ :: _, _, _, _, 0, h, k => by
    obtain ⟨v, r, h1, h2, h3⟩ := h
    subst h1
    exact ⟨_, _, rfl, k, h3⟩
  | _ :: _, _, _, _, i + 1, h, k => by
    obtain ⟨v, r, h1, h2, h3⟩ := h
    subst h1
    exact ⟨_, _, rfl, h2, Reps.set i h3 k⟩
theorem Reps.eraseIdx : ∀ {ds : List Dv} {vs : List V} (i : Nat), Reps K F ds vs → Reps K F (ds.eraseIdx i) (vs.eraseIdx i)
  | [], _, _, h => by rw [show _ = [] from h]; rfl
  | _ :: _, _, 0, h => by
    obtain ⟨v, r, h1, h2, h3⟩ := h
    subst h1
    exact h3
  | _ :: _, _, i + 1, h => by
    obtain ⟨v, r, h1, h2, h3⟩ := h
    subst h1
    exact ⟨_, _, rfl, h2, Reps.eraseIdx i h3⟩
theorem Reps.reverse : ∀ {ds : List Dv} {vs : List V}, Reps K F ds vs → Reps K F ds.reverse vs.reverse
  | [], _, h => by rw [show _ = [] from h]; rfl
  | _ :: _, _, h => by
    obtain ⟨v, r, h1, h2, h3⟩ := h
    subst h1
    rw [List.reverse_cons, List.reverse_cons]
    exact (Reps.reverse h3).append (Reps.cons h2 Reps.nil)
theorem Reps.dropLast {ds : List Dv} {vs : List V} (h : Reps K F ds vs) : Reps K F ds.dropLast vs.dropLast := by
  rw [List.dropLast_eq_take, List.dropLast_eq_take, Reps.length h]
  exact Reps.take _ h
theorem Reps.ints : ∀ (ns : List Int) {vs : List V}, Reps K F (ns.map Dv.int) vs ↔ vs = ns.map V.int
  | [], vs => Iff.rfl
  | n :: ns, vs => by
    constructor
    · rintro ⟨v, r, h1, h2, h3⟩
      rw [h1, show v = V.int n from h2, (Reps.ints ns).mp h3]; rfl
    · rintro rfl
      exact ⟨_, _, rfl, rfl, (Reps.ints ns).mpr rfl⟩
end

def DealOk (cs : List Int) (b : Int) : Prop := (∀ c ∈ cs, 0 ≤ c) ∧ cs.length ≤ 1000 ∧ 0 ≤ b ∧ b < 2147483647
/-- the source of draws -/
structure Deal where
  cs : List Int
  b : Int
  ok : DealOk cs b
instance : Inhabited Deal := ⟨⟨[], 0, fun _ h => (nomatch h), Nat.zero_le _, Int.le_refl _, by decide⟩⟩
/-- what a slot holds: frozen data; an owned list, dict; the source of draws; (of a result) the object of slot k -/
inductive Sl where
  | fz (d : Dv) | ml (xs : List Dv) | md (ks : List Key) (vs : List Dv) | deal (d : Deal) | al (k : Nat)

inductive Cn where
  | v (x : V) | l (p : Addr) | d2 (p q : Addr)
def Cn.val : Cn → V | .v x => x | .l p => .ref p | .d2 p _ => .ref p
def Cn.feet : Cn → List Addr | .v _ => [] | .l p => [p] | .d2 p q => [p, q]

def Holds (K : PySem.W.Frag) (σ : St) (F H : Hp) : Sl → Cn → Prop
  | .fz d, .v x => Rep K F d x
  | .ml ds, .l p => ∃ xs, H p = some (.lst xs) ∧ Reps K F ds xs
  | .md ks ds, .l p => ∃ xs, H p = some (.dK (ks.zip xs)) ∧ ks.length = xs.length ∧ Reps K F ds xs
  | .deal d, .d2 p q => p ≠ q ∧ H p = some (.lst [.ref q, .int d.b]) ∧ H q = some (.lst (d.cs.map V.int))
  | .al k, .v x => σ[k]? = some (some x)
  | _, _ => False

abbrev DS := List (Option Sl)
structure Ctx where
  F : Hp
  R : Hp
  P : List (Nat × V)

def getX (δ : DS) (ss : List Sl) : Nat ⊕ Nat → Option Sl
  | .inl i => (δ[i]?).join
  | .inr j => ss[j]?
def valX (σ : St) (vs : List V) : Nat ⊕ Nat → Option V
  | .inl i => (σ[i]?).join
  | .inr j => vs[j]?
def Sl.slot : Sl → Prop
  | .al _ => False
  | _ => True

structure SimW (K : PySem.W.Frag) (c : Ctx) (σ : St) (H : Hp) (δ : DS) (vs : List V) (ss : List Sl) (F : Hp) (cs : Nat ⊕ Nat → Cn) : Prop where
  fF : Ex c.F F
  FH : Ex F H
  RH : Ex c.R H
  FR : ∀ a o, F a = some o → c.R a = none
  len : σ.length = δ.length
  rlen : vs.length = ss.length
  pin : ∀ p ∈ c.P, σ[p.1]? = some (some p.2)
  noal : ∀ (i : Nat) (s : Sl), δ[i]? = some (some s) → s.slot
  here : ∀ (x : Nat ⊕ Nat) (s : Sl), getX δ ss x = some s → valX σ vs x = some (cs x).val ∧ Holds K σ F H s (cs x) ∧ ∀ a ∈ (cs x).feet, F a = none ∧ c.R a = none
  apart : ∀ (x y : Nat ⊕ Nat) (s t : Sl), x ≠ y → getX δ ss x = some s → getX δ ss y = some t → ∀ a ∈ (cs x).feet, a ∉ (cs y).feet
def Sim (K : PySem.W.Frag) (c : Ctx) (σ : St) (H : Hp) (δ : DS) (vs : List V) (ss : List Sl) : Prop := ∃ F cs, SimW K c σ H δ vs ss F cs

/-- a wider context -/
structure Ctx.le (c c' : Ctx) : Prop where
  F : Ex c.F c'.F
  R : Ex c.R c'.R
  P : c.P = c'.P
theorem Ex.non {H H' : Hp} (e : Ex H H') {a : Addr} (h : H' a = none) : H a = none := e.free h
section
variable {K : PySem.W.Frag} {c c' : Ctx} {σ : St} {H H' : Hp} {δ : DS} {vs : List V} {ss : List Sl} {F F' : Hp} {cs : Nat ⊕ Nat → Cn}
theorem SimW.weak (S : SimW K c' σ H δ vs ss F cs) (l : c.le c') : SimW K c σ H δ vs ss F cs :=
  ⟨l.F.trans S.fF, S.FH, l.R.trans S.RH, fun a o e => l.R.free (S.FR a o e), S.len, S.rlen, fun p hp => S.pin p (l.P ▸ hp), S.noal,
    fun x s e => let ⟨h1, h2, h3⟩ := S.here x s e; ⟨h1, h2, fun a ha => ⟨(h3 a ha).1, l.R.free (h3 a ha).2⟩⟩, S.apart⟩
theorem Sim.weak (S : Sim K c' σ H δ vs ss) (l : c.le c') : Sim K c σ H δ vs ss := let ⟨F, cs, S⟩ := S; ⟨F, cs, S.weak l⟩
/-- the frozen part is known from now on -/
theorem SimW.know (S : SimW K c σ H δ vs ss F cs) : SimW K ⟨F, c.R, c.P⟩ σ H δ vs ss F cs :=
  ⟨Ex.refl _, S.FH, S.RH, S.FR, S.len, S.rlen, S.pin, S.noal, S.here, S.apart⟩
theorem SimW.know_le (S : SimW K c σ H δ vs ss F cs) : c.le ⟨F, c.R, c.P⟩ := ⟨S.fF, Ex.refl _, rfl⟩
theorem getX_nil {x : Nat ⊕ Nat} {s : Sl} (h : getX δ [] x = some s) : ∃ i, x = .inl i ∧ δ[i]? = some (some s) := by
  cases x with
  | inl i =>
    refine ⟨i, rfl, ?_⟩
    have h' : (δ[i]?).join = some s := h
    cases q : δ[i]? with
    | none => rw [q] at h'; cases h'
    | some o => rw [q] at h'; exact congrArg some h'
  | inr j => exact absurd (show ([] : List Sl)[j]? = some s from h) (by simp)
theorem getX_inl {i : Nat} {s : Sl} : getX δ ss (.inl i) = some s ↔ δ[i]? = some (some s) := by
  show (δ[i]?).join = some s ↔ _
  cases q : δ[i]? with
  | none => simp
  | some o => simp
theorem valX_inl {i : Nat} {v : V} : valX σ vs (.inl i) = some v ↔ σ[i]? = some (some v) := by
  show (σ[i]?).join = some v ↔ _
  cases q : σ[i]? with
  | none => simp
  | some o => simp
/-- the results dropped -/
theorem SimW.bare (S : SimW K c σ H δ vs ss F cs) : SimW K c σ H δ [] [] F cs :=
  ⟨S.fF, S.FH, S.RH, S.FR, S.len, rfl, S.pin, S.noal, fun x s e => by
    obtain ⟨i, hx, e'⟩ := getX_nil e
    subst hx
    have := S.here (.inl i) s (getX_inl.mpr e')
    exact this, fun x y s t ne e1 e2 => by
    obtain ⟨i, hx, e1'⟩ := getX_nil e1
    obtain ⟨j, hy, e2'⟩ := getX_nil e2
    subst hx hy
    exact S.apart _ _ s t ne (getX_inl.mpr e1') (getX_inl.mpr e2')⟩
theorem Sim.bare (S : Sim K c σ H δ vs ss) : Sim K c σ H δ [] [] := let ⟨F, cs, S⟩ := S; ⟨F, cs, S.bare⟩
theorem SimW.at (S : SimW K c σ H δ vs ss F cs) {i : Nat} {s : Sl} (e : δ[i]? = some (some s)) : σ[i]? = some (some (cs (.inl i)).val) ∧ Holds K σ F H s (cs (.inl i)) ∧ ∀ a ∈ (cs (.inl i)).feet, F a = none ∧ c.R a = none := by
  obtain ⟨h1, h2, h3⟩ := S.here (.inl i) s (getX_inl.mpr e)
  exact ⟨valX_inl.mp h1, h2, h3⟩
/-- every foot stands in the heap -/
theorem Holds.foot {s : Sl} {n : Cn} (h : Holds K σ F H s n) : ∀ a ∈ n.feet, ∃ o, H a = some o := by
  cases s with
  | fz d => cases n with
    | v x => intro a ha; exact absurd ha (by simp [Cn.feet])
    | _ => exact h.elim
  | ml ds => cases n with
    | l p =>
      obtain ⟨xs, h1, _⟩ := h
      intro a ha
      have : a = p := by simpa [Cn.feet] using ha
      subst this
      exact ⟨_, h1⟩
    | _ => exact h.elim
  | md ks ds => cases n with
    | l p =>
      obtain ⟨xs, h1, _⟩ := h
      intro a ha
      have : a = p := by simpa [Cn.feet] using ha
      subst this
      exact ⟨_, h1⟩
    | _ => exact h.elim
  | deal => cases n with
    | d2 p q =>
      obtain ⟨_, h1, h2⟩ := h
      intro a ha
      have : a = p ∨ a = q := by simpa [Cn.feet] using ha
      rcases this with rfl | rfl
      · exact ⟨_, h1⟩
      · exact ⟨_, h2⟩
    | _ => exact h.elim
  | al k => cases n with
    | v x => intro a ha; exact absurd ha (by simp [Cn.feet])
    | _ => exact h.elim
/-- what is held stays held where its feet stand as before -/
theorem Holds.stay {s : Sl} {n : Cn} (h : Holds K σ F H s n) (e : Ex F F') (k : ∀ a ∈ n.feet, H' a = H a) : Holds K σ F' H' s n := by
  cases s with
  | fz d => cases n with
    | v x => exact Rep.mono e h
    | _ => exact h.elim
  | ml ds => cases n with
    | l p =>
      obtain ⟨xs, h1, h2⟩ := h
      exact ⟨xs, (k p (by simp [Cn.feet])).trans h1, Reps.mono e h2⟩
    | _ => exact h.elim
  | md ks ds => cases n with
    | l p =>
      obtain ⟨xs, h1, h3, h2⟩ := h
      exact ⟨xs, (k p (by simp [Cn.feet])).trans h1, h3, Reps.mono e h2⟩
    | _ => exact h.elim
  | deal => cases n with
    | d2 p q =>
      obtain ⟨ne, h1, h2⟩ := h
      exact ⟨ne, (k p (by simp [Cn.feet])).trans h1, (k q (by simp [Cn.feet])).trans h2⟩
    | _ => exact h.elim
  | al j => cases n with
    | v x => exact h
    | _ => exact h.elim
end
end DL

set_option Elab.async false
set_option linter.all false
set_option maxRecDepth 100000
set_option maxHeartbeats 4000000
/-! DLB: results held, laid, frozen, stored; lists changed. -/
namespace DL
open PySem L2
open Classical in
/-- results are held while something else is evaluated -/
theorem SimW.hold {K : PySem.W.Frag} {c : Ctx} {σ : St} {H : Hp} {δ : DS} {vs : List V} {ss : List Sl} {F : Hp} {cs : Nat ⊕ Nat → Cn} (S : SimW K c σ H δ vs ss F cs) :
    ∃ c' : Ctx, c.le c' ∧ c'.F = F ∧ SimW K c' σ H δ [] [] F cs ∧ ∀ {H2 : Hp} {δ2 : DS} {vs2 : List V} {ss2 : List Sl}, Sim K c' σ H2 δ2 vs2 ss2 → Sim K c σ H2 δ2 (vs ++ vs2) (ss ++ ss2) := by
  let P : Addr → Prop := fun a => ∃ j s, ss[j]? = some s ∧ a ∈ (cs (.inr j)).feet
  let R : Hp := fun a => if P a then H a else c.R a
  have foot : ∀ a, P a → ∃ o, H a = some o := fun a ⟨j, s, e, ha⟩ => (S.here (.inr j) s e).2.1.foot a ha
  have Rin : ∀ {a}, P a → R a = H a := fun {a} h => if_pos h
  have Rout : ∀ {a}, ¬ P a → R a = c.R a := fun {a} h => if_neg h
  have cR : ∀ a, P a → c.R a = none ∧ F a = none := fun a ⟨j, s, e, ha⟩ => let ⟨q1, q2⟩ := (S.here (.inr j) s e).2.2 a ha; ⟨q2, q1⟩
  have leR : Ex c.R R := fun a o e => by
    by_cases h : P a
    · rw [(cR a h).1] at e; cases e
    · rw [Rout h]; exact e
  refine ⟨⟨F, R, c.P⟩, ⟨S.fF, leR, rfl⟩, rfl, ⟨Ex.refl _, S.FH, fun a o e => ?_, fun a o e => ?_, S.len, rfl, S.pin, S.noal, fun x s e => ?_, fun x y s t ne e1 e2 => ?_⟩, ?_⟩
  · by_cases h : P a
    · rw [← Rin h]; exact e
    · have e' : R a = some o := e
      rw [Rout h] at e'; exact S.RH _ _ e'
  · have h : ¬ P a := fun h => by rw [(cR a h).2] at e; cases e
    show R a = none
    rw [Rout h]; exact S.FR a o e
  · obtain ⟨i, hx, e'⟩ := getX_nil e
    subst hx
    have e2 := getX_inl (ss := ss).mpr e'
    obtain ⟨h1, h2, h3⟩ := S.here (.inl i) s e2
    refine ⟨h1, h2, fun a ha => ⟨(h3 a ha).1, ?_⟩⟩
    have h : ¬ P a := fun ⟨j, t, e3, hb⟩ => S.apart (.inl i) (.inr j) s t (by intro q; cases q) e2 e3 a ha hb
    show R a = none
    rw [Rout h]; exact (h3 a ha).2
  · obtain ⟨i, hx, e1'⟩ := getX_nil e1
    obtain ⟨j, hy, e2'⟩ := getX_nil e2
    subst hx hy
    exact S.apart _ _ s t ne (getX_inl.mpr e1') (getX_inl.mpr e2')
  · rintro H2 δ2 vs2 ss2 ⟨F2, cs2, T⟩
    have TF : Ex F F2 := T.fF
    have TR : Ex R H2 := T.RH
    have keepH : ∀ a, P a → H2 a = H a := fun a h => by
      obtain ⟨o, e⟩ := foot a h
      rw [e]; exact TR a o ((Rin h).trans e)
    have keepF : ∀ a, P a → F2 a = none := fun a h => by
      obtain ⟨o, e⟩ := foot a h
      cases q : F2 a with
      | none => rfl
      | some u =>
        have this : R a = none := T.FR a u q
        rw [show R a = some o from (Rin h).trans e] at this; cases this
    let cc : Nat ⊕ Nat → Cn := fun x => match x with
      | .inl i => cs2 (.inl i)
      | .inr j => if j < ss.length then cs (.inr j) else cs2 (.inr (j - ss.length))
    have getr : ∀ j s, (ss ++ ss2)[j]? = some s → (j < ss.length ∧ ss[j]? = some s ∧ cc (.inr j) = cs (.inr j)) ∨ (ss.length ≤ j ∧ ss2[j - ss.length]? = some s ∧ cc (.inr j) = cs2 (.inr (j - ss.length))) := fun j s e => by
      by_cases h : j < ss.length
      · rw [List.getElem?_append_left h] at e
        exact .inl ⟨h, e, if_pos h⟩
      · rw [List.getElem?_append_right (by omega)] at e
        exact .inr ⟨by omega, e, if_neg h⟩
    refine ⟨F2, cc, ⟨S.fF.trans TF, T.FH, leR.trans T.RH, fun a o e => leR.free (T.FR a o e), T.len, by rw [List.length_append, List.length_append, S.rlen, T.rlen], T.pin, T.noal, fun x s e => ?_, fun x y s t ne e1 e2 => ?_⟩⟩
    · cases x with
      | inl i =>
        have e' := getX_inl.mp e
        obtain ⟨h1, h2, h3⟩ := T.here (.inl i) s (getX_inl.mpr e')
        exact ⟨h1, h2, fun a ha => ⟨(h3 a ha).1, leR.free (h3 a ha).2⟩⟩
      | inr j =>
        rcases getr j s e with ⟨hj, e1, ec⟩ | ⟨hj, e1, ec⟩
        · obtain ⟨h1, h2, h3⟩ := S.here (.inr j) s e1
          rw [ec]
          refine ⟨?_, h2.stay TF fun a ha => keepH a ⟨j, s, e1, ha⟩, fun a ha => ⟨keepF a ⟨j, s, e1, ha⟩, (h3 a ha).2⟩⟩
          show (vs ++ vs2)[j]? = _
          rw [List.getElem?_append_left (by rw [S.rlen]; exact hj)]
          exact h1
        · obtain ⟨h1, h2, h3⟩ := T.here (.inr (j - ss.length)) s e1
          rw [ec]
          refine ⟨?_, h2, fun a ha => ⟨(h3 a ha).1, leR.free (h3 a ha).2⟩⟩
          show (vs ++ vs2)[j]? = _
          rw [List.getElem?_append_right (by rw [S.rlen]; exact hj), S.rlen]
          exact h1
    · have mix : ∀ (i : Nat ⊕ Nat) (s : Sl) (j : Nat) (t : Sl), getX δ2 ss2 i = some s → ss[j]? = some t → ∀ a ∈ (cs2 i).feet, a ∉ (cs (.inr j)).feet := fun i s j t e1 e2 a ha hb => by
        have q := (T.here i s e1).2.2 a ha
        obtain ⟨o, e⟩ := foot a ⟨j, t, e2, hb⟩
        have : R a = none := q.2
        rw [Rin ⟨j, t, e2, hb⟩, e] at this; cases this
      cases x with
      | inl i =>
        have f1 : getX δ2 ss2 (.inl i) = some s := getX_inl.mpr (getX_inl.mp e1)
        cases y with
        | inl j => exact T.apart _ _ s t ne f1 (getX_inl.mpr (getX_inl.mp e2))
        | inr j =>
          rcases getr j t e2 with ⟨hj, e3, ec⟩ | ⟨hj, e3, ec⟩
          · rw [ec]; exact mix _ s j t f1 e3
          · rw [ec]; exact T.apart (.inl i) (.inr (j - ss.length)) s t (by intro q; cases q) f1 e3
      | inr i =>
        rcases getr i s e1 with ⟨hi, e3, ec⟩ | ⟨hi, e3, ec⟩
        · rw [ec]
          cases y with
          | inl j => exact fun a ha hb => mix _ t i s (getX_inl.mpr (getX_inl.mp e2)) e3 a hb ha
          | inr j =>
            rcases getr j t e2 with ⟨hj, e4, ed⟩ | ⟨hj, e4, ed⟩
            · rw [ed]; exact S.apart (.inr i) (.inr j) s t ne e3 e4
            · rw [ed]; exact fun a ha hb => mix (.inr (j - ss.length)) t i s e4 e3 a hb ha
        · rw [ec]
          cases y with
          | inl j => exact T.apart (.inr (i - ss.length)) (.inl j) s t (by intro q; cases q) e3 (getX_inl.mpr (getX_inl.mp e2))
          | inr j =>
            rcases getr j t e2 with ⟨hj, e4, ed⟩ | ⟨hj, e4, ed⟩
            · rw [ed]; exact mix (.inr (i - ss.length)) s j t e3 e4
            · rw [ed]
              refine T.apart (.inr (i - ss.length)) (.inr (j - ss.length)) s t (fun q => ne ?_) e3 e4
              have := Sum.inr.inj q
              have : i = j := by omega
              rw [this]
section
variable {K : PySem.W.Frag} {c c' : Ctx} {σ : St} {H H' : Hp} {δ : DS} {vs : List V} {ss : List Sl} {F F' : Hp} {cs : Nat ⊕ Nat → Cn}
theorem Sim.hold (S : Sim K c σ H δ vs ss) : ∃ c' : Ctx, c.le c' ∧ Sim K c' σ H δ [] [] ∧ ∀ {H2 : Hp} {δ2 : DS} {vs2 : List V} {ss2 : List Sl}, Sim K c' σ H2 δ2 vs2 ss2 → Sim K c σ H2 δ2 (vs ++ vs2) (ss ++ ss2) := by
  obtain ⟨F, cs, S⟩ := S
  obtain ⟨c', l, _, T, h⟩ := S.hold
  exact ⟨c', l, ⟨F, cs, T⟩, h⟩
theorem getX_one {s : Sl} {x : Nat ⊕ Nat} {t : Sl} (h : getX δ [s] x = some t) : (∃ i, x = .inl i ∧ δ[i]? = some (some t)) ∨ (x = .inr 0 ∧ t = s) := by
  cases x with
  | inl i => exact .inl ⟨i, rfl, getX_inl.mp h⟩
  | inr j =>
    cases j with
    | zero => exact .inr ⟨rfl, by have : some s = some t := h; cases this; rfl⟩
    | succ j => exact absurd (show ([s] : List Sl)[j + 1]? = some t from h) (by simp)
/-- one result more, the heap wider, its feet new -/
theorem SimW.one (S : SimW K c σ H δ [] [] F cs) {z : V} {s : Sl} {n : Cn} (eF : Ex F F') (eFH : Ex F' H') (eH : Ex H H') (nf : ∀ a o, F' a = some o → c.R a = none) (hz : z = n.val) (hh : Holds K σ F' H' s n) (hn : ∀ a ∈ n.feet, F' a = none ∧ H a = none)
    (ff : ∀ i s, δ[i]? = some (some s) → ∀ a ∈ (cs (.inl i)).feet, F' a = none) : Sim K c σ H' δ [z] [s] := by
  let cc : Nat ⊕ Nat → Cn := fun x => match x with
    | .inl i => cs (.inl i)
    | .inr _ => n
  refine ⟨F', cc, ⟨S.fF.trans eF, eFH, S.RH.trans eH, nf, S.len, rfl, S.pin, S.noal, fun x t e => ?_, fun x y t u ne e1 e2 => ?_⟩⟩
  · rcases getX_one e with ⟨i, hx, e'⟩ | ⟨hx, ht⟩
    · subst hx
      obtain ⟨h1, h2, h3⟩ := S.at e'
      refine ⟨valX_inl.mpr h1, h2.stay eF fun a ha => ?_, fun a ha => ⟨ff i t e' a ha, (h3 a ha).2⟩⟩
      obtain ⟨o, q⟩ := h2.foot a ha
      rw [q]; exact eH _ _ q
    · subst hx ht
      exact ⟨congrArg some hz, hh, fun a ha => ⟨(hn a ha).1, S.RH.free (hn a ha).2⟩⟩
  · have mix : ∀ (i : Nat) (t : Sl), δ[i]? = some (some t) → ∀ a ∈ (cs (.inl i)).feet, a ∉ n.feet := fun i t e a ha hb => by
      obtain ⟨o, q⟩ := (S.at e).2.1.foot a ha
      rw [(hn a hb).2] at q; cases q
    rcases getX_one e1 with ⟨i, hx, e1'⟩ | ⟨hx, ht⟩
    · subst hx
      rcases getX_one e2 with ⟨j, hy, e2'⟩ | ⟨hy, hu⟩
      · subst hy
        exact S.apart _ _ t u ne (getX_inl.mpr e1') (getX_inl.mpr e2')
      · subst hy hu
        exact mix i t e1'
    · subst hx ht
      rcases getX_one e2 with ⟨j, hy, e2'⟩ | ⟨hy, hu⟩
      · subst hy
        exact fun a ha hb => mix j u e2' a hb ha
      · subst hy
        exact absurd rfl ne
theorem SimW.resFz (S : SimW K c σ H δ vs ss F cs) {d : Dv} {z : V} (h : Rep K F d z) : Sim K c σ H δ [z] [.fz d] :=
  S.bare.one (n := .v z) (Ex.refl _) S.FH (Ex.refl _) S.FR rfl h (fun a ha => absurd ha (by simp [Cn.feet])) fun i s e a ha => ((S.at e).2.2 a ha).1
theorem SimW.resL (S : SimW K c σ H δ vs ss F cs) {ds : List Dv} {xs : List V} {p : Addr} (hp : H p = none) (h : Reps K F ds xs) : Sim K c σ (upd H p (.lst xs)) δ [.ref p] [.ml ds] :=
  S.bare.one (n := .l p) (Ex.refl _) (S.FH.trans (Ex.new hp)) (Ex.new hp) S.FR rfl ⟨xs, upd_same, h⟩ (fun a ha => by
    have : a = p := by simpa [Cn.feet] using ha
    subst this
    exact ⟨S.FH.free hp, hp⟩) fun i s e a ha => ((S.at e).2.2 a ha).1
theorem SimW.resD (S : SimW K c σ H δ vs ss F cs) {ks : List Key} {ds : List Dv} {xs : List V} {p : Addr} (hp : H p = none) (hl : ks.length = xs.length) (h : Reps K F ds xs) : Sim K c σ (upd H p (.dK (ks.zip xs))) δ [.ref p] [.md ks ds] :=
  S.bare.one (n := .l p) (Ex.refl _) (S.FH.trans (Ex.new hp)) (Ex.new hp) S.FR rfl ⟨xs, upd_same, hl, h⟩ (fun a ha => by
    have : a = p := by simpa [Cn.feet] using ha
    subst this
    exact ⟨S.FH.free hp, hp⟩) fun i s e a ha => ((S.at e).2.2 a ha).1
/-- a new frozen object -/
theorem SimW.resN (S : SimW K c σ H δ vs ss F cs) {d : Dv} {o : HO} {z : V} {p : Addr} (hp : H p = none) (h : Rep K (upd F p o) d z) : Sim K c σ (upd H p o) δ [z] [.fz d] :=
  S.bare.one (n := .v z) (Ex.new (S.FH.free hp)) (S.FH.both hp) (Ex.new hp) (fun a u e => by
    by_cases q : a = p
    · subst q; exact S.RH.free hp
    · rw [upd_ne q] at e; exact S.FR a u e) rfl h (fun a ha => absurd ha (by simp [Cn.feet])) fun i s e a ha => by
    have q : a ≠ p := fun q => by
      subst q
      obtain ⟨o, z⟩ := (S.at e).2.1.foot a ha
      rw [hp] at z; cases z
    rw [upd_ne q]
    exact ((S.at e).2.2 a ha).1
theorem SimW.resT (S : SimW K c σ H δ vs ss F cs) {ds : List Dv} {xs : List V} {p : Addr} {u : HO} (hu : TupU u xs) (hp : H p = none) (h : Reps K F ds xs) : Sim K c σ (upd H p u) δ [.ref p] [.fz (.tup ds)] :=
  S.resN hp ⟨p, xs, rfl, .inl ⟨u, upd_same, hu⟩, Reps.mono (Ex.new (S.FH.free hp)) h⟩
/-- an alias of a slot -/
theorem SimW.resAl (S : SimW K c σ H δ vs ss F cs) {k : Nat} {z : V} (h : σ[k]? = some (some z)) : Sim K c σ H δ [z] [.al k] :=
  S.bare.one (n := .v z) (Ex.refl _) S.FH (Ex.refl _) S.FR rfl h (fun a ha => absurd ha (by simp [Cn.feet])) fun i s e a ha => ((S.at e).2.2 a ha).1

/-! ### a list of a slot changed -/
theorem SimW.mut (S : SimW K c σ H δ vs ss F cs) {k : Nat} {s t : Sl} {p : Addr} {o : HO} (e : δ[k]? = some (some s)) (hc : cs (.inl k) = .l p) (ht : t.slot) (h : Holds K σ F (upd H p o) t (.l p)) :
    SimW K c σ (upd H p o) (δ.set k (some t)) vs ss F cs := by
  obtain ⟨h1, h2, h3⟩ := S.at e
  rw [hc] at h1 h2 h3
  have hp := h3 p (by simp [Cn.feet])
  have hk : k < δ.length := (List.getElem?_eq_some_iff.mp e).1
  have get : ∀ i u, (δ.set k (some t))[i]? = some (some u) → (i = k ∧ u = t) ∨ (i ≠ k ∧ δ[i]? = some (some u)) := fun i u q => by
    by_cases hi : k = i
    · subst hi
      rw [List.getElem?_set_self hk] at q
      exact .inl ⟨rfl, by cases q; rfl⟩
    · rw [List.getElem?_set_ne hi] at q
      exact .inr ⟨fun z => hi z.symm, q⟩
  have apartk : ∀ (x : Nat ⊕ Nat) (u : Sl), x ≠ .inl k → getX δ ss x = some u → ∀ a ∈ (cs x).feet, a ≠ p := fun x u ne q a ha z => by
    subst z
    exact S.apart x (.inl k) u s ne q (getX_inl.mpr e) a ha (by rw [hc]; simp [Cn.feet])
  have getx : ∀ x u, getX (δ.set k (some t)) ss x = some u → (x = .inl k ∧ u = t) ∨ (x ≠ .inl k ∧ getX δ ss x = some u) := fun x u q => by
    cases x with
    | inl i =>
      rcases get i u (getX_inl.mp q) with ⟨rfl, rfl⟩ | ⟨ne, q'⟩
      · exact .inl ⟨rfl, rfl⟩
      · exact .inr ⟨fun z => ne (Sum.inl.inj z), getX_inl.mpr q'⟩
    | inr j => exact .inr ⟨(fun z => nomatch z), q⟩
  refine ⟨S.fF, S.FH.mut hp.1, S.RH.mut hp.2, S.FR, by rw [List.length_set]; exact S.len, S.rlen, S.pin, fun i u q => ?_, fun x u q => ?_, fun x y u w ne e1 e2 => ?_⟩
  · rcases get i u q with ⟨rfl, rfl⟩ | ⟨_, q'⟩
    · exact ht
    · exact S.noal i u q'
  · rcases getx x u q with ⟨rfl, rfl⟩ | ⟨ne, q'⟩
    · rw [hc]
      exact ⟨valX_inl.mpr h1, h, fun a ha => by
        have : a = p := by simpa [Cn.feet] using ha
        subst this; exact hp⟩
    · obtain ⟨k1, k2, k3⟩ := S.here x u q'
      exact ⟨k1, k2.stay (Ex.refl _) fun a ha => upd_ne (apartk x u ne q' a ha), k3⟩
  · rcases getx x u e1 with ⟨rfl, rfl⟩ | ⟨n1, q1⟩
    · rcases getx y w e2 with ⟨rfl, rfl⟩ | ⟨n2, q2⟩
      · exact absurd rfl ne
      · exact S.apart _ _ s w ne (getX_inl.mpr e) q2
    · rcases getx y w e2 with ⟨rfl, rfl⟩ | ⟨n2, q2⟩
      · exact S.apart _ _ u s ne q1 (getX_inl.mpr e)
      · exact S.apart _ _ u w ne q1 q2

/-- the first result goes into slot i -/
theorem SimW.set {v : V} {s : Sl} (S : SimW K c σ H δ (v :: vs) (s :: ss) F cs) {i : Nat} (hi : i < δ.length) (hs : s.slot) (hp : ∀ p ∈ c.P, p.1 ≠ i) (hr : ∀ t ∈ ss, t.slot) : Sim K c (σ.set i (some v)) H (δ.set i (some s)) vs ss := by
  let cc : Nat ⊕ Nat → Cn := fun x => match x with
    | .inl k => if k = i then cs (.inr 0) else cs (.inl k)
    | .inr j => cs (.inr (j + 1))
  have get : ∀ k u, (δ.set i (some s))[k]? = some (some u) → (k = i ∧ u = s) ∨ (k ≠ i ∧ δ[k]? = some (some u)) := fun k u q => by
    by_cases hk : i = k
    · subst hk
      rw [List.getElem?_set_self hi] at q
      exact .inl ⟨rfl, by cases q; rfl⟩
    · rw [List.getElem?_set_ne hk] at q
      exact .inr ⟨fun z => hk z.symm, q⟩
  have old : ∀ x u, getX (δ.set i (some s)) ss x = some u → ∃ y, getX δ (s :: ss) y = some u ∧ cc x = cs y ∧ ((x = .inl i ∧ y = .inr 0) ∨ (∃ k, k ≠ i ∧ x = .inl k ∧ y = .inl k) ∨ ∃ j, x = .inr j ∧ y = .inr (j + 1)) := fun x u q => by
    cases x with
    | inl k =>
      rcases get k u (getX_inl.mp q) with ⟨rfl, rfl⟩ | ⟨ne, q'⟩
      · exact ⟨.inr 0, rfl, if_pos rfl, .inl ⟨rfl, rfl⟩⟩
      · exact ⟨.inl k, getX_inl.mpr q', if_neg ne, .inr (.inl ⟨k, ne, rfl, rfl⟩)⟩
    | inr j => exact ⟨.inr (j + 1), q, rfl, .inr (.inr ⟨j, rfl, rfl⟩)⟩
  have stay : ∀ (u : Sl) (n : Cn), u.slot → Holds K σ F H u n → Holds K (σ.set i (some v)) F H u n := fun u n hu h => by
    cases u with
    | al k => exact hu.elim
    | _ => cases n <;> exact h
  have hil : i < σ.length := by rw [S.len]; exact hi
  refine ⟨F, cc, ⟨S.fF, S.FH, S.RH, S.FR, by rw [List.length_set, List.length_set]; exact S.len, by have := S.rlen; simpa using this, fun p hq => ?_, fun k u q => ?_, fun x u q => ?_, fun x y u w ne e1 e2 => ?_⟩⟩
  · rw [List.getElem?_set_ne (hp p hq).symm]; exact S.pin p hq
  · rcases get k u q with ⟨rfl, rfl⟩ | ⟨_, q'⟩
    · exact hs
    · exact S.noal k u q'
  · obtain ⟨y, q', ec, hxy⟩ := old x u q
    obtain ⟨h1, h2, h3⟩ := S.here y u q'
    rw [ec]
    have hu : u.slot := by
      rcases hxy with ⟨rfl, rfl⟩ | ⟨k, ne, rfl, rfl⟩ | ⟨j, rfl, rfl⟩
      · have : some s = some u := q'
        cases this; exact hs
      · exact S.noal k u (getX_inl.mp q')
      · exact hr u (List.mem_of_getElem? (show ss[j]? = some u from q'))
    refine ⟨?_, stay u _ hu h2, h3⟩
    rcases hxy with ⟨rfl, rfl⟩ | ⟨k, ne, rfl, rfl⟩ | ⟨j, rfl, rfl⟩
    · rw [valX_inl, List.getElem?_set_self hil]
      exact congrArg some h1
    · rw [valX_inl, List.getElem?_set_ne (Ne.symm ne)]
      exact valX_inl.mp h1
    · exact h1
  · obtain ⟨x', q1, ec1, hx⟩ := old x u e1
    obtain ⟨y', q2, ec2, hy⟩ := old y w e2
    rw [ec1, ec2]
    refine S.apart x' y' u w (fun z => ne ?_) q1 q2
    subst z
    rcases hx with ⟨rfl, h⟩ | ⟨k, hk, rfl, h⟩ | ⟨j, rfl, h⟩ <;> rcases hy with ⟨rfl, h'⟩ | ⟨k', hk', rfl, h'⟩ | ⟨j', rfl, h'⟩ <;> rw [h] at h' <;> cases h' <;> rfl
theorem Sim.set {v : V} {s : Sl} (S : Sim K c σ H δ (v :: vs) (s :: ss)) {i : Nat} (hi : i < δ.length) (hs : s.slot) (hp : ∀ p ∈ c.P, p.1 ≠ i) (hr : ∀ t ∈ ss, t.slot) : Sim K c (σ.set i (some v)) H (δ.set i (some s)) vs ss := by
  obtain ⟨F, cs, S⟩ := S
  exact S.set hi hs hp hr

/-! ### looking at data -/
def view (δ : DS) : Sl → Option Dv
  | .fz d => some d
  | .ml ds => some (.lst ds)
  | .md ks ds => some (.dic ks ds)
  | .deal _ => none
  | .al k => match δ[k]? with
    | some (some (.fz d)) => some d
    | some (some (.ml ds)) => some (.lst ds)
    | some (some (.md ks ds)) => some (.dic ks ds)
    | _ => none
/-- a value read as data, its top in H -/
def Look (K : PySem.W.Frag) (F H : Hp) : Dv → V → Prop
  | .lst ds, x => ∃ a xs, x = .ref a ∧ H a = some (.lst xs) ∧ Reps K F ds xs
  | .dic ks ds, x => ∃ a xs, x = .ref a ∧ H a = some (.dK (ks.zip xs)) ∧ ks.length = xs.length ∧ Reps K F ds xs
  | d, x => Rep K F d x
theorem Rep.look {d : Dv} {x : V} (h : Rep K F d x) (e : Ex F H) : Look K F H d x := by
  cases d with
  | lst ds => obtain ⟨a, xs, h1, h2, h3⟩ := h; exact ⟨a, xs, h1, e _ _ h2, h3⟩
  | dic ks ds => obtain ⟨a, xs, h1, h2, h4, h3⟩ := h; exact ⟨a, xs, h1, e _ _ h2, h4, h3⟩
  | _ => exact h
theorem Holds.look {s : Sl} {n : Cn} {d : Dv} (h : Holds K σ F H s n) (e : Ex F H) (hv : s.slot) (hd : view δ s = some d) : Look K F H d n.val := by
  cases s with
  | fz d' => cases n with
    | v x => cases hd; exact Rep.look h e
    | _ => exact h.elim
  | ml ds => cases n with
    | l p => cases hd; obtain ⟨xs, h1, h2⟩ := h; exact ⟨p, xs, rfl, h1, h2⟩
    | _ => exact h.elim
  | md ks ds => cases n with
    | l p => cases hd; obtain ⟨xs, h1, h3, h2⟩ := h; exact ⟨p, xs, rfl, h1, h3, h2⟩
    | _ => exact h.elim
  | deal => cases hd
  | al k => exact hv.elim
theorem view_al {k : Nat} {d : Dv} (h : view δ (.al k) = some d) : ∃ s : Sl, δ[k]? = some (some s) ∧ view δ s = some d ∧ s.slot := by
  simp only [view] at h
  split at h
  · rename_i d' e; exact ⟨.fz d', e, h, trivial⟩
  · rename_i ds e; exact ⟨.ml ds, e, h, trivial⟩
  · rename_i ks ds e; exact ⟨.md ks ds, e, h, trivial⟩
  · cases h
theorem SimW.look (S : SimW K c σ H δ vs ss F cs) {j : Nat} {s : Sl} {d : Dv} (e : ss[j]? = some s) (hd : view δ s = some d) : ∃ v, vs[j]? = some v ∧ Look K F H d v := by
  obtain ⟨h1, h2, _⟩ := S.here (.inr j) s e
  refine ⟨_, h1, ?_⟩
  by_cases hs : s.slot
  · exact h2.look S.FH hs hd
  · cases s with
    | al k =>
      obtain ⟨t, e1, e2, ht⟩ := view_al hd
      obtain ⟨k1, k2, _⟩ := S.at e1
      generalize hcr : cs (Sum.inr j) = n at h1 h2
      cases n with
      | v x =>
        have q : σ[k]? = some (some x) := h2
        rw [q] at k1
        have : x = (cs (.inl k)).val := by injection k1 with k1; injection k1
        show Look K F H d x
        rw [this]
        exact k2.look S.FH ht e2
      | _ => exact h2.elim
    | _ => exact absurd trivial hs

/-! ### freezing -/
def fzR : Sl → DS → Option (Dv × DS)
  | .fz d, δ => some (d, δ)
  | .ml ds, δ => some (.lst ds, δ)
  | .md ks ds, δ => some (.dic ks ds, δ)
  | .deal _, _ => none
  | .al k, δ => match δ[k]? with
    | some (some (.fz d)) => some (d, δ)
    | some (some (.ml ds)) => some (.lst ds, δ.set k (some (.fz (.lst ds))))
    | some (some (.md ks ds)) => some (.dic ks ds, δ.set k (some (.fz (.dic ks ds))))
    | _ => none
/-- what stands at x, a list or a dict of one's own, is frozen -/
theorem SimW.freeze (S : SimW K c σ H δ vs ss F cs) {x : Nat ⊕ Nat} {s : Sl} {d : Dv} {δ' : DS} {ss' : List Sl} (e : getX δ ss x = some s) (hd : (∃ ds, s = .ml ds ∧ d = .lst ds) ∨ ∃ ks ds, s = .md ks ds ∧ d = .dic ks ds)
    (hl : δ'.length = δ.length) (hrl : ss'.length = ss.length) (hx : getX δ' ss' x = some (.fz d)) (hy : ∀ y, y ≠ x → getX δ' ss' y = getX δ ss y) : Sim K c σ H δ' vs ss' := by
  obtain ⟨h1, h2, h3⟩ := S.here x s e
  obtain ⟨p, o, hc, hp, hn⟩ : ∃ p o, cs x = .l p ∧ H p = some o ∧ ∀ F' : Hp, F' p = some o → Ex F F' → Rep K F' d (.ref p) := by
    rcases hd with ⟨ds, rfl, rfl⟩ | ⟨ks, ds, rfl, rfl⟩
    · generalize hcr : cs x = n at h2
      cases n with
      | l p => obtain ⟨xs, q1, q2⟩ := h2; exact ⟨p, _, rfl, q1, fun F' z ex => ⟨p, xs, rfl, z, Reps.mono ex q2⟩⟩
      | _ => exact h2.elim
    · generalize hcr : cs x = n at h2
      cases n with
      | l p => obtain ⟨xs, q1, q3, q2⟩ := h2; exact ⟨p, _, rfl, q1, fun F' z ex => ⟨p, xs, rfl, z, q3, Reps.mono ex q2⟩⟩
      | _ => exact h2.elim
  rw [hc] at h1 h3
  have fp := h3 p (by simp [Cn.feet])
  have eF : Ex F (upd F p o) := Ex.new fp.1
  let cc : Nat ⊕ Nat → Cn := fun y => if y = x then .v (.ref p) else cs y
  refine ⟨upd F p o, cc, ⟨S.fF.trans eF, fun a u q => ?_, S.RH, fun a u q => ?_, by rw [hl]; exact S.len, by rw [hrl]; exact S.rlen, S.pin, fun i t q => ?_, fun y t q => ?_, fun y z t u ne e1 e2 => ?_⟩⟩
  · by_cases ha : a = p
    · subst ha; rw [upd_same] at q; rw [hp]; exact q
    · rw [upd_ne ha] at q; exact S.FH _ _ q
  · by_cases ha : a = p
    · subst ha; exact fp.2
    · rw [upd_ne ha] at q; exact S.FR _ _ q
  · have q' := getX_inl (ss := ss').mpr q
    by_cases hh : (Sum.inl i : Nat ⊕ Nat) = x
    · rw [hh, hx] at q'; cases q'; trivial
    · rw [hy _ hh] at q'; exact S.noal i t (getX_inl.mp q')
  · by_cases hh : y = x
    · subst hh
      rw [hx] at q; cases q
      rw [show cc y = .v (.ref p) from if_pos rfl]
      exact ⟨h1, hn _ upd_same eF, fun a ha => absurd ha (by simp [Cn.feet])⟩
    · rw [hy _ hh] at q
      rw [show cc y = cs y from if_neg hh]
      obtain ⟨k1, k2, k3⟩ := S.here y t q
      refine ⟨k1, k2.stay eF fun a ha => rfl, fun a ha => ⟨?_, (k3 a ha).2⟩⟩
      have ne : a ≠ p := fun z => by
        subst z
        exact S.apart y x t s hh q e a ha (by rw [hc]; simp [Cn.feet])
      rw [upd_ne ne]; exact (k3 a ha).1
  · by_cases hh : y = x
    · rw [show cc y = .v (.ref p) from if_pos hh]
      intro a ha; exact absurd ha (by simp [Cn.feet])
    · rw [hy _ hh] at e1
      rw [show cc y = cs y from if_neg hh]
      by_cases hz : z = x
      · rw [show cc z = .v (.ref p) from if_pos hz]
        intro a _ ha; exact absurd ha (by simp [Cn.feet])
      · rw [hy _ hz] at e2
        rw [show cc z = cs z from if_neg hz]
        exact S.apart y z t u ne e1 e2
theorem getX_set_r {j : Nat} {s : Sl} (h : j < ss.length) : getX δ (ss.set j s) (.inr j) = some s := List.getElem?_set_self h
theorem getX_set_ne {j : Nat} {s : Sl} {y : Nat ⊕ Nat} (h : y ≠ .inr j) : getX δ (ss.set j s) y = getX δ ss y := by
  cases y with
  | inl i => rfl
  | inr i => exact List.getElem?_set_ne fun z => h (by rw [z])
theorem SimW.fzAt (S : SimW K c σ H δ vs ss F cs) {j : Nat} {s : Sl} {d : Dv} {δ' : DS} (e : ss[j]? = some s) (h : fzR s δ = some (d, δ')) : Sim K c σ H δ' vs (ss.set j (.fz d)) := by
  have hj : j < ss.length := (List.getElem?_eq_some_iff.mp e).1
  cases s with
  | fz d' =>
    cases h
    rw [show ss.set j (.fz d) = ss from by
      apply List.ext_getElem?
      intro i
      by_cases h : j = i
      · subst h; rw [List.getElem?_set_self hj, e]
      · rw [List.getElem?_set_ne h]]
    exact ⟨F, cs, S⟩
  | ml ds =>
    cases h
    exact S.freeze (x := .inr j) e (.inl ⟨ds, rfl, rfl⟩) rfl (List.length_set) (getX_set_r hj) fun y hy => getX_set_ne hy
  | md ks ds =>
    cases h
    exact S.freeze (x := .inr j) e (.inr ⟨ks, ds, rfl, rfl⟩) rfl (List.length_set) (getX_set_r hj) fun y hy => getX_set_ne hy
  | deal => cases h
  | al k =>
    have step : ∀ {G : Hp} {ks : Nat ⊕ Nat → Cn} {δ1 : DS}, SimW K c σ H δ1 vs ss G ks → δ1[k]? = some (some (.fz d)) → Sim K c σ H δ1 vs (ss.set j (.fz d)) := fun {G ks δ1} T q => by
      obtain ⟨k1, k2, _⟩ := T.at q
      obtain ⟨r1, r2, r3⟩ := T.here (.inr j) (.al k) e
      generalize hcr : cs (Sum.inr j) = n at r1 r2
      let cc : Nat ⊕ Nat → Cn := fun y => ks y
      refine ⟨G, cc, ⟨T.fF, T.FH, T.RH, T.FR, T.len, by rw [List.length_set]; exact T.rlen, T.pin, T.noal, fun y t q2 => ?_, fun y z t u ne e1 e2 => ?_⟩⟩
      · by_cases hy : y = .inr j
        · subst hy
          rw [getX_set_r hj] at q2; cases q2
          refine ⟨r1, ?_, r3⟩
          show Holds K σ G H (.fz d) (ks (.inr j))
          generalize ks (Sum.inr j) = m at r2
          cases m with
          | v x =>
            have q3 : σ[k]? = some (some x) := r2
            rw [q3] at k1
            have ex : x = (ks (.inl k)).val := by injection k1 with k1; injection k1
            generalize ks (Sum.inl k) = m2 at k2 ex
            cases m2 with
            | v x2 => rw [show x = x2 from ex]; exact k2
            | _ => exact k2.elim
          | _ => exact r2.elim
        · rw [getX_set_ne hy] at q2
          exact T.here y t q2
      · have back : ∀ y t, getX δ1 (ss.set j (.fz d)) y = some t → ∃ t', getX δ1 ss y = some t' := fun y t q => by
          by_cases hy : y = .inr j
          · subst hy; exact ⟨_, e⟩
          · rw [getX_set_ne hy] at q; exact ⟨_, q⟩
        obtain ⟨t', f1⟩ := back y t e1
        obtain ⟨u', f2⟩ := back z u e2
        exact T.apart y z t' u' ne f1 f2
    simp only [fzR] at h
    split at h
    · rename_i d' q; cases h; exact step S q
    · rename_i ds q; cases h
      have hk : k < δ.length := (List.getElem?_eq_some_iff.mp q).1
      obtain ⟨G, ks, T⟩ := S.freeze (x := .inl k) (δ' := δ.set k (some (.fz (.lst ds)))) (ss' := ss) (getX_inl.mpr q) (.inl ⟨ds, rfl, rfl⟩) List.length_set rfl (getX_inl.mpr (List.getElem?_set_self hk)) fun y hy => by
        cases y with
        | inl i => show (_[i]?).join = _; rw [List.getElem?_set_ne fun z => hy (by rw [z])]; rfl
        | inr i => rfl
      exact step T (List.getElem?_set_self hk)
    · rename_i ks' ds q; cases h
      have hk : k < δ.length := (List.getElem?_eq_some_iff.mp q).1
      obtain ⟨G, ks, T⟩ := S.freeze (x := .inl k) (δ' := δ.set k (some (.fz (.dic ks' ds)))) (ss' := ss) (getX_inl.mpr q) (.inr ⟨ks', ds, rfl, rfl⟩) List.length_set rfl (getX_inl.mpr (List.getElem?_set_self hk)) fun y hy => by
        cases y with
        | inl i => show (_[i]?).join = _; rw [List.getElem?_set_ne fun z => hy (by rw [z])]; rfl
        | inr i => rfl
      exact step T (List.getElem?_set_self hk)
    · cases h
theorem Sim.fz {v : V} {s : Sl} {d : Dv} {δ' : DS} (S : Sim K c σ H δ [v] [s]) (h : fzR s δ = some (d, δ')) : Sim K c σ H δ' [v] [.fz d] := by
  obtain ⟨F, cs, S⟩ := S
  exact S.fzAt (j := 0) rfl h
end
end DL

set_option Elab.async false
set_option linter.all false
set_option maxRecDepth 100000
set_option maxHeartbeats 4000000
/-! DLC: judgements over data, names, constants, operators, argument lists, tests, statements. -/
namespace DL
open PySem L2

abbrev DT := DS → (Sl → DS → Prop) → Prop
abbrev DTB := DS → (Bool → DS → Prop) → Prop
abbrev DTA := DS → (List Sl → DS → Prop) → Prop
structure DEnds where
  nx : DS → Prop
  rt : Sl → DS → Prop
  bk : DS → Prop := fun _ => False
  ct : DS → Prop := fun _ => False
abbrev DTS := DEnds → DS → Prop

def liftE (K : PySem.W.Frag) (t : DT) : TE := fun σ H Q => ∃ c δ W, Sim K c σ H δ [] [] ∧ t δ W ∧ ∀ v H' δ' s, Sim K c σ H' δ' [v] [s] → W s δ' → Q v H'
def liftT (K : PySem.W.Frag) (t : DTB) : TT := fun σ H Q => ∃ c δ W, Sim K c σ H δ [] [] ∧ t δ W ∧ ∀ b H' δ', Sim K c σ H' δ' [] [] → W b δ' → Q b H'
def liftA (K : PySem.W.Frag) (t : DTA) : TA := fun σ H Q => ∃ c δ W, Sim K c σ H δ [] [] ∧ t δ W ∧ ∀ vs H' δ' ss, Sim K c σ H' δ' vs ss → W ss δ' → Q vs H'
def liftS (K : PySem.W.Frag) (P : List (Nat × V)) (t : DTS) : TS := fun D σ H => ∃ F R δ E, Sim K ⟨F, R, P⟩ σ H δ [] [] ∧ t E δ ∧
  (∀ σ' H' δ', Sim K ⟨F, R, P⟩ σ' H' δ' [] [] → E.nx δ' → D.nx σ' H') ∧ (∀ σ' H' δ', Sim K ⟨F, R, P⟩ σ' H' δ' [] [] → E.bk δ' → D.bk σ' H') ∧ (∀ σ' H' δ', Sim K ⟨F, R, P⟩ σ' H' δ' [] [] → E.ct δ' → D.ct σ' H') ∧
  ∀ σ' v H' δ' s, Sim K ⟨F, R, P⟩ σ' H' δ' [v] [s] → E.rt s δ' → D.rt v H'

def DE (X : Cx) (e : Expr) (t : DT) : Prop := PE X e (liftE X.K t)
def DB (X : Cx) (e : Expr) (t : DTB) : Prop := PT X e (liftT X.K t)
def DW (X : Cx) (e : Expr) (t : DTB) : Prop := PW X e (liftT X.K t)
def DA (X : Cx) (es : List Expr) (t : DTA) : Prop := PA X es (liftA X.K t)
def DStm (X : Cx) (P : List (Nat × V)) (st : Stmt) (t : DTS) : Prop := PS X st (liftS X.K P t)
def DSts (X : Cx) (P : List (Nat × V)) (st : List Stmt) (t : DTS) : Prop := PSs X st (liftS X.K P t)

section
variable {X : Cx} {e : Expr} {es : List Expr} {st : Stmt} {sts : List Stmt}
theorem PE.to {t t' : TE} (h : PE X e t) (k : ∀ σ H Q, σ.length = X.N.length → t' σ H Q → t σ H Q) : PE X e t' := ⟨fun pins s σ H Q I hw => h.run pins s σ H Q I (k σ H Q I.len hw)⟩
theorem PT.to {t t' : TT} (h : PT X e t) (k : ∀ σ H Q, σ.length = X.N.length → t' σ H Q → t σ H Q) : PT X e t' := ⟨fun pins s σ H Q I hw => h.run pins s σ H Q I (k σ H Q I.len hw)⟩
theorem PW.to {t t' : TT} (h : PW X e t) (k : ∀ σ H Q, σ.length = X.N.length → t' σ H Q → t σ H Q) : PW X e t' := ⟨fun w pins s σ H Q I hw => h.run w pins s σ H Q I (k σ H Q I.len hw)⟩
theorem PA.to {t t' : TA} (h : PA X es t) (k : ∀ σ H Q, σ.length = X.N.length → t' σ H Q → t σ H Q) : PA X es t' := ⟨fun p pins s σ H Q I hw => h.run p pins s σ H Q I (k σ H Q I.len hw)⟩
theorem PS.to {t t' : TS} (h : PS X st t) (k : ∀ D σ H, σ.length = X.N.length → t' D σ H → t D σ H) : PS X st t' := ⟨fun pins s σ H D I hw => h.run pins s σ H D I (k D σ H I.len hw)⟩
theorem PSs.to {t t' : TS} (h : PSs X sts t) (k : ∀ D σ H, σ.length = X.N.length → t' D σ H → t D σ H) : PSs X sts t' := ⟨fun pins s σ H D I hw => h.run pins s σ H D I (k D σ H I.len hw)⟩
end

/-! ### names, constants -/
def dVar (i : Nat) : DT := fun δ Q => match δ[i]? with
  | some (some (.fz d)) => Q (.fz d) δ
  | some (some _) => Q (.al i) δ
  | _ => False
def dC (d : Dv) : DT := fun δ Q => Q (.fz d) δ
section
variable {X : Cx} {pos : Pos} {e a b : Expr} {es : List Expr}
theorem SimW.fzv {K : PySem.W.Frag} {c : Ctx} {σ : St} {H : Hp} {δ : DS} {vs : List V} {ss : List Sl} {F : Hp} {cs : Nat ⊕ Nat → Cn} (S : SimW K c σ H δ vs ss F cs) {i : Nat} {d : Dv} (e : δ[i]? = some (some (.fz d))) : ∃ x, σ[i]? = some (some x) ∧ Rep K F d x := by
  obtain ⟨h1, h2, _⟩ := S.at e
  generalize cs (Sum.inl i) = n at h1 h2
  cases n with
  | v x => exact ⟨x, h1, h2⟩
  | _ => exact h2.elim
theorem de_var {i : Nat} (h : PE X e (tVar i)) : DE X e (dVar i) := PE.to h fun σ H Q _ ⟨c, δ, W, ⟨F, cs, S⟩, ht, k⟩ => by
  unfold dVar at ht
  split at ht
  · rename_i d q
    obtain ⟨x, q1, q2⟩ := S.fzv q
    exact ⟨x, q1, k x H δ (.fz d) (S.resFz q2) ht⟩
  · rename_i s hs q
    obtain ⟨h1, _, _⟩ := S.at q
    exact ⟨_, h1, k _ H δ (.al i) (S.resAl h1) ht⟩
  · exact ht.elim
theorem de_c {v : V} {d : Dv} (h : PE X e (tC v)) (hr : ∀ K F, Rep K F d v) : DE X e (dC d) := PE.to h fun σ H Q _ ⟨c, δ, W, ⟨F, cs, S⟩, ht, k⟩ =>
  k v H δ (.fz d) (S.resFz (hr _ _)) ht
theorem de_int {i : Int} {j} : DE X (.Constant (.int i) j pos) (dC (.int i)) := de_c pe_int fun _ _ => rfl
theorem de_bl {b : Bool} {j} : DE X (.Constant (.bool b) j pos) (dC (.bl b)) := de_c pe_bl fun _ _ => rfl
theorem de_non {j} : DE X (.Constant .none j pos) (dC .non) := de_c pe_non fun _ _ => rfl
theorem de_str {s : Str} {j} : DE X (.Constant (.str s) j pos) (dC (.str s)) := de_c pe_str fun _ _ => rfl
/-- the name in slot i -/
theorem dv (i : Nat) {x : Str} {pos : Pos} (hN : X.N[i]? = some x := by rfl) (hv : Vis X.env.scope x := by first | exact Or.inl rfl | exact Or.inr (Or.inl rfl) | exact Or.inr (Or.inr rfl)) (hd : (x == ("__debug__" : Str)) = false := by decide)
    (hcd : (x == ("__classdict__" : Str)) = false := by decide) : DE X (.Name x pos) (dVar i) := de_var (pe_var hN hv hd hcd)

/-! ### two in a row -/
theorem lift_two {K : PySem.W.Frag} {c : Ctx} {σ : St} {H : Hp} {ta tb : DT} {R : V → V → Hp → Prop} {δ : DS} {W : Sl → Sl → DS → Prop} (S : Sim K c σ H δ [] []) (h : ta δ fun x δ1 => tb δ1 fun y δ2 => W x y δ2)
    (k : ∀ v u H' δ' x y, Sim K c σ H' δ' [v, u] [x, y] → W x y δ' → R v u H') : liftE K ta σ H fun x H1 => liftE K tb σ H1 fun y H2 => R x y H2 :=
  ⟨c, δ, _, S, h, fun v H1 δ1 s S1 h1 => by
    obtain ⟨c', l, S2, back⟩ := S1.hold
    exact ⟨c', δ1, _, S2, h1, fun u H2 δ2 y S3 h2 => k v u H2 δ2 s y (back S3) h2⟩⟩

/-! ### operators -/
/-- a two-place operation on data: what it gives -/
abbrev F2 := Dv → Dv → (Sl → Prop) → Prop
def rOf (K : PySem.W.Frag) (f : F2) : R2 := fun x y H Q => ∃ c σ δ s t dx dy W, Sim K c σ H δ [x, y] [s, t] ∧ view δ s = some dx ∧ view δ t = some dy ∧ f dx dy W ∧ ∀ r, W r → ∀ z H', Sim K c σ H' δ [z] [r] → Q z H'
def OpD (X : Cx) (g : Value → Value → Sem Value) (f : F2) : Prop := OpR X g (rOf X.K f)
def dBin (f : F2) (ta tb : DT) : DT := fun δ Q => ta δ fun x δ1 => tb δ1 fun y δ2 => match view δ2 x, view δ2 y with
  | some dx, some dy => f dx dy fun r => Q r δ2
  | _, _ => False
theorem bin_lift {K : PySem.W.Frag} {f : F2} {ta tb : DT} {σ : St} {H : Hp} {Q : VK} (h : liftE K (dBin f ta tb) σ H Q) : tOp (rOf K f) (liftE K ta) (liftE K tb) σ H Q := by
  obtain ⟨c, δ, W, S, ht, k⟩ := h
  refine lift_two (R := fun x y H2 => rOf K f x y H2 Q) S ht fun v u H' δ' x y S' hw => ?_
  split at hw
  · rename_i dx dy e1 e2
    exact ⟨c, σ, δ', x, y, dx, dy, _, S', e1, e2, hw, fun r hr z H2 S2 => k z H2 δ' r S2 hr⟩
  · exact hw.elim
theorem de_op {op : Operator} {f : F2} {ta tb : DT} (ho : OpD X (binaryOp op) f) (ha : DE X a ta) (hb : DE X b tb) : DE X (.BinOp a op b pos) (dBin f ta tb) :=
  PE.to (pe_op ho ha hb) fun σ H Q _ h => bin_lift h
theorem de_cmp {op : CmpOp} {f : F2} {ta tb : DT} (ho : OpD X (compareOp op) f) (ha : DE X a ta) (hb : DE X b tb) (hm : behindInMarks op b = false := by first | exact nomark _ | with_unfolding_all rfl) : DE X (.Compare a [op] [b] pos) (dBin f ta tb) :=
  PE.to (pe_cmpR ho ha hb hm) fun σ H Q _ h => bin_lift h
/-- a value that is a bool, as a test -/
def dTest (t : DT) : DTB := fun δ Q => t δ fun s δ1 => match view δ1 s with
  | some (.bl b) => Q b δ1
  | _ => False
theorem SimW.one_look {K : PySem.W.Frag} {c : Ctx} {σ : St} {H : Hp} {δ : DS} {v : V} {s : Sl} {F : Hp} {cs : Nat ⊕ Nat → Cn} (S : SimW K c σ H δ [v] [s] F cs) {d : Dv} (h : view δ s = some d) : Look K F H d v := by
  obtain ⟨w, e, l⟩ := S.look (j := 0) rfl h
  cases e; exact l
theorem SimW.two_look {K : PySem.W.Frag} {c : Ctx} {σ : St} {H : Hp} {δ : DS} {v u : V} {s t : Sl} {F : Hp} {cs : Nat ⊕ Nat → Cn} (S : SimW K c σ H δ [v, u] [s, t] F cs) {d e : Dv} (h : view δ s = some d) (h' : view δ t = some e) : Look K F H d v ∧ Look K F H e u := by
  obtain ⟨w, q, l⟩ := S.look (j := 0) rfl h
  obtain ⟨w', q', l'⟩ := S.look (j := 1) rfl h'
  cases q; cases q'; exact ⟨l, l'⟩
theorem test_of {K : PySem.W.Frag} {t : DT} {σ : St} {H : Hp} {Q : Bool → Hp → Prop} (h : liftT K (dTest t) σ H Q) : liftE K t σ H fun x H' => ∃ k, x = .bl k ∧ Q k H' := by
  obtain ⟨c, δ, W, S, ht, k⟩ := h
  refine ⟨c, δ, _, S, ht, fun v H' δ' s S' hw => ?_⟩
  split at hw
  · rename_i b e
    obtain ⟨F, cs, S1⟩ := S'
    exact ⟨b, S1.one_look e, k b H' δ' ⟨F, cs, S1.bare⟩ hw⟩
  · exact hw.elim
theorem db_cmp {op : CmpOp} {f : F2} {ta tb : DT} (ho : OpD X (compareOp op) f) (ha : DE X a ta) (hb : DE X b tb) (hm : behindInMarks op b = false := by first | exact nomark _ | with_unfolding_all rfl) : DB X (.Compare a [op] [b] pos) (dTest (dBin f ta tb)) :=
  PT.to (pt_cmpR ho ha hb hm) fun σ H Q _ h => by
    obtain ⟨c, δ, W, S, ht, k⟩ := test_of h
    exact bin_lift ⟨c, δ, W, S, ht, k⟩
/-- truth of data -/
def truD : Dv → Option Bool
  | .non => some false
  | .bl b => some b
  | .int i => some (i != 0)
  | .str s => if s.length ≤ sizeLine then some ((s.length : Int) != 0) else none
  | .tup ds => some (!ds.isEmpty)
  | .lst ds => some (!ds.isEmpty)
  | .dic ks _ => some (!ks.isEmpty)
  | .scr ns => some (!ns.isEmpty)
  | .ty _ => none
def dTru (t : DT) : DTB := fun δ Q => t δ fun s δ1 => match view δ1 s with
  | some d => match truD d with
    | some b => Q b δ1
    | none => False
  | none => False
theorem Reps.isEmpty {K : PySem.W.Frag} {F : Hp} {ds : List Dv} {vs : List V} (h : Reps K F ds vs) : ds.isEmpty = vs.isEmpty := by
  have := Reps.length h
  cases ds <;> cases vs <;> simp_all
theorem Look.tru {K : PySem.W.Frag} {F H : Hp} {d : Dv} {x : V} {b : Bool} (l : Look K F H d x) (e : Ex F H) (h : truD d = some b) : TruV K x H b := by
  cases d with
  | non => cases (show x = _ from l); cases h; exact rfl
  | bl b' => cases (show x = _ from l); cases h; exact rfl
  | int i => cases (show x = _ from l); cases h; exact rfl
  | str s =>
    cases (show x = _ from l)
    unfold truD at h
    dsimp only at h
    split at h
    · cases h; exact ⟨by assumption, rfl⟩
    · cases h
  | tup ds =>
    obtain ⟨a, vs, rfl, q1, q2⟩ := l
    cases h
    exact .inr (.inl ⟨vs, ex_t e q1, by rw [q2.isEmpty]⟩)
  | lst ds =>
    obtain ⟨a, vs, rfl, q1, q2⟩ := l
    cases h
    exact .inl ⟨vs, SqL.of q1, by rw [q2.isEmpty]⟩
  | dic ks ds =>
    obtain ⟨a, vs, rfl, q1, q3, q2⟩ := l
    cases h
    refine .inr (.inr ⟨_, q1, ?_⟩)
    cases ks <;> cases vs <;> simp_all
  | scr ns =>
    obtain ⟨a, rfl, q1⟩ := l
    cases h
    exact .inl ⟨_, ex_l e q1, by cases ns <;> rfl⟩
  | ty n => cases h
theorem db_tru {t : DT} (h : DE X a t) (he : ∀ whole, isTrue a X.env whole = (do let v ← whole; standAt a.pos; holding [v] (truthy v)) := by intro _; rfl) : DB X a (dTru t) :=
  PT.to (pt_truth h he) fun σ H Q _ ⟨c, δ, W, S, ht, k⟩ => by
    refine ⟨c, δ, _, S, ht, fun v H' δ' s S' hw => ?_⟩
    split at hw
    · rename_i d e
      split at hw
      · rename_i b e2
        obtain ⟨F, cs, S1⟩ := S'
        exact ⟨b, (S1.one_look e).tru S1.FH e2, k b H' δ' ⟨F, cs, S1.bare⟩ hw⟩
      · exact hw.elim
    · exact hw.elim

/-! ### and, or, not, if-else -/
def dAnd (t u : DTB) : DTB := fun δ Q => t δ fun c δ1 => if c = true then u δ1 Q else Q false δ1
def dOr (t u : DTB) : DTB := fun δ Q => t δ fun c δ1 => if c = true then Q true δ1 else u δ1 Q
def dNot (t : DTB) : DTB := fun δ Q => t δ fun c δ1 => Q (!c) δ1
theorem dw_one {t : DTB} (h : DB X a t) : DW X (.BoolOp .And [a] pos) t := pw_and1 h
theorem dw_one' {t : DTB} (h : DB X a t) : DW X (.BoolOp .Or [a] pos) t := pw_or1 h
theorem dw_and {rest : List Expr} {t u : DTB} (ha : DB X a t) (hb : DW X (.BoolOp .And (b :: rest) pos) u) : DW X (.BoolOp .And (a :: b :: rest) pos) (dAnd t u) :=
  PW.to (pw_and ha hb) fun σ H Q _ ⟨c, δ, W, S, ht, k⟩ => ⟨c, δ, _, S, ht, fun r H' δ' S' hw => by
    cases r with
    | true => exact ⟨c, δ', W, S', hw, k⟩
    | false => exact k false H' δ' S' hw⟩
theorem dw_or {rest : List Expr} {t u : DTB} (ha : DB X a t) (hb : DW X (.BoolOp .Or (b :: rest) pos) u) : DW X (.BoolOp .Or (a :: b :: rest) pos) (dOr t u) :=
  PW.to (pw_or ha hb) fun σ H Q _ ⟨c, δ, W, S, ht, k⟩ => ⟨c, δ, _, S, ht, fun r H' δ' S' hw => by
    cases r with
    | false => exact ⟨c, δ', W, S', hw, k⟩
    | true => exact k true H' δ' S' hw⟩
theorem DW.toB {t : DTB} (h : DW X a t) : DB X a t := PW.pt h
theorem db_not {t : DTB} (h : DB X a t) : DB X (.UnaryOp .Not a pos) (dNot t) :=
  PT.to (pt_not h) fun σ H Q _ ⟨c, δ, W, S, ht, k⟩ => ⟨c, δ, _, S, ht, fun r H' δ' S' hw => k _ H' δ' S' hw⟩
def dIfE (t : DTB) (ta tb : DT) : DT := fun δ Q => t δ fun c δ1 => if c = true then ta δ1 Q else tb δ1 Q
theorem de_ifE {c : Expr} {t : DTB} {ta tb : DT} (hc : DB X c t) (ha : DE X a ta) (hb : DE X b tb) : DE X (.IfExp c a b pos) (dIfE t ta tb) :=
  PE.to (pe_ifExp hc ha hb) fun σ H Q _ ⟨c, δ, W, S, ht, k⟩ => ⟨c, δ, _, S, ht, fun r H' δ' S' hw => by
    cases r with
    | true => exact ⟨c, δ', W, S', hw, k⟩
    | false => exact ⟨c, δ', W, S', hw, k⟩⟩

/-! ### argument lists -/
def dNil : DTA := fun δ Q => Q [] δ
def dCons (t : DT) (ts : DTA) : DTA := fun δ Q => t δ fun s δ1 => ts δ1 fun ss δ2 => Q (s :: ss) δ2
theorem da_nil : DA X [] dNil := PA.to pa_nil fun σ H Q _ ⟨c, δ, W, S, ht, k⟩ => k [] H δ [] S ht
theorem da_cons {t : DT} {ts : DTA} (h : DE X e t) (hr : DA X es ts) (hs : starEach (e :: es) X.env = (false, eval e X.env) :: starEach es X.env := by rfl) : DA X (e :: es) (dCons t ts) :=
  PA.to (pa_cons h hr hs) fun σ H Q _ ⟨c, δ, W, S, ht, k⟩ => ⟨c, δ, _, S, ht, fun v H1 δ1 s S1 h1 => by
    obtain ⟨c', l, S2, back⟩ := S1.hold
    exact ⟨c', δ1, _, S2, h1, fun vs H2 δ2 ss S3 h2 => k (v :: vs) H2 δ2 (s :: ss) (back S3) h2⟩⟩

/-! ### statements -/
variable {P : List (Nat × V)} {st : Stmt} {sts : List Stmt}
def dNext : DTS := fun E δ => E.nx δ
def dSeq (t u : DTS) : DTS := fun E δ => match E with
  | ⟨nx, rt, bk, ct⟩ => t ⟨u ⟨nx, rt, bk, ct⟩, rt, bk, ct⟩ δ
theorem ds_nil : DSts X P [] dNext := PSs.to pss_nil fun D σ H _ ⟨F, R, δ, E, S, ht, k1, _⟩ => k1 σ H δ S ht
theorem ds_one {t : DTS} (h : DStm X P st t) : DSts X P [st] t := pss_one h
theorem ds_cons {t u : DTS} (h : DStm X P st t) (hr : DSts X P sts u) : DSts X P (st :: sts) (dSeq t u) :=
  PSs.to (pss_cons h hr) fun D σ H _ ⟨F, R, δ, ⟨e1, e2, e3, e4⟩, S, ht, k1, k2, k3, k4⟩ => ⟨F, R, δ, ⟨u ⟨e1, e2, e3, e4⟩, e2, e3, e4⟩, S, ht, fun σ' H' δ' S' h' => ⟨F, R, δ', ⟨e1, e2, e3, e4⟩, S', h', k1, k2, k3, k4⟩, k2, k3, k4⟩
theorem dm_pass : DStm X P (.Pass pos) dNext := PS.to ps_pass fun D σ H _ ⟨F, R, δ, E, S, ht, k1, _⟩ => k1 σ H δ S ht
def dBreak : DTS := fun E δ => E.bk δ
def dCont : DTS := fun E δ => E.ct δ
theorem dm_break : DStm X P (.Break pos) dBreak := PS.to ps_break fun D σ H _ ⟨F, R, δ, E, S, ht, _, k2, _⟩ => k2 σ H δ S ht
theorem dm_cont : DStm X P (.Continue pos) dCont := PS.to ps_continue fun D σ H _ ⟨F, R, δ, E, S, ht, _, _, k3, _⟩ => k3 σ H δ S ht
def dDrop (t : DT) : DTS := fun E δ => t δ fun _ δ1 => E.nx δ1
theorem dm_expr {t : DT} (h : DE X e t) (hs : swapsWith e none pos.line X.env = pure false := by rfl) : DStm X P (.Expr e pos) (dDrop t) :=
  PS.to (ps_expr h hs) fun D σ H _ ⟨F, R, δ, E, S, ht, k1, _⟩ => ⟨_, δ, _, S, ht, fun v H' δ' s S' h' => k1 σ H' δ' S'.bare h'⟩
def dIf (c : DTB) (t u : DTS) : DTS := fun E δ => c δ fun b δ1 => if b = true then t E δ1 else u E δ1
theorem dm_if {c : Expr} {p q : List Stmt} {tc : DTB} {t u : DTS} (hc : DB X c tc) (ha : DSts X P p t) (hb : DSts X P q u) : DStm X P (.If c p q pos) (dIf tc t u) :=
  PS.to (ps_if hc ha hb) fun D σ H _ ⟨F, R, δ, E, S, ht, ks⟩ => ⟨_, δ, _, S, ht, fun b H' δ' S' h' => by
    cases b with
    | true => exact ⟨F, R, δ', E, S', h', ks⟩
    | false => exact ⟨F, R, δ', E, S', h', ks⟩⟩
/-- return e; an owned thing of the def's own is handed on -/
def dRet (t : DT) : DTS := fun E δ => t δ fun s δ1 => match s with
  | .al k => match δ1[k]? with
    | some (some u) => E.rt u (δ1.set k none)
    | _ => False
  | s => E.rt s δ1
theorem SimW.give {K : PySem.W.Frag} {c : Ctx} {σ : St} {H : Hp} {δ : DS} {v : V} {k : Nat} {F : Hp} {cs : Nat ⊕ Nat → Cn} (S : SimW K c σ H δ [v] [.al k] F cs) {u : Sl} (e : δ[k]? = some (some u)) : Sim K c σ H (δ.set k none) [v] [u] := by
  obtain ⟨h1, h2, _⟩ := S.here (.inr 0) (.al k) rfl
  have hv : σ[k]? = some (some v) := by
    generalize cs (Sum.inr 0) = n at h1 h2
    cases n with
    | v x => have : v = x := by injection h1
             rw [this]; exact h2
    | _ => exact h2.elim
  have hk : k < δ.length := (List.getElem?_eq_some_iff.mp e).1
  obtain ⟨q1, q2, q3⟩ := S.at e
  have ev : v = (cs (.inl k)).val := by rw [hv] at q1; injection q1 with q1; injection q1
  let cc : Nat ⊕ Nat → Cn := fun x => match x with
    | .inl i => cs (.inl i)
    | .inr _ => cs (.inl k)
  have get : ∀ i t, (δ.set k none)[i]? = some (some t) → i ≠ k ∧ δ[i]? = some (some t) := fun i t q => by
    by_cases hi : k = i
    · subst hi; rw [List.getElem?_set_self hk] at q; cases q
    · rw [List.getElem?_set_ne hi] at q; exact ⟨fun z => hi z.symm, q⟩
  refine ⟨F, cc, ⟨S.fF, S.FH, S.RH, S.FR, by rw [List.length_set]; exact S.len, rfl, S.pin, fun i t q => S.noal i t (get i t q).2, fun x t q => ?_, fun x y t w ne e1 e2 => ?_⟩⟩
  · rcases getX_one q with ⟨i, rfl, q'⟩ | ⟨rfl, rfl⟩
    · have := S.here (.inl i) t (getX_inl.mpr (get i t q').2)
      exact ⟨valX_inl.mpr (valX_inl.mp this.1), this.2⟩
    · exact ⟨congrArg some ev, q2, q3⟩
  · rcases getX_one e1 with ⟨i, rfl, f1⟩ | ⟨rfl, rfl⟩
    · rcases getX_one e2 with ⟨j, rfl, f2⟩ | ⟨rfl, rfl⟩
      · exact S.apart (.inl i) (.inl j) t w ne (getX_inl.mpr (get i t f1).2) (getX_inl.mpr (get j w f2).2)
      · exact S.apart (.inl i) (.inl k) t w (fun z => (get i t f1).1 (Sum.inl.inj z)) (getX_inl.mpr (get i t f1).2) (getX_inl.mpr e)
    · rcases getX_one e2 with ⟨j, rfl, f2⟩ | ⟨rfl, rfl⟩
      · exact S.apart (.inl k) (.inl j) t w (fun z => (get j w f2).1 (Sum.inl.inj z).symm) (getX_inl.mpr e) (getX_inl.mpr (get j w f2).2)
      · exact absurd rfl ne
theorem dm_ret {t : DT} (h : DE X e t) : DStm X P (.Return (some e) pos) (dRet t) :=
  PS.to (ps_ret h) fun D σ H _ ⟨F, R, δ, E, S, ht, _, _, _, k4⟩ => ⟨_, δ, _, S, ht, fun v H' δ' s S' h' => by
    cases s with
    | al k =>
      dsimp only at h'
      split at h'
      · rename_i u q
        obtain ⟨F2, cs, S2⟩ := S'
        exact k4 σ v H' _ u (S2.give q) h'
      · exact h'.elim
    | _ => exact k4 σ v H' δ' _ S' h'⟩
def dRetN : DTS := fun E δ => E.rt (.fz .non) δ
theorem dm_retN : DStm X P (.Return none pos) dRetN := PS.to ps_retN fun D σ H _ ⟨F, R, δ, E, ⟨F2, cs, S⟩, ht, _, _, _, k4⟩ => k4 σ .non H δ (.fz .non) (S.resFz rfl) ht

/-! ### targets -/
abbrev DG := Sl → DS → (DS → Prop) → Prop
/-- σ' is σ but at ixs -/
def But (ixs : List Nat) (σ σ' : St) : Prop := σ'.length = σ.length ∧ ∀ i, i ∉ ixs → σ'[i]? = σ[i]?
theorem But.refl (ixs : List Nat) (σ : St) : But ixs σ σ := ⟨rfl, fun _ _ => rfl⟩
theorem But.set {σ : St} {i : Nat} {o : Option V} : But [i] σ (σ.set i o) := ⟨List.length_set, fun j hj => List.getElem?_set_ne fun z => hj (by simp [z])⟩
theorem But.app {a b : List Nat} {σ σ1 σ2 : St} (h : But a σ σ1) (k : But b σ1 σ2) : But (a ++ b) σ σ2 := ⟨k.1.trans h.1, fun i hi => (k.2 i fun z => hi (List.mem_append_right _ z)).trans (h.2 i fun z => hi (List.mem_append_left _ z))⟩
def liftG (K : PySem.W.Frag) (P : List (Nat × V)) (ixs : List Nat) (g : DG) : TG := fun v σ H Q => ∃ F R δ s W, Sim K ⟨F, R, P⟩ σ H δ [v] [s] ∧ g s δ W ∧ ∀ σ' H' δ', But ixs σ σ' → Sim K ⟨F, R, P⟩ σ' H' δ' [] [] → W δ' → Q σ' H'
def DTg (X : Cx) (P : List (Nat × V)) (ixs : List Nat) (e : Expr) (g : DG) : Prop := PG X e (liftG X.K P ixs g)
/-- the state laid out slot by slot, then k -/
def force : DS → (DS → Prop) → Prop
  | [], k => k []
  | o :: l, k => force l fun l' => k (o :: l')
theorem force_iff : ∀ {δ : DS} {k : DS → Prop}, force δ k ↔ k δ
  | [], _ => Iff.rfl
  | _ :: l, _ => force_iff (δ := l)
/-- into slot i; an alias is frozen first -/
def dName (i : Nat) : DG := fun s δ Q => match s with
  | .al k => match fzR (.al k) δ with
    | some (d, δ1) => force (δ1.set i (some (.fz d))) Q
    | none => False
  | s => force (δ.set i (some s)) Q
theorem PG.to {X : Cx} {tg : Expr} {t t' : TG} (h : PG X tg t) (k : ∀ v σ H Q, σ.length = X.N.length → t' v σ H Q → t v σ H Q) : PG X tg t' := ⟨fun pins s σ H v u Q I r hw => h.run pins s σ H v u Q I r (k v σ H Q I.len hw)⟩
def free (P : List (Nat × V)) (i : Nat) : Bool := P.all fun p => p.1 != i
theorem free_ne {P : List (Nat × V)} {i : Nat} (h : free P i = true) : ∀ p ∈ P, p.1 ≠ i := fun p hp => by simpa using List.all_eq_true.mp h p hp
theorem name_set {K : PySem.W.Frag} {P : List (Nat × V)} {F R : Hp} {v : V} {s : Sl} {σ : St} {H : Hp} {δ : DS} {W : DS → Prop} {i : Nat} (hi : i < σ.length) (hf : free P i = true) (S : Sim K ⟨F, R, P⟩ σ H δ [v] [s]) (h : dName i s δ W)
    {Q : St → Hp → Prop} (k : ∀ σ' H' δ', But [i] σ σ' → Sim K ⟨F, R, P⟩ σ' H' δ' [] [] → W δ' → Q σ' H') : Q (σ.set i (some v)) H := by
  have go : ∀ {δ : DS} {s : Sl}, Sim K ⟨F, R, P⟩ σ H δ [v] [s] → s.slot → W (δ.set i (some s)) → Q (σ.set i (some v)) H := fun {δ s} S hs h =>
    k _ _ _ But.set (S.set (by obtain ⟨_, _, S'⟩ := S; rw [← S'.len]; exact hi) hs (free_ne hf) (fun t ht => absurd ht (by simp))) h
  cases s with
  | al j =>
    unfold dName at h
    dsimp only at h
    split at h
    · rename_i d δ1 e
      exact go (S.fz e) trivial (force_iff.mp h)
    · exact h.elim
  | _ => exact go S trivial (force_iff.mp h)
theorem dg_name {i : Nat} {x : Str} (hN : X.N.Nodup) (hi : X.N[i]? = some x) (hx : Loc X.env.scope x) (hp : free P i = true) (hf : X.fn x = true ∨ X.env.scope.names.lookup x = some .local := by first | exact .inl rfl | exact .inr rfl | assumption) : DTg X P [i] (.Name x pos) (dName i) :=
  PG.to (pg_name hN hi hx hf) fun v σ H Q hl ⟨F, R, δ, s, W, S, h, k⟩ => name_set (by rw [hl]; exact (List.getElem?_eq_some_iff.mp hi).1) hp S h fun σ' H' δ' => k σ' H' δ'
def dSet (i : Nat) (t : DT) : DTS := fun E δ => t δ fun s δ1 => dName i s δ1 E.nx
theorem dm_set {i : Nat} {x : Str} {pos' : Pos} {t : DT} (hN : X.N.Nodup) (hi : X.N[i]? = some x) (hx : Loc X.env.scope x) (hp : free P i = true) (he : DE X e t) (hs : swapsWith e (some (.Name x pos')) pos.line X.env = pure false := by rfl)
    (hf : X.fn x = true ∨ X.env.scope.names.lookup x = some .local := by first | exact .inl rfl | exact .inr rfl | assumption) : DStm X P (.Assign [.Name x pos'] e pos) (dSet i t) :=
  PS.to (ps_set hN hi hx he hs hf) fun D σ H hl ⟨F, R, δ, E, S, ht, k1, _⟩ => ⟨_, δ, _, S, ht, fun v H' δ' s S' h' => name_set (by rw [hl]; exact (List.getElem?_eq_some_iff.mp hi).1) hp S' h' fun σ' H' δ' _ => k1 σ' H' δ'⟩
/-- any target -/
def dAsg (t : DT) (g : DG) : DTS := fun E δ => t δ fun s δ1 => g s δ1 E.nx
theorem dm_asg {ixs : List Nat} {tg : Expr} {t : DT} {g : DG} (he : DE X e t) (hg : DTg X P ixs tg g) (hs : swapsWithSole [tg] e pos.line X.env = pure false := by rfl) (hw : swappedStores [tg] e X.env = pure none := by rfl)
    (h1 : (assignEach [tg] X.env).map (·.2) = [assign tg X.env] := by rfl) : DStm X P (.Assign [tg] e pos) (dAsg t g) :=
  PS.to (ps_asg he hg hs hw h1) fun D σ H hl ⟨F, R, δ, E, S, ht, k1, _⟩ => ⟨_, δ, _, S, ht, fun v H' δ' s S' h' => ⟨F, R, δ', s, _, S', h', fun σ' H' δ' _ => k1 σ' H' δ'⟩⟩
/-- a, b, .. = a tuple -/
abbrev DGs := List Dv → DS → (DS → Prop) → Prop
def liftGs (K : PySem.W.Frag) (P : List (Nat × V)) (ixs : List Nat) (g : DGs) : TGs := fun vs σ H Q => ∃ F R δ ds W, Sim K ⟨F, R, P⟩ σ H δ [] [] ∧ Reps K F ds vs ∧ g ds δ W ∧ ∀ σ' H' δ', But ixs σ σ' → Sim K ⟨F, R, P⟩ σ' H' δ' [] [] → W δ' → Q σ' H'
def DTgs (X : Cx) (P : List (Nat × V)) (ixs : List Nat) (es : List Expr) (g : DGs) : Prop := PGs X es (liftGs X.K P ixs g)
theorem PGs.to {X : Cx} {es : List Expr} {t t' : TGs} (h : PGs X es t) (k : ∀ vs σ H Q, σ.length = X.N.length → t' vs σ H Q → t vs σ H Q) : PGs X es t' := ⟨fun pins s σ H v u Q I r hw => h.run pins s σ H v u Q I r (k v σ H Q I.len hw)⟩
def gsNil : DGs := fun ds δ Q => ds = [] ∧ Q δ
def gsCons (g : DG) (gs : DGs) : DGs := fun ds δ Q => match ds with
  | d :: r => g (.fz d) δ fun δ1 => gs r δ1 Q
  | [] => False
theorem dgs_nil : DTgs X P [] [] gsNil := PGs.to pgs_nil fun vs σ H Q _ ⟨F, R, δ, ds, W, S, r, ⟨e, h⟩, k⟩ => by
  subst e
  exact ⟨r, k σ H δ (But.refl _ _) S h⟩
theorem dgs_cons {ia ib : List Nat} {g : DG} {gs : DGs} (h1 : DTg X P ia e g) (h2 : DTgs X P ib es gs) (hs : (assignEach (e :: es) X.env).map (·.2) = assign e X.env :: (assignEach es X.env).map (·.2) := by rfl) : DTgs X P (ia ++ ib) (e :: es) (gsCons g gs) :=
  PGs.to (pgs_cons h1 h2 hs) fun vs σ H Q _ ⟨F, R, δ, ds, W, S, r, h, k⟩ => by
    cases ds with
    | nil => exact h.elim
    | cons d ds =>
      obtain ⟨v, vr, rfl, r1, r2⟩ := r
      obtain ⟨F2, cs, S2⟩ := S
      have S3 := S2.know
      refine ⟨v, vr, rfl, F2, R, δ, .fz d, _, S3.resFz (r1.mono S2.fF), h, fun σ' H' δ' b1 S' h' => ?_⟩
      exact ⟨F2, R, δ', ds, W, S', r2.mono S2.fF, h', fun σ'' H'' δ'' b2 S'' h'' => k σ'' H'' δ'' (b1.app b2) (S''.weak S2.know_le) h''⟩
def dTupG (n : Nat) (gs : DGs) : DG := fun s δ Q => match view δ s with
  | some (.tup ds) => ds.length = n ∧ gs ds δ Q
  | _ => False
theorem dg_tup {ixs : List Nat} {k n : Nat} {gs : DGs} (hc : X.calm = true) (h : DTgs X P ixs es gs) (hn : (assignEach es X.env).length = n := by rfl) (hst : (assignEach es X.env).findIdx? (·.1) = none := by rfl) : DTg X P ixs (.Tuple es k pos) (dTupG n gs) :=
  PG.to (pg_tup hc h hn hst) fun v σ H Q _ ⟨F, R, δ, s, W, ⟨F2, cs, S⟩, h, k⟩ => by
    unfold dTupG at h
    split at h
    · rename_i ds e
      obtain ⟨a, xs, rfl, q1, q2⟩ := S.one_look e
      refine ⟨a, xs, rfl, ex_t S.FH q1, by rw [← Reps.length q2]; exact h.1, F2, R, δ, ds, W, ⟨F2, cs, S.know.bare⟩, q2, h.2, fun σ' H' δ' b S' h' => k σ' H' δ' b (S'.weak S.know_le) h'⟩
    · exact h.elim

/-! ### while -/
def dWhile (c : DTB) (tb : DTS) : DTS := fun E δ => match E with
  | ⟨nx, rt, _, _⟩ => ∃ I : Nat → DS → Prop, (∃ m, I m δ) ∧ ∀ m δ, I m δ →
    c δ fun b δ1 => if b = true then tb ⟨fun δ' => ∃ m', m' < m ∧ I m' δ', rt, nx, fun δ' => ∃ m', m' < m ∧ I m' δ'⟩ δ1 else nx δ1
theorem dm_while {c : Expr} {body : List Stmt} {tc : DTB} {tb : DTS} (hp : PassesOwn (model X.prog X.w) X.A X.env X.xe) (hc : DB X c tc) (hb : DSts X P body tb) : DStm X P (.While c body [] pos) (dWhile tc tb) :=
  PS.to (ps_while hp hc hb) fun D σ H _ ⟨F, R, δ, ⟨e1, e2, e3, e4⟩, S, ⟨I, ⟨m0, i0⟩, turn⟩, k1, k2, k3, k4⟩ => by
    refine ⟨fun m σ H => ∃ δ, Sim X.K ⟨F, R, P⟩ σ H δ [] [] ∧ I m δ, ⟨m0, δ, S, i0⟩, ?_⟩
    rintro m σ H ⟨δ, S, hi⟩
    refine ⟨_, δ, _, S, turn m δ hi, fun b H' δ' S' h' => ?_⟩
    cases b with
    | true =>
      refine ⟨fun σ' H' => ∃ m', m' < m ∧ ∃ δ, Sim X.K ⟨F, R, P⟩ σ' H' δ [] [] ∧ I m' δ, fun σ' H' ⟨m', l, w⟩ => ⟨m', l, w⟩, ?_⟩
      exact ⟨F, R, δ', _, S', h', fun σ' H' δ' S' ⟨m', l, w⟩ => ⟨m', l, δ', S', w⟩, k1, fun σ' H' δ' S' ⟨m', l, w⟩ => ⟨m', l, δ', S', w⟩, k4⟩
    | false => exact k1 σ H' δ' S' h'
end
end DL

set_option Elab.async false
set_option linter.all false
set_option maxRecDepth 100000
set_option maxHeartbeats 4000000
/-! DLD: loops and comprehensions over data. -/
namespace DL
open PySem L2

/-- at turn i it gives the i-th of items, as long as what was frozen at the start stays so -/
def Walks (K : PySem.W.Frag) (J : It) (F0 : Hp) (items : List Dv) : Prop :=
  ∀ (i : Nat) (c : Ctx) (σ : St) (H : Hp) (δ : DS), Ex F0 c.F → Sim K c σ H δ [] [] → (i < items.length → J.go i H) ∧ (i = items.length → J.stop i H) ∧
    ∀ x H' d, items[i]? = some d → J.yld i H x H' → Sim K c σ H' δ [x] [.fz d]
abbrev DTI := DS → (List Dv → DS → Prop) → Prop
def liftI (K : PySem.W.Frag) (wi : DTI) : TI := fun σ H R => ∃ c δ W, Sim K c σ H δ [] [] ∧ wi δ W ∧ ∀ J H' δ' items c', c.le c' → Sim K c' σ H' δ' [] [] → Walks K J c'.F items → W items δ' → R J H'
def DI (X : Cx) (tg iter : Expr) (wi : DTI) : Prop := PI X tg iter (liftI X.K wi)
theorem PI.to {X : Cx} {tg iter : Expr} {t t' : TI} (h : PI X tg iter t) (k : ∀ σ H R, σ.length = X.N.length → t' σ H R → t σ H R) : PI X tg iter t' := ⟨fun pins s σ H R I hw => h.run pins s σ H R I (k σ H R I.len hw)⟩

/-! ### over a list or a tuple -/
def iSeq (K : PySem.W.Frag) (tl : TE) : TI := fun σ H R => tl σ H fun x H1 => ∃ a, x = .ref a ∧ (((∃ xs, SqL K H1 a xs) ∧ R (Itl K a) H1) ∨ ((∃ xs, SqT K H1 a xs) ∧ R (Itt K a) H1))
theorem pi_seq {X : Cx} {tg l : Expr} {tl : TE} (hl : PE X l tl) : PI X tg l (iSeq X.K tl) := by
  refine ⟨fun pins s σ H R I h => ?_⟩
  refine thn (hl.run pins s σ H _ I h) fun v s1 ⟨x, H1, I1, r1, q1⟩ => ?_
  obtain ⟨a, e, ⟨⟨xs, hq⟩, q⟩ | ⟨⟨xs, hq⟩, q⟩⟩ := q1
  · subst e
    cases r1
    obtain ⟨its, rv, p, hz⟩ := I1.list hq
    refine wpAny_pyIter_list p.isList ?_
    refine ⟨s1.heap.objs.size, [s1.heap.objs.size], _, _, H1, rfl, I1.kept (t' := s1.toks) fun b o e => Heap.get?_push_of_some _ e, turn_list a _, ⟨_, Heap.get?_push_size _ rfl, rfl, rfl⟩, fun b hb => ?_, q⟩
    have e : b = s1.heap.objs.size := by simpa using hb
    subst e
    exact I1.fpOk (Nat.le_refl _) (I1.hok.fresh (Nat.le_refl _))
  · subst e
    cases r1
    obtain ⟨its, rv, p, hz⟩ := I1.tuple hq
    refine wpAny_pyIter_tuple (show s1.heap.IsTuple a its.toArray from p) ?_
    refine ⟨s1.heap.objs.size, [s1.heap.objs.size], _, _, H1, rfl, I1.kept (t' := s1.toks) fun b o e => Heap.get?_push_of_some _ e, turn_tuple a _, ⟨_, Heap.get?_push_size _ rfl, rfl, rfl⟩, fun b hb => ?_, q⟩
    have e : b = s1.heap.objs.size := by simpa using hb
    subst e
    exact I1.fpOk (Nat.le_refl _) (I1.hok.fresh (Nat.le_refl _))
/-- data that is walked -/
def itemsOf : Dv → Option (List Dv)
  | .lst ds => some ds
  | .tup ds => some ds
  | .scr ns => some (ns.map .int)
  | _ => none
def dSeqI (t : DT) : DTI := fun δ Q => t δ fun s δ1 => match fzR s δ1 with
  | some (d, δ2) => match itemsOf d with
    | some ds => Q ds δ2
    | none => False
  | none => False
theorem walk_list {K : PySem.W.Frag} {F0 : Hp} {a : Addr} {xs : List V} {ds : List Dv} (h : SqL K F0 a xs) (r : Reps K F0 ds xs) : Walks K (Itl K a) F0 ds := fun i c σ H δ e ⟨F, cs, S⟩ => by
  have e2 : Ex F0 H := (e.trans S.fF).trans S.FH
  have hl : SqL K H a xs := ex_l e2 h
  have hn := Reps.length r
  refine ⟨fun hi => ⟨xs, xs[i]'(by omega), hl, by simp [hn ▸ hi]⟩, fun hi => ⟨xs, hl, by omega⟩, fun x H' d hd y => ?_⟩
  obtain ⟨rfl, q⟩ := y
  obtain ⟨v, q1, q2⟩ := Reps.get r hd
  have := q xs hl
  rw [q1] at this; cases this
  exact S.resFz (q2.mono (e.trans S.fF))
theorem walk_tup {K : PySem.W.Frag} {F0 : Hp} {a : Addr} {xs : List V} {ds : List Dv} (h : SqD K F0 a xs) (r : Reps K F0 ds xs) : Walks K (Itt K a) F0 ds := fun i c σ H δ e ⟨F, cs, S⟩ => by
  have e2 : Ex F0 H := (e.trans S.fF).trans S.FH
  have hl : SqT K H a xs := ex_t e2 h
  have hn := Reps.length r
  refine ⟨fun hi => ⟨xs, xs[i]'(by omega), hl, by simp [hn ▸ hi]⟩, fun hi => ⟨xs, hl, by omega⟩, fun x H' d hd y => ?_⟩
  obtain ⟨rfl, q⟩ := y
  obtain ⟨v, q1, q2⟩ := Reps.get r hd
  have := q xs hl
  rw [q1] at this; cases this
  exact S.resFz (q2.mono (e.trans S.fF))
theorem Sim.fz_rep {K : PySem.W.Frag} {c : Ctx} {σ : St} {H : Hp} {δ : DS} {v : V} {d : Dv} {F : Hp} {cs : Nat ⊕ Nat → Cn} (S : SimW K c σ H δ [v] [.fz d] F cs) : Rep K F d v := by
  obtain ⟨h1, h2, _⟩ := S.here (.inr 0) _ rfl
  generalize cs (Sum.inr 0) = n at h1 h2
  cases n with
  | v x => have : v = x := by injection h1
           rw [this]; exact h2
  | _ => exact h2.elim
theorem di_seq {X : Cx} {tg l : Expr} {t : DT} (h : DE X l t) : DI X tg l (dSeqI t) := PI.to (pi_seq h) fun σ H R _ ⟨c, δ, W, S, ht, k⟩ => by
  refine ⟨c, δ, _, S, ht, fun v H' δ1 s S1 hw => ?_⟩
  split at hw
  · rename_i d δ2 e
    split at hw
    · rename_i ds e2
      obtain ⟨F, cs, S2⟩ := S1.fz e
      have r := Sim.fz_rep S2
      have go := fun J w => k J H' δ2 ds ⟨F, c.R, c.P⟩ S2.know_le ⟨F, cs, S2.know.bare⟩ w hw
      cases d with
      | lst ds' =>
        cases e2
        obtain ⟨a, xs, rfl, q1, q2⟩ := r
        exact ⟨a, rfl, .inl ⟨⟨xs, SqL.of (S2.FH _ _ q1)⟩, go _ (walk_list (SqL.of q1) q2)⟩⟩
      | tup ds' =>
        cases e2
        obtain ⟨a, xs, rfl, q1, q2⟩ := r
        exact ⟨a, rfl, .inr ⟨⟨xs, ex_t S2.FH q1⟩, go _ (walk_tup q1 q2)⟩⟩
      | scr ns =>
        cases e2
        obtain ⟨a, rfl, q1⟩ := r
        exact ⟨a, rfl, .inl ⟨⟨_, ex_l S2.FH q1⟩, go _ (walk_list q1 ((Reps.ints ns).mpr rfl))⟩⟩
      | _ => cases e2
    · exact hw.elim
  · exact hw.elim

/-! ### over a range -/
def rangeD (lo : Int) (n : Nat) : List Dv := (List.range n).map fun (k : Nat) => Dv.int (lo + (k : Int))
theorem rangeD_length (lo : Int) (n : Nat) : (rangeD lo n).length = n := by simp [rangeD]
theorem rangeD_get (lo : Int) (n i : Nat) {d : Dv} (h : (rangeD lo n)[i]? = some d) : i < n ∧ d = .int (lo + i) := by
  have hi : i < n := by have := (List.getElem?_eq_some_iff.mp h).1; rwa [rangeD_length] at this
  refine ⟨hi, ?_⟩
  unfold rangeD at h
  rw [List.getElem?_map, List.getElem?_range hi] at h
  cases h; rfl
theorem walk_range {K : PySem.W.Frag} {F0 : Hp} {lo : Int} {n : Nat} : Walks K (Itr lo n) F0 (rangeD lo n) := fun i c σ H δ e ⟨F, cs, S⟩ => by
  refine ⟨fun hi => by rw [rangeD_length] at hi; exact hi, fun hi => by rw [rangeD_length] at hi; exact Nat.le_of_eq hi.symm, fun x H' d hd y => ?_⟩
  obtain ⟨rfl, rfl⟩ := y
  obtain ⟨_, rfl⟩ := rangeD_get lo n i hd
  exact S.resFz rfl
def small62 (i : Int) : Prop := -(2 ^ 62) ≤ i ∧ i < 2 ^ 62
def dRng1 (t : DTA) : DTI := fun δ Q => t δ fun ss δ1 => match ss.mapM (view δ1) with
  | some [.int j] => small62 j ∧ Q (rangeD 0 j.toNat) δ1
  | _ => False
def dRng2 (t : DTA) : DTI := fun δ Q => t δ fun ss δ1 => match ss.mapM (view δ1) with
  | some [.int i, .int j] => (small62 i ∧ small62 j) ∧ Q (rangeD i (j - i).toNat) δ1
  | _ => False
/-- all results looked at -/
theorem SimW.looks {K : PySem.W.Frag} {c : Ctx} {σ : St} {H : Hp} {δ : DS} {vs : List V} {ss : List Sl} {F : Hp} {cs : Nat ⊕ Nat → Cn} (S : SimW K c σ H δ vs ss F cs) {ds : List Dv} (h : ss.mapM (view δ) = some ds) :
    ds.length = vs.length ∧ ∀ (j : Nat) (d : Dv), ds[j]? = some d → ∃ v, vs[j]? = some v ∧ Look K F H d v := by
  have aux : ∀ (ss : List Sl) (ds : List Dv), ss.mapM (view δ) = some ds → ds.length = ss.length ∧ ∀ (j : Nat) (d : Dv), ds[j]? = some d → ∃ s, ss[j]? = some s ∧ view δ s = some d := by
    intro ss
    induction ss with
    | nil => intro ds h; cases h; exact ⟨rfl, fun j d e => by simp at e⟩
    | cons s ss ih =>
      intro ds h
      rw [List.mapM_cons] at h
      cases e1 : view δ s with
      | none => rw [e1] at h; cases h
      | some d1 =>
        rw [e1] at h
        cases e2 : ss.mapM (view δ) with
        | none => rw [e2] at h; cases h
        | some d2 =>
          rw [e2] at h
          cases h
          obtain ⟨l, g⟩ := ih d2 e2
          refine ⟨by simp [l], fun j d e => ?_⟩
          cases j with
          | zero => cases e; exact ⟨s, rfl, e1⟩
          | succ j => exact g j d e
  obtain ⟨l, g⟩ := aux ss ds h
  refine ⟨by rw [l, S.rlen], fun j d e => ?_⟩
  obtain ⟨s, q1, q2⟩ := g j d e
  exact S.look q1 q2
theorem SimW.looks1 {K : PySem.W.Frag} {c : Ctx} {σ : St} {H : Hp} {δ : DS} {vs : List V} {ss : List Sl} {F : Hp} {cs : Nat ⊕ Nat → Cn} (S : SimW K c σ H δ vs ss F cs) {d : Dv} (h : ss.mapM (view δ) = some [d]) : ∃ v, vs = [v] ∧ Look K F H d v := by
  obtain ⟨l, g⟩ := S.looks h
  match vs, l with
  | [v], _ =>
    obtain ⟨w, e, q⟩ := g 0 d rfl
    cases e; exact ⟨v, rfl, q⟩
theorem SimW.looks2 {K : PySem.W.Frag} {c : Ctx} {σ : St} {H : Hp} {δ : DS} {vs : List V} {ss : List Sl} {F : Hp} {cs : Nat ⊕ Nat → Cn} (S : SimW K c σ H δ vs ss F cs) {d e : Dv} (h : ss.mapM (view δ) = some [d, e]) : ∃ v u, vs = [v, u] ∧ Look K F H d v ∧ Look K F H e u := by
  obtain ⟨l, g⟩ := S.looks h
  match vs, l with
  | [v, u], _ =>
    obtain ⟨w, q1, q2⟩ := g 0 d rfl
    obtain ⟨w', q3, q4⟩ := g 1 e rfl
    cases q1; cases q3; exact ⟨v, u, rfl, q2, q4⟩
theorem SimW.looks3 {K : PySem.W.Frag} {c : Ctx} {σ : St} {H : Hp} {δ : DS} {vs : List V} {ss : List Sl} {F : Hp} {cs : Nat ⊕ Nat → Cn} (S : SimW K c σ H δ vs ss F cs) {d e f : Dv} (h : ss.mapM (view δ) = some [d, e, f]) : ∃ v u w, vs = [v, u, w] ∧ Look K F H d v ∧ Look K F H e u ∧ Look K F H f w := by
  obtain ⟨l, g⟩ := S.looks h
  match vs, l with
  | [v, u, w], _ =>
    obtain ⟨w1, q1, q2⟩ := g 0 d rfl
    obtain ⟨w2, q3, q4⟩ := g 1 e rfl
    obtain ⟨w3, q5, q6⟩ := g 2 f rfl
    cases q1; cases q3; cases q5; exact ⟨v, u, w, rfl, q2, q4, q6⟩
section
variable {X : Cx} {tg : Expr}
theorem di_range1 {a : Expr} {t : DTA} {p pos : Pos} (hg : Gl X "range") (hm : X.mg "range" = none) (ha : DA X [a] t) (hs : starEach [a] X.env = [(false, eval a X.env)] := by rfl) : DI X tg (.Call (.Name "range" p) [a] [] pos) (dRng1 t) :=
  PI.to (pi_range1 hg hm ha hs) fun σ H R _ ⟨c, δ, W, S, ht, k⟩ => by
    refine ⟨c, δ, _, S, ht, fun vs H' δ1 ss S1 hw => ?_⟩
    split at hw
    · rename_i j e
      obtain ⟨F, cs, S2⟩ := S1
      obtain ⟨v, rfl, l⟩ := S2.looks1 e
      exact ⟨j, by rw [show v = .int j from l], hw.1.1, hw.1.2, k _ H' δ1 _ c ⟨Ex.refl _, Ex.refl _, rfl⟩ ⟨F, cs, S2.bare⟩ walk_range hw.2⟩
    · exact hw.elim
theorem di_range2 {a b : Expr} {t : DTA} {p pos : Pos} (hg : Gl X "range") (hm : X.mg "range" = none) (ha : DA X [a, b] t) (hs : starEach [a, b] X.env = [(false, eval a X.env), (false, eval b X.env)] := by rfl) (hs2 : starEach [b] X.env = [(false, eval b X.env)] := by rfl) :
    DI X tg (.Call (.Name "range" p) [a, b] [] pos) (dRng2 t) :=
  PI.to (pi_range2 hg hm ha hs hs2) fun σ H R _ ⟨c, δ, W, S, ht, k⟩ => by
    refine ⟨c, δ, _, S, ht, fun vs H' δ1 ss S1 hw => ?_⟩
    split at hw
    · rename_i i j e
      obtain ⟨F, cs, S2⟩ := S1
      obtain ⟨v, u, rfl, l1, l2⟩ := S2.looks2 e
      exact ⟨i, j, by rw [show v = .int i from l1, show u = .int j from l2], ⟨hw.1.1.1, hw.1.1.2, hw.1.2.1, hw.1.2.2⟩, k _ H' δ1 _ c ⟨Ex.refl _, Ex.refl _, rfl⟩ ⟨F, cs, S2.bare⟩ walk_range hw.2⟩
    · exact hw.elim
end

/-! ### for -/
def dFor (wi : DTI) (g : DG) (tb : DTS) : DTS := fun E δ => match E with
  | ⟨nx, rt, _, _⟩ => wi δ fun items δ1 => ∃ I : Nat → DS → Prop, I 0 δ1 ∧
    (∀ i d δ2, items[i]? = some d → I i δ2 → g (.fz d) δ2 fun δ3 => tb ⟨I (i + 1), rt, nx, I (i + 1)⟩ δ3) ∧ ∀ δ2, I items.length δ2 → nx δ2
theorem dm_for {X : Cx} {P : List (Nat × V)} {ixs : List Nat} {tg iter : Expr} {body : List Stmt} {wi : DTI} {g : DG} {tb : DTS} {pos : Pos} (hp : PassesOwn (model X.prog X.w) X.A X.env X.xe) (hc : X.calm = true) (hi : DI X tg iter wi) (hg : DTg X P ixs tg g) (hb : DSts X P body tb)
    (hs : ∀ x, foldedSetIterable iter X.env x = pure x := by intro _; rfl) : DStm X P (.For tg iter body [] pos) (dFor wi g tb) :=
  PS.to (ps_for hp hc hi hg hb hs) fun D σ H _ ⟨F, R, δ, ⟨e1, e2, e3, e4⟩, S, ht, k1, k2, k3, k4⟩ => by
    refine ⟨⟨F, R, P⟩, δ, _, S, ht, fun J H1 δ1 items c' le S1 w ⟨I, i0, turn, fin⟩ => ?_⟩
    have hP : c'.P = P := le.P.symm
    have hcc : c' = ⟨c'.F, c'.R, P⟩ := by cases c'; cases hP; rfl
    refine ⟨fun i m σ H => m = items.length - i ∧ i ≤ items.length ∧ ∃ δ, Sim X.K c' σ H δ [] [] ∧ I i δ, ⟨items.length, by simp, Nat.zero_le _, δ1, S1, i0⟩, ?_⟩
    rintro i m σ H ⟨rfl, hi, δ2, S2, hI⟩
    obtain ⟨w1, w2, w3⟩ := w i c' σ H δ2 (Ex.refl _) S2
    by_cases hlt : i < items.length
    · refine .inr ⟨w1 hlt, fun σ' H' => ∃ δ, Sim X.K c' σ' H' δ [] [] ∧ I (i + 1) δ, fun σ' H' q => ⟨_, by omega, rfl, hlt, q⟩, fun x H' y => ?_⟩
      have S3 := w3 x H' _ (List.getElem?_eq_getElem hlt) y
      rw [hcc] at S3
      refine ⟨c'.F, c'.R, δ2, _, _, S3, turn i _ δ2 (List.getElem?_eq_getElem hlt) hI, fun σ' H'' δ3 _ S4 h4 => ?_⟩
      refine ⟨c'.F, c'.R, δ3, _, S4, h4, fun σ' H' δ' S' h' => ⟨δ', by rw [hcc]; exact S', h'⟩, fun σ' H' δ' S' h' => k1 σ' H' δ' (S'.weak ⟨le.F, le.R, rfl⟩) h', fun σ' H' δ' S' h' => ⟨δ', by rw [hcc]; exact S', h'⟩, fun σ' v H' δ' s S' h' => k4 σ' v H' δ' s (S'.weak ⟨le.F, le.R, rfl⟩) h'⟩
    · have e : i = items.length := by omega
      subst e
      exact .inl ⟨w2 rfl, k1 σ H δ2 (S2.weak le) (fin δ2 hI)⟩

/-! ### comprehensions -/
def wipeD (δ : DS) : List Nat → DS
  | [] => δ
  | v :: vs => (wipeD δ vs).set v none
/-- the slots vs as they were -/
def backD (δ δ0 : DS) : List Nat → DS
  | [] => δ
  | v :: vs => (backD δ δ0 vs).set v (δ0[v]?).join
def plainAt (δ : DS) (vs : List Nat) : Prop := ∀ v ∈ vs, δ[v]? = some none ∨ ∃ d, δ[v]? = some (some (.fz d))
def dTests : List DTB → DTB
  | [] => fun δ Q => Q true δ
  | [t] => t
  | _ => fun _ _ => False
@[irreducible] def LcB (g : DG) (tt : DTB) (te : DT) (vs : List Nat) (items : List Dv) (δ1 : DS) (Q : Sl → DS → Prop) : Prop := plainAt δ1 vs ∧ ∃ I : Nat → List Dv → DS → Prop, I 0 [] δ1 ∧
  (∀ i d acc δ2, items[i]? = some d → I i acc δ2 → plainAt δ2 vs ∧ g (.fz d) (wipeD δ2 vs) fun δ3 => tt δ3 fun b δ4 =>
    if b = true then te δ4 fun s δ5 => match fzR s δ5 with
      | some (e, δ6) => acc.length < sizeLine ∧ I (i + 1) (acc ++ [e]) (backD δ6 δ2 vs)
      | none => False
    else I (i + 1) acc (backD δ4 δ2 vs)) ∧
  ∀ acc δ2, I items.length acc δ2 → Q (.ml acc) δ2
def dLC (wi : DTI) (g : DG) (tt : DTB) (te : DT) (vs : List Nat) : DT := fun δ Q => wi δ fun items δ1 => LcB g tt te vs items δ1 Q
/-- a comprehension that leaves the state as it was -/
theorem lc_pure {items : List Dv} {g : DG} {tt : DTB} {te : DT} {vs : List Nat} {δ : DS} {Q : Sl → DS → Prop} (f : Dv → Option Dv) (hp : plainAt δ vs) (hl : items.length ≤ sizeLine)
    (h : ∀ d ∈ items, ∀ (A : Dv → DS → Prop) (B : DS → Prop), (∀ e, f d = some e → A e δ) → (f d = none → B δ) → g (.fz d) (wipeD δ vs) fun δ3 => tt δ3 fun b δ4 => if b = true then te δ4 fun s δ5 => match fzR s δ5 with
      | some (e, δ6) => A e (backD δ6 δ vs)
      | none => False
    else B (backD δ4 δ vs)) (k : Q (.ml (items.filterMap f)) δ) : LcB g tt te vs items δ Q := by
  unfold LcB
  refine ⟨hp, fun i acc δ' => i ≤ items.length ∧ acc = (items.take i).filterMap f ∧ δ' = δ, ⟨Nat.zero_le _, rfl, rfl⟩, ?_, ?_⟩
  · rintro i d acc δ2 hd ⟨hi, rfl, rfl⟩
    have hlt := (List.getElem?_eq_some_iff.mp hd).1
    have et : items.take (i + 1) = items.take i ++ [d] := by rw [List.take_succ, hd]; rfl
    refine ⟨hp, h d (List.mem_of_getElem? hd) (fun e δ' => ((items.take i).filterMap f).length < sizeLine ∧ (i + 1 ≤ items.length ∧ (items.take i).filterMap f ++ [e] = (items.take (i + 1)).filterMap f ∧ δ' = δ2))
      (fun δ' => i + 1 ≤ items.length ∧ (items.take i).filterMap f = (items.take (i + 1)).filterMap f ∧ δ' = δ2) (fun e he => ?_) fun he => ?_⟩
    · refine ⟨?_, hlt, ?_, rfl⟩
      · have := List.length_filterMap_le f (items.take i)
        rw [List.length_take] at this
        omega
      · rw [et, List.filterMap_append]; simp [he]
    · refine ⟨hlt, ?_, rfl⟩
      rw [et, List.filterMap_append]; simp [he]
  · rintro acc δ2 ⟨_, rfl, rfl⟩
    rw [List.take_length]
    exact k
theorem wipeD_length (δ : DS) : ∀ vs : List Nat, (wipeD δ vs).length = δ.length
  | [] => rfl
  | v :: vs => by unfold wipeD; rw [List.length_set, wipeD_length δ vs]
theorem backD_length (δ δ0 : DS) : ∀ vs : List Nat, (backD δ δ0 vs).length = δ.length
  | [] => rfl
  | v :: vs => by unfold backD; rw [List.length_set, backD_length δ δ0 vs]
theorem wipeD_get {δ : DS} {i : Nat} {s : Sl} : ∀ {vs : List Nat}, (wipeD δ vs)[i]? = some (some s) → δ[i]? = some (some s) ∧ i ∉ vs
  | [], h => ⟨h, by simp⟩
  | v :: vs, h => by
    unfold wipeD at h
    by_cases hi : v = i
    · subst hi
      by_cases hv : v < (wipeD δ vs).length
      · rw [List.getElem?_set_self hv] at h; cases h
      · rw [List.getElem?_eq_none (by simpa using hv)] at h; cases h
    · rw [List.getElem?_set_ne hi] at h
      obtain ⟨h1, h2⟩ := wipeD_get h
      exact ⟨h1, by simp only [List.mem_cons, not_or]; exact ⟨fun e => hi e.symm, h2⟩⟩
theorem backD_out {δ δ0 : DS} {i : Nat} : ∀ {vs : List Nat}, i ∉ vs → (backD δ δ0 vs)[i]? = δ[i]?
  | [], _ => rfl
  | v :: vs, h => by
    unfold backD
    rw [List.getElem?_set_ne fun e => h (by simp [e])]
    exact backD_out fun m => h (List.mem_cons_of_mem _ m)
theorem backD_in {δ δ0 : DS} {i : Nat} (hi : i < δ.length) : ∀ {vs : List Nat}, i ∈ vs → (backD δ δ0 vs)[i]? = some (δ0[i]?).join
  | v :: vs, h => by
    unfold backD
    by_cases e : v = i
    · subst e
      rw [List.getElem?_set_self (by rw [backD_length]; exact hi)]
    · rw [List.getElem?_set_ne e]
      exact backD_in hi ((List.mem_cons.mp h).resolve_left fun z => e z.symm)
section
variable {K : PySem.W.Frag} {c : Ctx} {σ : St} {H : Hp} {δ : DS}
/-- into the block: its own slots forgotten -/
theorem SimW.wipe {vs : List V} {ss : List Sl} {F : Hp} {cs : Nat ⊕ Nat → Cn} (S : SimW K c σ H δ vs ss F cs) (own : List Nat) (hs : ∀ s ∈ ss, s.slot) : SimW K ⟨F, c.R, []⟩ (L2.wipe σ own) H (wipeD δ own) vs ss F cs := by
  have old : ∀ x s, getX (wipeD δ own) ss x = some s → getX δ ss x = some s ∧ (∀ i, x = .inl i → i ∉ own) := fun x s e => by
    cases x with
    | inl i =>
      obtain ⟨h1, h2⟩ := wipeD_get (getX_inl.mp e)
      exact ⟨getX_inl.mpr h1, fun j q => by cases q; exact h2⟩
    | inr j => exact ⟨e, fun i q => nomatch q⟩
  have stay : ∀ (u : Sl) (n : Cn), u.slot → Holds K σ F H u n → Holds K (L2.wipe σ own) F H u n := fun u n hu h => by
    cases u with
    | al k => exact hu.elim
    | _ => cases n <;> exact h
  refine ⟨Ex.refl _, S.FH, S.RH, S.FR, by rw [wipe_length, wipeD_length]; exact S.len, S.rlen, fun p hp => absurd hp (by simp), fun i s e => S.noal i s (wipeD_get e).1, fun x s e => ?_, fun x y s t ne e1 e2 => S.apart x y s t ne (old x s e1).1 (old y t e2).1⟩
  obtain ⟨e', hx⟩ := old x s e
  obtain ⟨h1, h2, h3⟩ := S.here x s e'
  have hss : s.slot := by
    cases x with
    | inl i => exact S.noal i s (getX_inl.mp e')
    | inr j => exact hs s (List.mem_of_getElem? (show ss[j]? = some s from e'))
  refine ⟨?_, stay s _ hss h2, h3⟩
  cases x with
  | inl i =>
    rw [valX_inl, wipe_out (hx i rfl)]
    exact valX_inl.mp h1
  | inr j => exact h1
/-- out of the block -/
theorem SimW.unwipe {F0 : Hp} {cs0 : Nat ⊕ Nat → Cn} {H0 : Hp} {δ0 : DS} {σ5 : St} {H5 : Hp} {δ5 : DS} {vs : List V} {ss : List Sl} {F5 : Hp} {cs5 : Nat ⊕ Nat → Cn} (S0 : SimW K c σ H0 δ0 [] [] F0 cs0) (own : List Nat) (hp : plainAt δ0 own)
    (S : SimW K ⟨F0, c.R, []⟩ σ5 H5 δ5 vs ss F5 cs5) (hw : L2.wipe σ5 own = L2.wipe σ own) (hs : ∀ s ∈ ss, s.slot) : Sim K c σ H5 (backD δ5 δ0 own) vs ss := by
  let cc : Nat ⊕ Nat → Cn := fun x => match x with
    | .inl i => if i ∈ own then cs0 (.inl i) else cs5 (.inl i)
    | .inr j => cs5 (.inr j)
  have hlen : σ5.length = σ.length := by
    have := congrArg List.length hw
    rwa [wipe_length, wipe_length] at this
  have same : ∀ i, i ∉ own → σ5[i]? = σ[i]? := fun i hi => by rw [← wipe_out hi, hw, wipe_out hi]
  have stay : ∀ (σ' σ'' : St) (F : Hp) (H : Hp) (u : Sl) (n : Cn), u.slot → Holds K σ' F H u n → Holds K σ'' F H u n := fun σ' σ'' F H u n hu h => by
    cases u with
    | al k => exact hu.elim
    | _ => cases n <;> exact h
  have l05 : δ5.length = δ0.length := by rw [← S.len, hlen, S0.len]
  have get : ∀ i s, (backD δ5 δ0 own)[i]? = some (some s) → (i ∈ own ∧ ∃ d, s = .fz d ∧ δ0[i]? = some (some (.fz d))) ∨ (i ∉ own ∧ δ5[i]? = some (some s)) := fun i s e => by
    by_cases hi : i ∈ own
    · have hl : i < δ5.length := by
        have := (List.getElem?_eq_some_iff.mp e).1
        rwa [backD_length] at this
      rw [backD_in hl hi] at e
      rcases hp i hi with q | ⟨d, q⟩
      · rw [q] at e; cases e
      · rw [q] at e; cases e; exact .inl ⟨hi, d, rfl, q⟩
    · rw [backD_out hi] at e
      exact .inr ⟨hi, e⟩
  have e0F : Ex F0 F5 := S.fF
  have feet0 : ∀ i d, δ0[i]? = some (some (.fz d)) → (cs0 (.inl i)).feet = [] ∧ Rep K F5 d (cs0 (.inl i)).val ∧ σ[i]? = some (some (cs0 (.inl i)).val) := fun i d q => by
    obtain ⟨h1, h2, _⟩ := S0.at q
    generalize cs0 (Sum.inl i) = n at h1 h2
    cases n with
    | v x => exact ⟨rfl, Rep.mono e0F h2, h1⟩
    | _ => exact h2.elim
  refine ⟨F5, cc, ⟨S0.fF.trans e0F, S.FH, S.RH, S.FR, by rw [backD_length, l05, S0.len], S.rlen, fun p h => ?_, fun i s e => ?_, fun x s e => ?_, fun x y s t ne e1 e2 => ?_⟩⟩
  · exact S0.pin p h
  · rcases get i s e with ⟨_, d, rfl, _⟩ | ⟨_, q⟩
    · trivial
    · exact S.noal i s q
  · cases x with
    | inl i =>
      rcases get i s (getX_inl.mp e) with ⟨hi, d, rfl, q⟩ | ⟨hi, q⟩
      · obtain ⟨f1, f2, f3⟩ := feet0 i d q
        rw [show cc (.inl i) = cs0 (.inl i) from if_pos hi]
        refine ⟨valX_inl.mpr f3, ?_, fun a ha => absurd (f1 ▸ ha) (by simp)⟩
        generalize cs0 (Sum.inl i) = n at f1 f2
        cases n with
        | v x => exact f2
        | _ => simp [Cn.feet] at f1
      · obtain ⟨h1, h2, h3⟩ := S.at q
        rw [show cc (.inl i) = cs5 (.inl i) from if_neg hi]
        exact ⟨valX_inl.mpr (by rw [← same i hi]; exact h1), stay σ5 σ _ _ s _ (S.noal i s q) h2, h3⟩
    | inr j =>
      obtain ⟨h1, h2, h3⟩ := S.here (.inr j) s e
      exact ⟨h1, stay σ5 σ _ _ s _ (hs s (List.mem_of_getElem? (show ss[j]? = some s from e))) h2, h3⟩
  · have red : ∀ x s, getX (backD δ5 δ0 own) ss x = some s → (cc x).feet = [] ∨ (getX δ5 ss x = some s ∧ cc x = cs5 x) := fun x s e => by
      cases x with
      | inl i =>
        rcases get i s (getX_inl.mp e) with ⟨hi, d, rfl, q⟩ | ⟨hi, q⟩
        · exact .inl (by rw [show cc (.inl i) = cs0 (.inl i) from if_pos hi]; exact (feet0 i d q).1)
        · exact .inr ⟨getX_inl.mpr q, if_neg hi⟩
      | inr j => exact .inr ⟨e, rfl⟩
    rcases red x s e1 with f | ⟨f1, g1⟩
    · rw [f]; intro a ha; exact absurd ha (by simp)
    · rcases red y t e2 with f | ⟨f2, g2⟩
      · rw [f]; intro a _ ha; exact absurd ha (by simp)
      · rw [g1, g2]; exact S.apart x y s t ne f1 f2
theorem But.wipe {ixs own : List Nat} {σ σ' : St} (b : But ixs σ σ') (h : ∀ i ∈ ixs, i ∈ own) : L2.wipe σ' own = L2.wipe σ own := by
  apply List.ext_getElem?
  intro i
  by_cases hi : i ∈ own
  · have no : ∀ τ : St, τ.length = σ.length → (L2.wipe τ own)[i]? = if i < σ.length then some none else none := fun τ hl => by
      split
      · rename_i hlt
        cases q : (L2.wipe τ own)[i]? with
        | none => exact absurd (List.getElem?_eq_none_iff.mp q) (by rw [wipe_length]; omega)
        | some o =>
          cases o with
          | none => rfl
          | some x => exact absurd hi (wipe_some q).2
      · rename_i hlt
        exact List.getElem?_eq_none (by rw [wipe_length]; omega)
    rw [no σ' b.1, no σ rfl]
  · rw [wipe_out hi, wipe_out hi, b.2 i fun z => hi (h i z)]
theorem But.wipe0 {ixs own : List Nat} {σ σ' : St} (b : But ixs (L2.wipe σ own) σ') (h : ∀ i ∈ ixs, i ∈ own) : L2.wipe σ' own = L2.wipe σ own := by
  rw [But.wipe b h]
  apply List.ext_getElem?
  intro i
  by_cases hi : i ∈ own
  · have h1 : ∀ τ : St, τ.length = σ.length → (L2.wipe τ own)[i]? = if i < σ.length then some none else none := fun τ hl => by
      split
      · rename_i hlt
        cases q : (L2.wipe τ own)[i]? with
        | none => exact absurd (List.getElem?_eq_none_iff.mp q) (by rw [wipe_length]; omega)
        | some o =>
          cases o with
          | none => rfl
          | some x => exact absurd hi (wipe_some q).2
      · rename_i hlt
        exact List.getElem?_eq_none (by rw [wipe_length]; omega)
    rw [h1 _ (wipe_length _ _), h1 σ rfl]
  · rw [wipe_out hi]
end
end DL

set_option Elab.async false
set_option linter.all false
set_option maxRecDepth 100000
set_option maxHeartbeats 4000000
/-! DLE: comprehensions' rule; defs and their calls over data. -/
namespace DL
open PySem L2
open PyProof.Rows (envOfC)
section
variable {X : Cx}
theorem lc_sem {K : PySem.W.Frag} {wi : DTI} {g : DG} {tt : DTB} {te : DT} {own ixs : List Nat} (hix : ∀ i ∈ ixs, i ∈ own) {σ : St} {H : Hp} {Q : VK} (h : liftE K (dLC wi g tt te own) σ H Q) :
    tLc (liftI K wi) (liftG K [] ixs g) (liftT K tt) (liftE K te) own σ H Q := by
  obtain ⟨c, δ, W, S, ht, k⟩ := h
  refine ⟨c, δ, _, S, ht, fun J H1 δ1 items c' le S1 w hb D hD => ?_⟩
  unfold LcB at hb
  obtain ⟨hp1, I, i0, turn, fin⟩ := hb
  obtain ⟨F1, cs1, T1⟩ := S1
  have start : Sim K c' σ (upd H1 D (.lst [])) δ1 [.ref D] [.ml []] := T1.resL hD Reps.nil
  refine ⟨fun i m H => m = items.length - i ∧ i ≤ items.length ∧ ∃ acc δ, Sim K c' σ H δ [.ref D] [.ml acc] ∧ I i acc δ, ⟨items.length, by simp, Nat.zero_le _, [], δ1, start, i0⟩, ?_⟩
  rintro i m H ⟨rfl, hi, acc, δ2, S2, hI⟩
  obtain ⟨w1, w2, w3⟩ := w i c' σ H δ2 (Ex.refl _) S2.bare
  by_cases hlt : i < items.length
  · refine .inr ⟨w1 hlt, fun H => ∃ acc δ, Sim K c' σ H δ [.ref D] [.ml acc] ∧ I (i + 1) acc δ, fun H' q => ⟨_, by omega, rfl, hlt, q⟩, fun x H' y => ?_⟩
    obtain ⟨hp2, ht2⟩ := turn i _ acc δ2 (List.getElem?_eq_getElem hlt) hI
    obtain ⟨F2, cs2, T2⟩ := S2
    -- the new list is held
    obtain ⟨c2, l2, ef2, T3, back⟩ := T2.hold
    have S3 : Sim K c2 σ H' δ2 [x] [.fz _] := (w i c2 σ H δ2 l2.F ⟨F2, cs2, T3⟩).2.2 x H' _ (List.getElem?_eq_getElem hlt) y
    obtain ⟨F3, cs3, T4⟩ := S3
    have T5 := T4.wipe own (by intro s hs; simp at hs; subst hs; trivial)
    refine ⟨F3, c2.R, wipeD δ2 own, _, _, ⟨F3, cs3, T5⟩, ht2, fun σ6 H6 δ6 but S6 h6 => ?_⟩
    have hw : L2.wipe σ6 own = L2.wipe σ own := But.wipe0 but hix
    have hw' : L2.wipe σ6 own = L2.wipe (L2.wipe σ own) own := by rw [hw]; exact (But.wipe0 (But.refl ixs _) hix).symm
    refine ⟨by rw [hw]; try exact hw', ⟨F3, c2.R, []⟩, δ6, _, S6, h6, fun b H7 δ7 S7 h7 => ?_⟩
    cases b with
    | false =>
      obtain ⟨F7, cs7, T7⟩ := S7
      have S8 : Sim K c2 σ H7 (backD δ7 δ2 own) [] [] := T4.bare.unwipe own hp2 T7 hw (by intro s hs; simp at hs)
      have S9 := back S8
      simp only [List.append_nil] at S9
      exact ⟨acc, _, S9, h7⟩
    | true =>
      refine ⟨⟨F3, c2.R, []⟩, δ7, _, S7, h7, fun v H8 δ8 s S8 h8 => ?_⟩
      split at h8
      · rename_i e δ9 ef
        obtain ⟨F9, cs9, T9⟩ := S8.fz ef
        have S10 : Sim K c2 σ H8 (backD δ9 δ2 own) [v] [.fz e] := T4.bare.unwipe own hp2 T9 hw (by intro s hs; simp at hs; subst hs; trivial)
        obtain ⟨F11, cs11, T11⟩ := back S10
        -- the item goes into the list
        obtain ⟨r1, r2, r3⟩ := T11.here (.inr 0) (.ml acc) rfl
        obtain ⟨p1, p2, p3⟩ := T11.here (.inr 1) (.fz e) rfl
        have hc1 : cs11 (.inr 0) = .l D := by
          generalize cs11 (Sum.inr 0) = n at r1 r2
          cases n with
          | l p => have : V.ref D = V.ref p := by injection r1
                   cases this; rfl
          | _ => exact r2.elim
        rw [hc1] at r2 r3
        obtain ⟨xs, hx, hr⟩ := r2
        have hv : Rep K F11 e v := by
          generalize cs11 (Sum.inr 1) = n at p1 p2
          cases n with
          | v z => have : v = z := by injection p1
                   rw [this]; exact p2
          | _ => exact p2.elim
        have fD := r3 D (by simp [Cn.feet])
        refine ⟨xs, hx, by rw [← Reps.length hr]; exact h8.1, acc ++ [e], _, ?_, h8.2⟩
        have hr2 : Reps K F11 (acc ++ [e]) (xs ++ [v]) := hr.append (Reps.cons hv Reps.nil)
        let cc : Nat ⊕ Nat → Cn := fun x => match x with
          | .inl i => cs11 (.inl i)
          | .inr _ => .l D
        have offD : ∀ (j : Nat) (s : Sl), (backD δ9 δ2 own)[j]? = some (some s) → ∀ a ∈ (cs11 (.inl j)).feet, a ≠ D := fun j s q a ha z => by
          subst z
          exact T11.apart (.inl j) (.inr 0) s (.ml acc) (by intro q; cases q) (getX_inl.mpr q) rfl a ha (by rw [hc1]; simp [Cn.feet])
        refine ⟨F11, cc, ⟨T11.fF, T11.FH.mut fD.1, T11.RH.mut fD.2, T11.FR, T11.len, rfl, T11.pin, T11.noal, fun x s q => ?_, fun x y s t ne q1 q2 => ?_⟩⟩
        · rcases getX_one q with ⟨j, rfl, q'⟩ | ⟨rfl, rfl⟩
          · obtain ⟨k1, k2, k3⟩ := T11.at q'
            exact ⟨valX_inl.mpr k1, k2.stay (Ex.refl _) fun a ha => upd_ne (offD j s q' a ha), k3⟩
          · exact ⟨rfl, ⟨_, upd_same, hr2⟩, fun a ha => by
              have : a = D := by simpa using (show a ∈ [D] from ha)
              subst this; exact fD⟩
        · rcases getX_one q1 with ⟨j, rfl, q1'⟩ | ⟨rfl, rfl⟩
          · rcases getX_one q2 with ⟨j', rfl, q2'⟩ | ⟨rfl, rfl⟩
            · exact T11.apart _ _ s t ne (getX_inl.mpr q1') (getX_inl.mpr q2')
            · intro a ha hb
              exact offD j s q1' a ha (by simpa using (show a ∈ [D] from hb))
          · rcases getX_one q2 with ⟨j', rfl, q2'⟩ | ⟨rfl, rfl⟩
            · intro a ha hb
              exact offD j' t q2' a hb (by simpa using (show a ∈ [D] from ha))
            · exact absurd rfl ne
      · exact h8.elim
  · have e : i = items.length := by omega
    subst e
    exact .inl ⟨w2 rfl, k _ H δ2 _ (S2.weak le) (fin acc δ2 hI)⟩
/-- the tests of a comprehension: none, one -/
theorem dts_nil {Y : Cx} : PTs Y [] (liftT X.K (dTests [])) := ⟨fun pins s σ H Q I ⟨c, δ, W, S, h, k⟩ => wpAny_tests_nil ⟨H, I, k true H δ S h⟩⟩
theorem de_lc {elt tg iter : Expr} {ifs : List Expr} {scope : Scope} {own : List (Str × Nat)} {ixs : List Nat} {pos : Pos} {wi : DTI} {g : DG} {tt : DTB} {te : DT} (hc : X.calm = true) (hN : X.N.Nodup) (hi : DI X tg iter wi) (ok : BlkOk X.N X.env.scope scope own)
    (hg : ∀ (s : Shared) (H : Hp) (C : Addr) (cl : List (Str × Addr)) (fp : List Addr), DTg (X.blk s H scope (compEnvC scope cl C X.env) fp) [] ixs tg g) (ht : ∀ (s : Shared) (H : Hp) (C : Addr) (cl : List (Str × Addr)) (fp : List Addr), PTs (X.blk s H scope (compEnvC scope cl C X.env) fp) ifs (liftT X.K tt))
    (he : ∀ (s : Shared) (H : Hp) (C : Addr) (cl : List (Str × Addr)) (fp : List Addr), DE (X.blk s H scope (compEnvC scope cl C X.env) fp) elt te) (hix : ∀ i ∈ ixs, i ∈ own.map (·.2)) (hs : ∀ x, foldedSetIterable iter X.env x = pure x := by intro _; rfl) :
    DE X (.ListComp elt [⟨tg, iter, ifs, 0⟩] scope pos) (dLC wi g tt te (own.map (·.2))) :=
  PE.to (pe_lc (wi := liftI X.K wi) (g := liftG X.K [] ixs g) (tt := liftT X.K tt) (te := liftE X.K te) hc hN hi ok hg ht he hs) fun σ H Q _ h => lc_sem hix h
theorem dm_setLc {P : List (Nat × V)} {i : Nat} {y : Str} {py : Pos} {elt tg iter : Expr} {ifs : List Expr} {scope : Scope} {own : List (Str × Nat)} {ixs : List Nat} {pos spos : Pos} {wi : DTI} {g : DG} {tt : DTB} {te : DT} (hc : X.calm = true) (hN : X.N.Nodup) (hy : X.N[i]? = some y) (hyl : X.env.scope.names.lookup y = some .local)
    (hsw : swapsWith (.ListComp elt [⟨tg, iter, ifs, 0⟩] scope pos) (some (.Name y py)) spos.line X.env = pure true) (hp : free P i = true) (hi : DI X tg iter wi) (ok : BlkOk X.N X.env.scope scope own)
    (hg : ∀ (s : Shared) (H : Hp) (C : Addr) (cl : List (Str × Addr)) (fp : List Addr), DTg (X.blk s H scope (compEnvC scope cl C X.env) fp) [] ixs tg g) (ht : ∀ (s : Shared) (H : Hp) (C : Addr) (cl : List (Str × Addr)) (fp : List Addr), PTs (X.blk s H scope (compEnvC scope cl C X.env) fp) ifs (liftT X.K tt))
    (he : ∀ (s : Shared) (H : Hp) (C : Addr) (cl : List (Str × Addr)) (fp : List Addr), DE (X.blk s H scope (compEnvC scope cl C X.env) fp) elt te) (hix : ∀ i ∈ ixs, i ∈ own.map (·.2)) (hs : ∀ x, foldedSetIterable iter X.env x = pure x := by intro _; rfl) :
    DStm X P (.Assign [.Name y py] (.ListComp elt [⟨tg, iter, ifs, 0⟩] scope pos) spos) (dSet i (dLC wi g tt te (own.map (·.2)))) :=
  PS.to (ps_setLc (wi := liftI X.K wi) (g := liftG X.K [] ixs g) (tt := liftT X.K tt) (te := liftE X.K te) hc hN hy hyl hsw hi ok hg ht he hs) fun D σ H hl ⟨F, R, δ, E, S, ht, k1, _⟩ =>
    lc_sem (K := X.K) hix ⟨_, δ, _, S, ht, fun v H' δ' s S' h' => name_set (by rw [hl]; exact (List.getElem?_eq_some_iff.mp hy).1) hp S' h' fun σ' H' δ' _ => k1 σ' H' δ'⟩
end

/-! ### defs -/
/-- what a def does: its arguments (the first m of them handed over to be changed), what is wanted of the answer and of these -/
abbrev FS := List Sl → (Sl → List Sl → Prop) → Prop
def spOf (K : PySem.W.Frag) (m n : Nat) (f : FS) : Sp := fun vs H Q E => ∃ F R δ W, δ.length = n ∧ Sim K ⟨F, R, []⟩ (vs.map some) H (δ.map some) [] [] ∧ (∀ j s, δ[j]? = some s → m ≤ j → ∃ d, s = .fz d) ∧ f δ W ∧
  ∀ v H' r outs, outs.length = m → r.slot → Sim K ⟨F, R, []⟩ ((vs.take m).map some) H' (outs.map some) [v] [r] → W r outs → Q v H'
theorem spOf_len {K : PySem.W.Frag} {m n : Nat} {f : FS} {vs : List V} {H : Hp} {Q : VK} {E : XK} (h : spOf K m n f vs H Q E) : vs.length = n := by
  obtain ⟨F, R, δ, W, hl, ⟨F2, cs, S⟩, _⟩ := h
  have := S.len
  rw [List.length_map, List.length_map] at this
  rw [this, hl]
/-- the slots at a def's start -/
def startD (n : Nat) (δ : List Sl) : DS := δ.map some ++ List.replicate (n - δ.length) none
/-- the end of a def's body -/
def endD (m : Nat) (W : Sl → List Sl → Prop) (r : Sl) (δ : DS) : Prop := r.slot ∧ ∃ outs, outs.length = m ∧ δ.take m = outs.map some ∧ W r outs
def pinsOf (m : Nat) (vs : List V) : List (Nat × V) := (List.range m).zip vs
theorem pins_free {m i : Nat} {vs : List V} (h : m ≤ i) : free (pinsOf m vs) i = true := by
  unfold free pinsOf
  rw [List.all_eq_true]
  intro p hp
  have := (List.of_mem_zip hp).1
  have := List.mem_range.mp this
  simp; omega
/-- the first m slots alone -/
theorem SimW.cutTo {K : PySem.W.Frag} {c : Ctx} {σ : St} {H : Hp} {δ : DS} {v : V} {r : Sl} {F : Hp} {cs : Nat ⊕ Nat → Cn} (S : SimW K c σ H δ [v] [r] F cs) (m : Nat) (hr : r.slot) : SimW K ⟨c.F, c.R, []⟩ (σ.take m) H (δ.take m) [v] [r] F cs := by
  have old : ∀ x s, getX (δ.take m) [r] x = some s → getX δ [r] x = some s ∧ (∀ i, x = .inl i → i < m) := fun x s e => by
    rcases getX_one e with ⟨i, rfl, q⟩ | ⟨rfl, rfl⟩
    · have hi : i < m := by
        have := (List.getElem?_eq_some_iff.mp q).1
        rw [List.length_take] at this; omega
      rw [List.getElem?_take_of_lt hi] at q
      exact ⟨getX_inl.mpr q, fun j z => by cases z; exact hi⟩
    · exact ⟨rfl, fun j z => nomatch z⟩
  refine ⟨S.fF, S.FH, S.RH, S.FR, by rw [List.length_take, List.length_take, S.len], rfl, fun p hp => absurd hp (by simp), fun i s e => ?_, fun x s e => ?_, fun x y s t ne e1 e2 => S.apart x y s t ne (old x s e1).1 (old y t e2).1⟩
  · have := (old (.inl i) s (getX_inl.mpr e)).1
    exact S.noal i s (getX_inl.mp this)
  · obtain ⟨e', hx⟩ := old x s e
    obtain ⟨h1, h2, h3⟩ := S.here x s e'
    have hss : s.slot := by
      rcases getX_one e' with ⟨i, rfl, q⟩ | ⟨rfl, rfl⟩
      · exact S.noal i s q
      · exact hr
    refine ⟨?_, ?_, h3⟩
    · cases x with
      | inl i =>
        rw [valX_inl, List.getElem?_take_of_lt (hx i rfl)]
        exact valX_inl.mp h1
      | inr j => exact h1
    · cases s with
      | al k => exact hss.elim
      | _ => generalize cs x = n at h2 ⊢; cases n <;> exact h2
section
variable {P : Program} {w : World} {K : PySem.W.Frag} {mg : Str → Option Value} {base : Heap}
/-- THE RULE: a def by its body over data -/
theorem fn_ok {x qual : Str} {st : Stmt} {f : Addr} {fd : FuncData} {N ps : List Str} {k : Nat} {m : Nat} {sp : FS} {t : DTS} (F : Fun K x qual st f fd) (S : FnScope N ps (defScope st)) (hm : m ≤ ps.length)
    (hbody : ∀ (cdv : Value) (A : Around) (outer : List Env) (s : Shared) (H : Hp) (E : XK) (Pn : List (Nat × V)), Room k (A.deeper (envOfC qual (defScope st) s.heap.objs.size f cdv)) → (∀ i, m ≤ i → free Pn i = true) →
      DSts (cxOf CX0 P w K mg base N qual (defScope st) f cdv A outer s H E).nox Pn (defBody st) t)
    (hsem : ∀ δ W, δ.length = ps.length → sp δ W → t { nx := endD m W (.fz .non), rt := endD m W } (startD N.length δ)) : FnOk P w K mg base CX0 (k + 1) f fd ps (spOf K m ps.length sp) := by
  refine F.ok S (fun vs H Q E h => spOf_len h) (fun cdv A outer s H vs Q E hr h => ?_)
  have hvl := spOf_len h
  obtain ⟨F0, R0, δ, W, hl, ⟨F1, cs, T⟩, hargs, hsp, k1⟩ := h
  have hpl : ps.length ≤ N.length := by have := congrArg List.length S.pre; rw [List.length_take] at this; omega
  refine ⟨_, hbody cdv A outer s H E (pinsOf m vs) hr fun i hi => pins_free hi, ?_⟩
  have get : ∀ i u, (startD N.length δ)[i]? = some (some u) → δ[i]? = some u := fun i u q => by
    unfold startD at q
    by_cases hi : i < δ.length
    · rw [List.getElem?_append_left (by simpa using hi), List.getElem?_map] at q
      cases e : δ[i]? with
      | none => rw [e] at q; cases q
      | some z => rw [e] at q; cases q; rfl
    · rw [List.getElem?_append_right (by simpa using hi), List.getElem?_replicate] at q
      split at q <;> cases q
  have getm : ∀ {i u}, δ[i]? = some u → (δ.map some)[i]? = some (some u) := fun {i u} q => by rw [List.getElem?_map, q]; rfl
  have svl : ∀ {i : Nat} {v : V}, vs[i]? = some v → (L2.start N vs)[i]? = some (some v) := fun {i v} q => by
    unfold L2.start
    have hi : i < vs.length := (List.getElem?_eq_some_iff.mp q).1
    rw [List.getElem?_append_left (by simpa using hi), List.getElem?_map, q]; rfl
  have S0 : Sim K ⟨F0, R0, pinsOf m vs⟩ (L2.start N vs) H (startD N.length δ) [] [] := by
    refine ⟨F1, cs, ⟨T.fF, T.FH, T.RH, T.FR, ?_, rfl, fun p hp => ?_, fun i u q => T.noal i u (getm (get i u q)), fun x u q => ?_, fun a b u v ne q1 q2 => ?_⟩⟩
    · unfold L2.start startD
      rw [List.length_append, List.length_append, List.length_map, List.length_map, List.length_replicate, List.length_replicate, hvl, hl]
    · have h1 := List.of_mem_zip hp
      obtain ⟨j, hj⟩ := List.getElem?_of_mem hp
      have hj' : j < m ∧ p.1 = j ∧ vs[j]? = some p.2 := by
        unfold pinsOf at hj
        rw [List.getElem?_zip_eq_some] at hj
        obtain ⟨q1, q2⟩ := hj
        have hjm : j < m := by have := (List.getElem?_eq_some_iff.mp q1).1; simpa using this
        rw [List.getElem?_range hjm] at q1
        exact ⟨hjm, (Option.some.inj q1).symm, q2⟩
      show (L2.start N vs)[p.1]? = _
      rw [hj'.2.1]
      exact svl hj'.2.2
    · obtain ⟨i, rfl, q'⟩ := getX_nil q
      have e := getm (get i u q')
      obtain ⟨h1, h2, h3⟩ := T.at e
      refine ⟨valX_inl.mpr ?_, ?_, h3⟩
      · have hv : vs[i]? = some (cs (.inl i)).val := by
          rw [List.getElem?_map] at h1
          cases q3 : vs[i]? with
          | none => rw [q3] at h1; cases h1
          | some z => rw [q3] at h1; exact Option.some.inj h1
        exact svl hv
      · have hs := T.noal i u e
        cases u with
        | al j => exact hs.elim
        | _ => generalize cs (Sum.inl i) = n at h2 ⊢; cases n <;> exact h2
    · obtain ⟨i, rfl, q1'⟩ := getX_nil q1
      obtain ⟨j, rfl, q2'⟩ := getX_nil q2
      exact T.apart _ _ u v ne (getX_inl.mpr (getm (get i u q1'))) (getX_inl.mpr (getm (get j v q2')))
  have fin : ∀ (σ' : St) (v : V) (H' : Hp) (δ' : DS) (r : Sl), Sim K ⟨F0, R0, pinsOf m vs⟩ σ' H' δ' [v] [r] → endD m W r δ' → Q v H' := fun σ' v H' δ' r ⟨F3, cs3, S3⟩ ⟨hr3, outs, ho, hd, hW⟩ => by
    have S4 := S3.cutTo m hr3
    have ev : σ'.take m = (vs.take m).map some := by
      apply List.ext_getElem?
      intro i
      by_cases hi : i < m
      · have hiv : i < vs.length := by omega
        have pin := S3.pin (i, vs[i]) (by
          unfold pinsOf
          refine List.mem_of_getElem? (i := i) ?_
          rw [List.getElem?_zip_eq_some]
          exact ⟨List.getElem?_range hi, List.getElem?_eq_getElem hiv⟩)
        rw [List.getElem?_take_of_lt hi, List.getElem?_map, List.getElem?_take_of_lt hi, List.getElem?_eq_getElem hiv]
        exact pin
      · rw [List.getElem?_eq_none (by rw [List.length_take]; omega), List.getElem?_eq_none (by rw [List.length_map, List.length_take]; omega)]
    rw [ev, hd] at S4
    exact k1 v H' r outs ho hr3 ⟨F3, cs3, S4⟩ hW
  refine ⟨F0, R0, startD N.length δ, _, S0, hsem δ W hl hsp, fun σ' H' δ' ⟨F3, cs3, S3⟩ h' => ?_, fun σ' H' δ' S' h' => h'.elim, fun σ' H' δ' S' h' => h'.elim, fun σ' v H' δ' r S' h' => fin σ' v H' δ' r S' h'⟩
  exact fin σ' .non H' δ' (.fz .non) (S3.resFz rfl) h'
end
end DL

set_option Elab.async false
set_option linter.all false
set_option maxRecDepth 100000
set_option maxHeartbeats 4000000
/-! DLF: calls of defs over data. -/
namespace DL
open PySem L2
mutual
/-- no list, no dict within -/
def nolst : Dv → Bool
  | .tup ds => nolsts ds
  | .lst _ => false
  | .dic _ _ => false
  | .scr _ => false
  | _ => true
def nolsts : List Dv → Bool
  | [] => true
  | d :: ds => nolst d && nolsts ds
end
def nolstS : Sl → Bool
  | .fz d => nolst d
  | .ml ds => nolsts ds
  | .md _ ds => nolsts ds
  | .deal _ => true
  | .al _ => false
def Sl.flat : Sl → Bool
  | .al _ => false
  | _ => true
section
variable {K : PySem.W.Frag} {F F' : Hp}
mutual
theorem Rep.less (h : ∀ a o, F a = some o → F' a = some o ∨ (∃ xs, o = .lst xs) ∨ ∃ kvs, o = .dK kvs) : ∀ {d : Dv} {x : V}, nolst d = true → Rep K F d x → Rep K F' d x
  | .non, _, _, r => r
  | .bl _, _, _, r => r
  | .int _, _, _, r => r
  | .str _, _, _, r => r
  | .ty _, _, _, r => r
  | .tup ds, _, n, r => by
    obtain ⟨a, vs, h1, h2, h3⟩ := r
    refine ⟨a, vs, h1, ?_, Reps.less h (show nolsts ds = true from n) h3⟩
    rcases h2 with ⟨u, q, o, rfl, q1, q2⟩ | q
    · rcases h _ _ q with z | ⟨xs, z⟩ | ⟨kvs, z⟩
      · exact .inl ⟨_, z, o, rfl, q1, q2⟩
      · cases z
      · cases z
    · exact .inr q
  | .lst _, _, n, _ => absurd n (by simp [nolst])
  | .dic _ _, _, n, _ => absurd n (by simp [nolst])
  | .scr _, _, n, _ => absurd n (by simp [nolst])
theorem Reps.less (h : ∀ a o, F a = some o → F' a = some o ∨ (∃ xs, o = .lst xs) ∨ ∃ kvs, o = .dK kvs) : ∀ {ds : List Dv} {xs : List V}, nolsts ds = true → Reps K F ds xs → Reps K F' ds xs
  | [], _, _, r => r
  | d :: ds, _, n, r => by
    obtain ⟨v, r', h1, h2, h3⟩ := r
    have n' : nolst d = true ∧ nolsts ds = true := by simpa [nolsts] using n
    exact ⟨v, r', h1, Rep.less h n'.1 h2, Reps.less h n'.2 h3⟩
end
theorem Holds.less {σ : St} {H : Hp} (h : ∀ a o, F a = some o → F' a = some o ∨ (∃ xs, o = .lst xs) ∨ ∃ kvs, o = .dK kvs) {s : Sl} {n : Cn} (hs : nolstS s = true) (r : Holds K σ F H s n) : Holds K σ F' H s n := by
  cases s with
  | fz d => cases n with
    | v x => exact Rep.less h hs r
    | _ => exact r.elim
  | ml ds => cases n with
    | l p => obtain ⟨xs, q1, q2⟩ := r; exact ⟨xs, q1, Reps.less h hs q2⟩
    | _ => exact r.elim
  | md ks ds => cases n with
    | l p => obtain ⟨xs, q1, q3, q2⟩ := r; exact ⟨xs, q1, q3, Reps.less h hs q2⟩
    | _ => exact r.elim
  | deal => cases n with
    | d2 p q => exact r
    | _ => exact r.elim
  | al k => cases hs
end
theorem SimW.repAt {K : PySem.W.Frag} {c : Ctx} {σ : St} {H : Hp} {δ : DS} {vs : List V} {ss : List Sl} {F : Hp} {cs : Nat ⊕ Nat → Cn} (S : SimW K c σ H δ vs ss F cs) {j : Nat} {s : Sl} {d : Dv} (e : ss[j]? = some s) (hd : view δ s = some d) {F' : Hp} (FF : Ex F F')
    (h1 : ∀ a ∈ (cs (.inr j)).feet, F' a = H a) (h2 : ∀ k, s = .al k → ∀ a ∈ (cs (.inl k)).feet, F' a = H a) : ∃ v, vs[j]? = some v ∧ Rep K F' d v := by
  obtain ⟨q1, q2, _⟩ := S.here (.inr j) s e
  have own : ∀ {t : Sl} {n : Cn}, t.slot → view δ t = some d → Holds K σ F H t n → (∀ a ∈ n.feet, F' a = H a) → Rep K F' d n.val := fun {t n} ht hv hh hf => by
    cases t with
    | fz d' => cases n with
      | v x => cases hv; exact Rep.mono FF hh
      | _ => exact hh.elim
    | ml ds => cases n with
      | l p => cases hv; obtain ⟨xs, z1, z2⟩ := hh; exact ⟨p, xs, rfl, (hf p (by simp [Cn.feet])).trans z1, Reps.mono FF z2⟩
      | _ => exact hh.elim
    | md ks ds => cases n with
      | l p => cases hv; obtain ⟨xs, z1, z3, z2⟩ := hh; exact ⟨p, xs, rfl, (hf p (by simp [Cn.feet])).trans z1, z3, Reps.mono FF z2⟩
      | _ => exact hh.elim
    | deal => cases hv
    | al k => exact ht.elim
  refine ⟨_, q1, ?_⟩
  by_cases hs : s.slot
  · exact own hs hd q2 h1
  · cases s with
    | al k =>
      obtain ⟨t, e1, e2, ht⟩ := view_al hd
      obtain ⟨k1, k2, _⟩ := S.at e1
      have r := own ht e2 k2 (h2 k rfl)
      generalize cs (Sum.inr j) = n at q1 q2
      cases n with
      | v x =>
        have q : σ[k]? = some (some x) := q2
        rw [q] at k1
        have : x = (cs (.inl k)).val := by injection k1 with k1; injection k1
        show Rep K F' d x
        rw [this]; exact r
      | _ => exact q2.elim
    | _ => exact absurd trivial hs
theorem mapM_view {δ : DS} : ∀ {ss : List Sl} {ds : List Dv}, ss.mapM (view δ) = some ds → ds.length = ss.length ∧ ∀ (j : Nat) (d : Dv), ds[j]? = some d → ∃ s, ss[j]? = some s ∧ view δ s = some d
  | [], ds, h => by cases h; exact ⟨rfl, fun j d e => by simp at e⟩
  | s :: ss, ds, h => by
    rw [List.mapM_cons] at h
    cases e1 : view δ s with
    | none => rw [e1] at h; cases h
    | some d1 =>
      rw [e1] at h
      cases e2 : ss.mapM (view δ) with
      | none => rw [e2] at h; cases h
      | some d2 =>
        rw [e2] at h
        cases h
        obtain ⟨l, g⟩ := mapM_view e2
        refine ⟨by simp [l], fun j d e => ?_⟩
        cases j with
        | zero => cases e; exact ⟨s, rfl, e1⟩
        | succ j => exact g j d e
def ccsOf (o : Option (Nat × Sl)) (cs : Nat ⊕ Nat → Cn) (w : List V) : Nat ⊕ Nat → Cn
  | .inl i => match o with
    | some (k, _) => if i = 0 then cs (.inl k) else .v (w.getD i .non)
    | none => .v (w.getD i .non)
  | .inr _ => .v .non
theorem ccs_0 {o : Option (Nat × Sl)} {cs : Nat ⊕ Nat → Cn} {w : List V} {k : Nat} {u : Sl} (e : o = some (k, u)) : ccsOf o cs w (.inl 0) = cs (.inl k) := by
  subst e; rfl
theorem ccs_ne {o : Option (Nat × Sl)} {cs : Nat ⊕ Nat → Cn} {w : List V} {i : Nat} (h : i ≠ 0 ∨ o = none) : ccsOf o cs w (.inl i) = .v (w.getD i .non) := by
  rcases h with h | h
  · cases o with
    | none => rfl
    | some p => exact if_neg h
  · subst h; rfl
theorem Holds.sig {K : PySem.W.Frag} {σ σ' : St} {F H : Hp} {s : Sl} {n : Cn} (hs : s.slot) (h : Holds K σ F H s n) : Holds K σ' F H s n := by
  cases s with
  | al j => exact hs.elim
  | _ => cases n <;> exact h
def putO (o : Option (Nat × Sl)) (outs : List Sl) (δ : DS) : DS := match o, outs with
  | some (k, _), u :: _ => δ.set k (some u)
  | _, _ => δ
open Classical in
/-- the callee's view of the state, and the caller's behind it; o: the slot that is handed over to be changed -/
theorem call_core {K : PySem.W.Frag} {c : Ctx} {σ : St} {H : Hp} {δ : DS} {v0 vs : List V} {s0 ss : List Sl} {F : Hp} {cs : Nat ⊕ Nat → Cn} (o : Option (Nat × Sl)) (S : SimW K c σ H δ (v0 ++ vs) (s0 ++ ss) F cs) (hs0 : s0 = o.toList.map fun p => .al p.1) {ds : List Dv}
    (ho : ∀ (k : Nat) (u : Sl), o = some (k, u) → δ[k]? = some (some u) ∧ ∀ j : Nat, ss[j]? ≠ some (.al k)) (hv : ss.mapM (view δ) = some ds) {f : FS} {Q : VK} {E : XK}
    (h : f (o.toList.map (fun p => p.2) ++ ds.map Sl.fz) fun r outs => outs.length = o.toList.length → (ss.all Sl.flat || (nolstS r && outs.all nolstS)) = true ∧ ∀ z H', Sim K c σ H' (putO o outs δ) [z] [r] → Q z H') : spOf K o.toList.length (o.toList.length + ds.length) f (v0 ++ vs) H Q E := by
  obtain ⟨hdl, hdg⟩ := mapM_view hv
  let m := o.toList.length
  have hs0l : s0.length = m := by rw [hs0, List.length_map]
  have hv0l : v0.length = m ∨ True := .inr trivial
  let Kp : Addr → Prop := fun a => ∃ k u, o = some (k, u) ∧ a ∈ (cs (.inl k)).feet
  let Bal : Addr → Prop := fun a => ∃ (j : Nat) (k : Nat), ss[j]? = some (.al k) ∧ (∃ u, δ[k]? = some (some u)) ∧ a ∈ (cs (.inl k)).feet
  let Bres : Addr → Prop := fun a => ∃ (j : Nat) (s : Sl), (s0 ++ ss)[j]? = some s ∧ a ∈ (cs (.inr j)).feet
  let Op : Addr → Prop := fun a => (∃ (i : Nat) (s : Sl), δ[i]? = some (some s) ∧ a ∈ (cs (.inl i)).feet) ∧ ¬ Bal a ∧ ¬ Kp a
  let Fc : Hp := fun a => if Bres a ∨ Bal a then H a else F a
  let Rc : Hp := fun a => if Op a then H a else c.R a
  have slotF : ∀ a, (∃ (i : Nat) (s : Sl), δ[i]? = some (some s) ∧ a ∈ (cs (.inl i)).feet) → (∃ o, H a = some o) ∧ F a = none ∧ c.R a = none := fun a ⟨i, s, e, ha⟩ => by
    obtain ⟨_, q2, q3⟩ := S.at e
    exact ⟨q2.foot a ha, (q3 a ha).1, (q3 a ha).2⟩
  have kSlot : ∀ a, Kp a → (∃ (i : Nat) (s : Sl), δ[i]? = some (some s) ∧ a ∈ (cs (.inl i)).feet) := fun a ⟨k, u, e, ha⟩ => ⟨k, u, (ho k u e).1, ha⟩
  have bSlot : ∀ a, Bal a → (∃ (i : Nat) (s : Sl), δ[i]? = some (some s) ∧ a ∈ (cs (.inl i)).feet) := fun a ⟨j, k, e, ⟨u, eu⟩, ha⟩ => ⟨k, u, eu, ha⟩
  have resF : ∀ a, Bres a → (∃ o, H a = some o) ∧ F a = none ∧ c.R a = none := fun a ⟨j, s, e, ha⟩ => by
    obtain ⟨_, q2, q3⟩ := S.here (.inr j) s e
    exact ⟨q2.foot a ha, (q3 a ha).1, (q3 a ha).2⟩
  have same : ∀ {a i j s t}, δ[i]? = some (some s) → δ[j]? = some (some t) → a ∈ (cs (.inl i)).feet → a ∈ (cs (.inl j)).feet → i = j := fun {a i j s t} e1 e2 h1 h2 => by
    by_cases z : i = j
    · exact z
    · exact absurd h2 (S.apart (.inl i) (.inl j) s t (fun q => z (Sum.inl.inj q)) (getX_inl.mpr e1) (getX_inl.mpr e2) a h1)
  have resSlot : ∀ a, Bres a → ¬ (∃ (i : Nat) (s : Sl), δ[i]? = some (some s) ∧ a ∈ (cs (.inl i)).feet) := fun a ⟨j, s, e, ha⟩ ⟨i, t, e2, hb⟩ =>
    S.apart (.inl i) (.inr j) t s (fun q => nomatch q) (getX_inl.mpr e2) e a hb ha
  have kB : ∀ a, Kp a → ¬ Bal a := fun a ⟨k, u, e, ha⟩ ⟨j, k', e2, ⟨u', eu⟩, hb⟩ => by
    have := same (ho k u e).1 eu ha hb
    subst this
    exact (ho k u e).2 j e2
  have Fc1 : ∀ {a}, Bres a ∨ Bal a → Fc a = H a := fun {a} h => if_pos h
  have Fc0 : ∀ {a}, ¬ (Bres a ∨ Bal a) → Fc a = F a := fun {a} h => if_neg h
  have Rc1 : ∀ {a}, Op a → Rc a = H a := fun {a} h => if_pos h
  have Rc0 : ∀ {a}, ¬ Op a → Rc a = c.R a := fun {a} h => if_neg h
  have BF : ∀ a, Bres a ∨ Bal a → (∃ o, H a = some o) ∧ F a = none ∧ c.R a = none := fun a h => h.elim (resF a) fun b => slotF a (bSlot a b)
  have FFc : Ex F Fc := fun a u e => by
    by_cases hb : Bres a ∨ Bal a
    · rw [(BF a hb).2.1] at e; cases e
    · rw [Fc0 hb]; exact e
  have FcH : Ex Fc H := fun a u e => by
    by_cases hb : Bres a ∨ Bal a
    · rw [← Fc1 hb]; exact e
    · rw [Fc0 hb] at e; exact S.FH a u e
  have RRc : Ex c.R Rc := fun a u e => by
    by_cases hb : Op a
    · rw [(slotF a hb.1).2.2] at e; cases e
    · rw [Rc0 hb]; exact e
  have RcH : Ex Rc H := fun a u e => by
    by_cases hb : Op a
    · rw [← Rc1 hb]; exact e
    · rw [Rc0 hb] at e; exact S.RH a u e
  have FcRc : ∀ a u, Fc a = some u → Rc a = none := fun a u e => by
    by_cases hb : Bres a ∨ Bal a
    · have : ¬ Op a := fun q => hb.elim (fun b => resSlot a b q.1) fun b => q.2.1 b
      rw [Rc0 this]; exact (BF a hb).2.2
    · rw [Fc0 hb] at e
      have : ¬ Op a := fun q => by rw [(slotF a q.1).2.1] at e; cases e
      rw [Rc0 this]; exact S.FR a u e
  let ccs : Nat ⊕ Nat → Cn := ccsOf o cs (v0 ++ vs)
  have hl0 : v0.length + vs.length = s0.length + ss.length := by have := S.rlen; simpa using this
  -- the values
  have valK : ∀ k u, o = some (k, u) → (v0 ++ vs)[0]? = some (cs (.inl k)).val := fun k u e => by
    have e0 : (s0 ++ ss)[0]? = some (.al k) := by rw [hs0, e]; rfl
    obtain ⟨h1, h2, _⟩ := S.here (.inr 0) _ e0
    have h1' : (v0 ++ vs)[0]? = some (cs (.inr 0)).val := h1
    obtain ⟨q1, _, _⟩ := S.at (ho k u e).1
    rw [h1']
    generalize cs (Sum.inr 0) = n at h2
    cases n with
    | v x =>
      have q : σ[k]? = some (some x) := h2
      rw [q] at q1
      injection q1 with q1
    | _ => exact h2.elim
  have argG : ∀ (j : Nat) (d : Dv), ds[j]? = some d → ∃ v, (v0 ++ vs)[m + j]? = some v ∧ Rep K Fc d v := fun j d e => by
    obtain ⟨s, e1, e2⟩ := hdg j d e
    have e3 : (s0 ++ ss)[m + j]? = some s := by rw [List.getElem?_append_right (by omega), hs0l]; simpa using e1
    refine S.repAt e3 e2 FFc (fun a ha => Fc1 (.inl ⟨_, s, e3, ha⟩)) fun k es a ha => ?_
    subst es
    obtain ⟨t, f1, _, _⟩ := view_al e2
    exact Fc1 (.inr ⟨j, k, e1, ⟨t, f1⟩, ha⟩)
  have slots : ∀ (i : Nat) (s : Sl), ((o.toList.map (fun p => p.2) ++ ds.map Sl.fz).map some)[i]? = some (some s) → (∃ k, o = some (k, s) ∧ i = 0) ∨ ∃ j d, i = m + j ∧ ds[j]? = some d ∧ s = .fz d := fun i s e => by
    rw [List.getElem?_map] at e
    have e' : (o.toList.map (fun p => p.2) ++ ds.map Sl.fz)[i]? = some s := by
      cases q : (o.toList.map (fun p => p.2) ++ ds.map Sl.fz)[i]? with
      | none => rw [q] at e; cases e
      | some z => rw [q] at e; cases e; rfl
    by_cases hi : i < m
    · left
      cases o with
      | none => exact absurd hi (by show ¬ i < 0; omega)
      | some p =>
        have : i = 0 := by have : i < 1 := hi; omega
        subst this
        obtain ⟨k, u⟩ := p
        cases e'
        exact ⟨k, rfl, rfl⟩
    · right
      rw [List.getElem?_append_right (by rw [List.length_map]; exact Nat.le_of_not_lt hi), List.getElem?_map, List.length_map] at e'
      cases q : ds[i - m]? with
      | none => rw [show i - o.toList.length = i - m from rfl, q] at e'; cases e'
      | some d => rw [show i - o.toList.length = i - m from rfl, q] at e'; cases e'; exact ⟨i - m, d, by omega, q, rfl⟩
  have T : SimW K ⟨Fc, Rc, []⟩ ((v0 ++ vs).map some) H ((o.toList.map (fun p => p.2) ++ ds.map Sl.fz).map some) [] [] Fc ccs := by
    refine ⟨Ex.refl _, FcH, RcH, FcRc, ?_, rfl, fun p hp => absurd hp (by simp), fun i s e => ?_, fun x s e => ?_, fun x y s t ne e1 e2 => ?_⟩
    · simp only [List.length_map, List.length_append]
      rw [hdl]
      have : o.toList.length = m := rfl
      omega
    · rcases slots i s e with ⟨k, e2, _⟩ | ⟨j, d, _, _, rfl⟩
      · exact S.noal k s (ho k s e2).1
      · trivial
    · obtain ⟨i, rfl, e'⟩ := getX_nil e
      rcases slots i s e' with ⟨k, eo, rfl⟩ | ⟨j, d, rfl, ed, rfl⟩
      · have ec : ccs (.inl 0) = cs (.inl k) := ccs_0 eo
        obtain ⟨q1, q2, q3⟩ := S.at (ho k s eo).1
        rw [ec]
        refine ⟨?_, ?_, fun a ha => ?_⟩
        · rw [valX_inl, List.getElem?_map, valK k s eo]; rfl
        · have hss := S.noal k s (ho k s eo).1
          have q4 := q2.stay FFc fun a _ => rfl
          cases s with
          | al j => exact hss.elim
          | _ => generalize cs (Sum.inl k) = n at q4 ⊢; cases n <;> exact q4
        · have kp : Kp a := ⟨k, s, eo, ha⟩
          have sl := kSlot a kp
          have nb : ¬ (Bres a ∨ Bal a) := fun q => q.elim (fun b => resSlot a b sl) (kB a kp)
          exact ⟨by rw [Fc0 nb]; exact (slotF a sl).2.1, by show Rc a = none; rw [Rc0 fun q => q.2.2 kp]; exact (slotF a sl).2.2⟩
      · obtain ⟨v, hvv, hr⟩ := argG j d ed
        have ec : ccs (.inl (m + j)) = .v v := by
          have eg : (v0 ++ vs).getD (m + j) .non = v := by rw [List.getD_eq_getElem?_getD, hvv]; rfl
          have hne : m + j ≠ 0 ∨ o = none := by
            cases o with
            | none => exact .inr rfl
            | some p => exact .inl (by have : m = 1 := rfl; omega)
          rw [show ccs (.inl (m + j)) = _ from ccs_ne hne, eg]
        rw [ec]
        exact ⟨valX_inl.mpr (by rw [List.getElem?_map, hvv]; rfl), hr, fun a ha => absurd ha (by simp [Cn.feet])⟩
    · obtain ⟨i, rfl, e1'⟩ := getX_nil e1
      obtain ⟨j, rfl, e2'⟩ := getX_nil e2
      have none_ : ∀ i s, i ≠ 0 → ((o.toList.map (fun p => p.2) ++ ds.map Sl.fz).map some)[i]? = some (some s) → (ccs (.inl i)).feet = [] := fun i s hi e => by
        rw [show ccs (.inl i) = _ from ccs_ne (.inl hi)]; rfl
      by_cases hi : i = 0
      · have hj : j ≠ 0 := fun z => ne (by rw [hi, z])
        rw [none_ j t hj e2']
        intro a _ ha; exact absurd ha (by simp)
      · rw [none_ i s hi e1']
        intro a ha; exact absurd ha (by simp)
  refine ⟨Fc, Rc, o.toList.map (fun p => p.2) ++ ds.map Sl.fz, _, by simp, ⟨Fc, ccs, T⟩, fun j s e hj => ?_, h, fun z H' r outs hol hrs ⟨F', cs', T'⟩ hW => ?_⟩
  · rcases slots j s (by rw [List.getElem?_map, e]; rfl) with ⟨k, eo, rfl⟩ | ⟨j', d, _, _, rfl⟩
    · exact absurd hj (by rw [eo]; show ¬ 1 ≤ 0; omega)
    · exact ⟨d, rfl⟩
  obtain ⟨hcond, hQ⟩ := hW hol
  let F2 : Hp := fun a => if Bal a then none else F' a
  have F21 : ∀ {a}, Bal a → F2 a = none := fun {a} h => if_pos h
  have F20 : ∀ {a}, ¬ Bal a → F2 a = F' a := fun {a} h => if_neg h
  have F2F : Ex F2 F' := fun a u e => by
    by_cases hb : Bal a
    · rw [F21 hb] at e; cases e
    · rw [F20 hb] at e; exact e
  have FF2 : Ex F F2 := fun a u e => by
    have : ¬ Bal a := fun q => by rw [(slotF a (bSlot a q)).2.1] at e; cases e
    rw [F20 this]; exact T'.fF a u (FFc a u e)
  have balL : ∀ a, Bal a → ∃ o, H a = some o ∧ ((∃ xs, o = .lst xs) ∨ ∃ kvs, o = .dK kvs) := fun a ⟨j, k, e, _, ha⟩ => by
    have hjd : j < ds.length := by rw [hdl]; exact (List.getElem?_eq_some_iff.mp e).1
    obtain ⟨s, e1, e2⟩ := hdg j _ (List.getElem?_eq_getElem hjd)
    rw [e] at e1; cases e1
    obtain ⟨t, f1, f2, f3⟩ := view_al e2
    obtain ⟨_, q2, _⟩ := S.at f1
    generalize cs (Sum.inl k) = n at q2 ha
    cases t with
    | fz d => cases n with
      | v x => exact absurd ha (by simp [Cn.feet])
      | _ => exact q2.elim
    | ml es => cases n with
      | l p => obtain ⟨xs, z1, _⟩ := q2
               have : a = p := by simpa [Cn.feet] using ha
               subst this; exact ⟨_, z1, .inl ⟨_, rfl⟩⟩
      | _ => exact q2.elim
    | md ks es => cases n with
      | l p => obtain ⟨xs, z1, _⟩ := q2
               have : a = p := by simpa [Cn.feet] using ha
               subst this; exact ⟨_, z1, .inr ⟨_, rfl⟩⟩
      | _ => exact q2.elim
    | deal => cases f2
    | al _ => exact f3.elim
  have balF' : ∀ a, Bal a → F' a = H a := fun a hb => by
    obtain ⟨o, e, _⟩ := balL a hb
    rw [e]; exact T'.fF a o ((Fc1 (.inr hb)).trans e)
  have conv : ∀ {s : Sl} {n : Cn}, s.slot → (s = r ∨ s ∈ outs) → Holds K (((v0 ++ vs).take m).map some) F' H' s n → Holds K σ F2 H' s n := fun {s n} hs hm hh => by
    refine Holds.sig hs (σ := (((v0 ++ vs).take m).map some)) ?_
    rcases Bool.or_eq_true _ _ ▸ hcond with hfl | hno
    · have noB : ∀ a, ¬ Bal a := fun a ⟨j, k, e, _, _⟩ => by
        have := List.all_eq_true.mp hfl _ (List.mem_of_getElem? e)
        cases this
      exact hh.stay (fun a u e => by rw [F20 (noB a)]; exact e) fun _ _ => rfl
    · have hno' : nolstS r = true ∧ outs.all nolstS = true := by simpa using hno
      refine hh.less (fun a u e => ?_) ?_
      · by_cases hb : Bal a
        · right
          obtain ⟨o, q, w⟩ := balL a hb
          rw [balF' a hb, q] at e; cases e
          exact w
        · left; rw [F20 hb]; exact e
      · rcases hm with rfl | hm
        · exact hno'.1
        · exact List.all_eq_true.mp hno'.2 s hm
  have get : ∀ (i : Nat) (s : Sl), (putO o outs δ)[i]? = some (some s) → (∃ u0, o = some (i, u0) ∧ outs[0]? = some s) ∨ ((∀ u0, o ≠ some (i, u0)) ∧ δ[i]? = some (some s)) := fun i s e => by
    cases o with
    | none => exact .inr ⟨(fun u0 q => nomatch q), e⟩
    | some p =>
      obtain ⟨k, u⟩ := p
      cases outs with
      | nil => exact absurd hol (by show ¬ 0 = 1; omega)
      | cons w ws =>
        have hk : k < δ.length := (List.getElem?_eq_some_iff.mp (ho k u rfl).1).1
        by_cases hi : k = i
        · subst hi
          have e' : (δ.set k (some w))[k]? = some (some s) := e
          rw [List.getElem?_set_self hk] at e'
          cases e'
          exact .inl ⟨u, rfl, rfl⟩
        · have e' : (δ.set k (some w))[i]? = some (some s) := e
          rw [List.getElem?_set_ne hi] at e'
          exact .inr ⟨fun u0 q => hi (by cases q; rfl), e'⟩
  have oldFoot : ∀ (i : Nat) (s : Sl), (∀ u0, o ≠ some (i, u0)) → δ[i]? = some (some s) → ∀ a ∈ (cs (.inl i)).feet, Bal a ∨ Op a := fun i s hn e a ha => by
    by_cases hb : Bal a
    · exact .inl hb
    · refine .inr ⟨⟨i, s, e, ha⟩, hb, fun ⟨k, u, eo, hk⟩ => ?_⟩
      have := same e (ho k u eo).1 ha hk
      subst this
      exact hn u eo
  have outG : ∀ {s : Sl}, outs[0]? = some s → getX (outs.map some) [r] (.inl 0) = some s := fun {s} e => getX_inl.mpr (by rw [List.getElem?_map, e]; rfl)
  let cc : Nat ⊕ Nat → Cn := fun x => match x with
    | .inl i => if ∃ u0, o = some (i, u0) then cs' (.inl 0) else cs (.inl i)
    | .inr _ => cs' (.inr 0)
  have cc1 : ∀ {i : Nat}, (∃ u0, o = some (i, u0)) → cc (.inl i) = cs' (.inl 0) := fun h => if_pos h
  have cc0 : ∀ {i : Nat}, (∀ u0, o ≠ some (i, u0)) → cc (.inl i) = cs (.inl i) := fun h => if_neg fun ⟨u, q⟩ => h u q
  have newFoot : ∀ x s, getX (outs.map some) [r] x = some s → ∀ a ∈ (cs' x).feet, F2 a = none ∧ c.R a = none ∧ ¬ Bal a ∧ ¬ Op a := fun x s e a ha => by
    obtain ⟨_, _, q3⟩ := T'.here x s e
    have f1 := (q3 a ha).1
    have f2 : Rc a = none := (q3 a ha).2
    refine ⟨F2F.free f1, RRc.free f2, fun hb => ?_, fun hb => ?_⟩
    · obtain ⟨o, q, _⟩ := balL a hb
      rw [balF' a hb, q] at f1; cases f1
    · obtain ⟨⟨o, q⟩, _⟩ := slotF a hb.1
      rw [Rc1 hb, q] at f2; cases f2
  refine hQ z H' ⟨F2, cc, ⟨S.fF.trans FF2, F2F.trans T'.FH, RRc.trans T'.RH, fun a u e => RRc.free (T'.FR a u (F2F a u e)), ?_, rfl, S.pin, fun i s e => ?_, fun x s e => ?_, fun x y s t ne e1 e2 => ?_⟩⟩
  · rw [S.len]
    unfold putO
    split
    · rw [List.length_set]
    · rfl
  · rcases get i s e with ⟨u0, eo, e'⟩ | ⟨_, e'⟩
    · exact T'.noal 0 s (getX_inl.mp (outG e'))
    · exact S.noal i s e'
  · rcases getX_one e with ⟨i, rfl, e'⟩ | ⟨rfl, rfl⟩
    · rcases get i s e' with ⟨u0, eo, e2⟩ | ⟨hn, e2⟩
      · rw [cc1 ⟨u0, eo⟩]
        obtain ⟨q1, q2, _⟩ := T'.here (.inl 0) s (outG e2)
        refine ⟨?_, conv (T'.noal 0 s (getX_inl.mp (outG e2))) (.inr (List.mem_of_getElem? e2)) q2, fun a ha => let h := newFoot _ s (outG e2) a ha; ⟨h.1, h.2.1⟩⟩
        have v1 := valK i u0 eo
        have hm1 : 0 < m := by show 0 < o.toList.length; rw [eo]; show 0 < 1; omega
        have q1' := valX_inl.mp q1
        rw [List.getElem?_map, List.getElem?_take_of_lt hm1, v1] at q1'
        have ev : (cs (.inl i)).val = (cs' (.inl 0)).val := by injection q1' with q1'; injection q1'
        rw [valX_inl, ← ev]
        exact (S.at (ho i u0 eo).1).1
      · rw [cc0 hn]
        obtain ⟨q1, q2, q3⟩ := S.at e2
        refine ⟨valX_inl.mpr q1, q2.stay FF2 fun a ha => ?_, fun a ha => ⟨?_, (q3 a ha).2⟩⟩
        · obtain ⟨w, hw⟩ := q2.foot a ha
          rcases oldFoot i s hn e2 a ha with hb | hb
          · rw [hw]; exact T'.FH a w (T'.fF a w ((Fc1 (.inr hb)).trans hw))
          · rw [hw]; exact T'.RH a w ((Rc1 hb).trans hw)
        · rcases oldFoot i s hn e2 a ha with hb | hb
          · exact F21 hb
          · obtain ⟨w, hw⟩ := q2.foot a ha
            cases q : F' a with
            | none => exact F2F.free q
            | some u =>
              have f2 : Rc a = none := T'.FR a u q
              rw [Rc1 hb, hw] at f2; cases f2
    · obtain ⟨q1, q2, _⟩ := T'.here (.inr 0) s rfl
      exact ⟨q1, conv hrs (.inl rfl) q2, fun a ha => let h := newFoot (.inr 0) s rfl a ha; ⟨h.1, h.2.1⟩⟩
  · have red : ∀ x s, getX (putO o outs δ) [r] x = some s → (∃ i, x = .inl i ∧ (∀ u0, o ≠ some (i, u0)) ∧ δ[i]? = some (some s) ∧ cc x = cs (.inl i)) ∨ ∃ x' s', getX (outs.map some) [r] x' = some s' ∧ cc x = cs' x' ∧ ((x' = .inr 0 ∧ x = .inr 0) ∨ (x' = .inl 0 ∧ ∃ i u0, x = .inl i ∧ o = some (i, u0))) := fun x s e => by
      rcases getX_one e with ⟨i, rfl, e'⟩ | ⟨rfl, rfl⟩
      · rcases get i s e' with ⟨u0, eo, e2⟩ | ⟨hn, e2⟩
        · exact .inr ⟨.inl 0, s, outG e2, cc1 ⟨u0, eo⟩, .inr ⟨rfl, i, u0, rfl, eo⟩⟩
        · exact .inl ⟨i, rfl, hn, e2, cc0 hn⟩
      · exact .inr ⟨.inr 0, s, rfl, rfl, .inl ⟨rfl, rfl⟩⟩
    rcases red x s e1 with ⟨i, rfl, hi, f1, g1⟩ | ⟨x', s', f1, g1, hx⟩
    · rcases red y t e2 with ⟨j, rfl, hj, f2, g2⟩ | ⟨y', t', f2, g2, hy⟩
      · rw [g1, g2]
        exact S.apart (.inl i) (.inl j) s t ne (getX_inl.mpr f1) (getX_inl.mpr f2)
      · rw [g1, g2]
        intro a ha hb
        obtain ⟨_, _, h3, h4⟩ := newFoot y' t' f2 a hb
        exact (oldFoot i s hi f1 a ha).elim h3 h4
    · rcases red y t e2 with ⟨j, rfl, hj, f2, g2⟩ | ⟨y', t', f2, g2, hy⟩
      · rw [g1, g2]
        intro a ha hb
        obtain ⟨_, _, h3, h4⟩ := newFoot x' s' f1 a ha
        exact (oldFoot j t hj f2 a hb).elim h3 h4
      · rw [g1, g2]
        refine T'.apart x' y' s' t' (fun q => ne ?_) f1 f2
        rcases hx with ⟨rfl, rfl⟩ | ⟨rfl, i, u, rfl, ei⟩ <;> rcases hy with ⟨rfl, rfl⟩ | ⟨rfl, j, w, rfl, ej⟩
        · rfl
        · cases q
        · cases q
        · rw [ei] at ej; cases ej; rfl
/-! ### the calls -/
/-- f(..): plain arguments -/
def dCall (f : FS) (ta : DTA) : DT := fun δ Q => ta δ fun ss δ1 => match ss.mapM (view δ1) with
  | some ds => f (ds.map Sl.fz) fun r _ => (ss.all Sl.flat || nolstS r) = true ∧ Q r δ1
  | none => False
/-- f(x, ..): the first argument is handed over to be changed -/
def dCallM (f : FS) (ta : DTA) : DT := fun δ Q => ta δ fun ss δ1 => match ss with
  | .al k :: rest => match δ1[k]? with
    | some (some u) => match rest.mapM (view δ1) with
      | some ds => rest.all (fun s => match s with | .al j => j != k | _ => true) = true ∧ f (u :: ds.map Sl.fz) fun r outs => match outs with
        | [w] => (rest.all Sl.flat || (nolstS r && nolstS w)) = true ∧ force (δ1.set k (some w)) (Q r)
        | _ => False
      | none => False
    | _ => False
  | _ => False
def FMono (f : FS) : Prop := ∀ δ W W', (∀ r outs, W r outs → W' r outs) → f δ W → f δ W'
section
variable {X : Cx} {k n : Nat} {f : Addr} {fd : FuncData} {ps : List Str} {sp : FS} {x : Str} {p pos : Pos} {e : Expr} {es : List Expr} {ta : DTA} {E : XK}
theorem call_sem {K : PySem.W.Frag} {σ : St} {H : Hp} {Q : VK} (mono : FMono sp) (hn : ∀ δ W, sp δ W → δ.length = n) (h : liftE K (dCall sp ta) σ H Q) : tCall (spOf K 0 n sp) [] E (liftA K ta) σ H Q := by
  obtain ⟨c, δ, W, S, ht, kk⟩ := h
  refine ⟨c, δ, _, S, ht, fun vs H' δ' ss S' hw => ?_⟩
  split at hw
  · rename_i ds hv
    obtain ⟨F, cs, S1⟩ := S'
    have hl : ds.length = n := by have := hn _ _ hw; simpa using this
    have := call_core (K := K) (f := sp) (Q := Q) (E := E) none (v0 := []) (s0 := []) (vs := vs) (ss := ss) S1 rfl (fun k u q => nomatch q) hv (mono _ _ _ (fun r outs ⟨h1, h2⟩ hol => by
      have ho : outs = [] := List.length_eq_zero_iff.mp hol
      subst ho
      exact ⟨by simpa using h1, fun z H'' S'' => kk z H'' δ' r S'' h2⟩) hw)
    rw [List.append_nil, ← hl]
    simpa using this
  · exact hw.elim
theorem callM_sem {K : PySem.W.Frag} {σ : St} {H : Hp} {Q : VK} (mono : FMono sp) (hn : ∀ δ W, sp δ W → δ.length = n) (h : liftE K (dCallM sp ta) σ H Q) : tCall (spOf K 1 n sp) [] E (liftA K ta) σ H Q := by
  obtain ⟨c, δ, W, S, ht, kk⟩ := h
  refine ⟨c, δ, _, S, ht, fun vs H' δ' ss S' hw => ?_⟩
  split at hw
  · rename_i k rest
    split at hw
    · rename_i u eu
      split at hw
      · rename_i ds hv
        obtain ⟨hne, hw⟩ := hw
        obtain ⟨F, cs, S1⟩ := S'
        have hl : 1 + ds.length = n := by have := hn _ _ hw; simp at this; omega
        have hvs : ∃ v0 vr, vs = v0 :: vr := by
          have := S1.rlen
          cases vs with
          | nil => cases this
          | cons a b => exact ⟨a, b, rfl⟩
        obtain ⟨v0, vr, rfl⟩ := hvs
        have := call_core (K := K) (f := sp) (Q := Q) (E := E) (some (k, u)) (v0 := [v0]) (s0 := [.al k]) (vs := vr) (ss := rest) S1 rfl (fun k' u' q => by
          cases q
          refine ⟨eu, fun j q => ?_⟩
          have := List.all_eq_true.mp hne _ (List.mem_of_getElem? q)
          exact absurd (show (k != k) = true from this) (by simp)) hv (mono _ _ _ (fun r outs h1 hol => by
          cases outs with
          | nil => cases hol
          | cons w tl =>
            cases tl with
            | cons => cases hol
            | nil =>
              refine ⟨?_, fun z H'' S'' => kk z H'' _ r S'' (force_iff.mp h1.2)⟩
              have q := h1.1
              simp only [List.all_cons, List.all_nil, Bool.and_true]
              exact q) hw)
        rw [List.append_nil, ← hl]
        exact this
      · exact hw.elim
    · exact hw.elim
  · exact hw.elim
theorem de_call (F : FnOk X.prog X.w X.K X.mg X.base CX0 k f fd ps (spOf X.K 0 n sp)) (mono : FMono sp) (hn : ∀ δ W, sp δ W → δ.length = n) (hr : Room k X.A) (hg : Gl X x) (hm : X.mg x = some (.ref f)) (hk : PySem.W.keepIn X.K (.ref f) = true) (hb : Binds X.K fd ps [])
    (ha : DA X (e :: es) ta) (hdb : (x == ("__debug__" : Str)) = false := by decide) (he : starEach (e :: es) X.env = (false, eval e X.env) :: starEach es X.env := by rfl) (hpl : (backTo pos (starEach es X.env)).any (·.1) = false := by rfl) :
    DE X (.Call (.Name x p) (e :: es) [] pos) (dCall sp ta) :=
  PE.to (pe_call F hr hg hm hk hb .nil pass0 ha hdb he hpl) fun σ H Q _ h => call_sem mono hn h
theorem de_callM (F : FnOk X.prog X.w X.K X.mg X.base CX0 k f fd ps (spOf X.K 1 n sp)) (mono : FMono sp) (hn : ∀ δ W, sp δ W → δ.length = n) (hr : Room k X.A) (hg : Gl X x) (hm : X.mg x = some (.ref f)) (hk : PySem.W.keepIn X.K (.ref f) = true) (hb : Binds X.K fd ps [])
    (ha : DA X (e :: es) ta) (hdb : (x == ("__debug__" : Str)) = false := by decide) (he : starEach (e :: es) X.env = (false, eval e X.env) :: starEach es X.env := by rfl) (hpl : (backTo pos (starEach es X.env)).any (·.1) = false := by rfl) :
    DE X (.Call (.Name x p) (e :: es) [] pos) (dCallM sp ta) :=
  PE.to (pe_call F hr hg hm hk hb .nil pass0 ha hdb he hpl) fun σ H Q _ h => callM_sem mono hn h
end
end DL

set_option Elab.async false
set_option linter.all false
set_option maxRecDepth 100000
set_option maxHeartbeats 4000000
/-! DLG: enumerate and zip over lists and tuples, over data. -/
namespace PySem
open Sem (wp)
open AutoSeq1 (wpAny_loadPart')
theorem dl_enum_newB {v : Value} {o : Obj} {H : Heap → Prop} (B : Begins v o H) :
    Meets (Builtin.«enumerate.__new__» ⟨[.type "enumerate", v], []⟩) (fun _ R s => H s.heap ∧
      R (.ok (.ret (.ref (s.heap.push o).objs.size))) { s with heap := (s.heap.push o).push { cls := .type "enumerate", data := .fields #[.none, .bool false, .ref s.heap.objs.size, rawInt 0, .none, .none] } }) :=
  .of_wp fun prog w A R s h => by
    obtain ⟨hp, g, d, tk, os⟩ := s; obtain ⟨h1, h⟩ := h
    have hsub := sub_enumerate
    have q1 : ∀ {A' : Around} {E : Value → Shared → Prop} {Q : Value → Shared → Prop}, Q (.ref hp.objs.size) ⟨hp.push o, g, d, tk, os⟩ → wpAny (model prog w) A' (pyIter v) Q E ⟨hp, g, d, tk, os⟩ :=
      fun q => B.iter prog w _ _ ⟨hp, g, d, tk, os⟩ _ h1 q
    wp_walk using q1
    refine wpAny_stack_any fun st => wpAny_pure ?_
    split
    · rename_i c _ _ _ _ _
      cases (c == Value.type "enumerate")
      · wp_walk using q1
        exact ⟨_, rfl, h⟩
      · wp_walk using q1
        exact ⟨_, rfl, h⟩
    · wp_walk using q1
      exact ⟨_, rfl, h⟩
theorem dl_enum1 {prog : Program} {w : World} {A : Around} {E : Value → Shared → Prop} {s : Shared} {v : Value} {o : Obj} {H : Heap → Prop} {Q : Value → Shared → Prop} (B : Begins v o H) (h1 : H s.heap)
    (h : ∀ h', IsEnum h' (s.heap.objs.size + 1) s.heap.objs.size 0 .none → h'.get? s.heap.objs.size = some o → h'.objs.size = s.heap.objs.size + 2 →
      (∀ b o, s.heap.get? b = some o → h'.get? b = some o) → Q (.ref (s.heap.objs.size + 1)) { s with heap := h' }) :
    wpAny (model prog w) A (call (.type "enumerate") [v]) Q E s := by
  refine callType_new F.called_enumerate (by decide) (F.typeCall_enumerate_1 _) (F.newCall_enumerate_1 _) (fun obj => F.args_object_init_2 obj _) F.entry_enumerate_new
    (dl_enum_newB B) ⟨h1, ?_⟩
  have hz : (s.heap.push o).objs.size = s.heap.objs.size + 1 := Heap.size_push ..
  show _ ∧ _
  rw [hz]
  have he : IsEnum ((s.heap.push o).push { cls := .type "enumerate", data := .fields #[.none, .bool false, .ref s.heap.objs.size, rawInt 0, .none, .none] }) (s.heap.objs.size + 1) s.heap.objs.size 0 .none := by
    have := Heap.get?_push_size (s.heap.push o) (o := { cls := .type "enumerate", data := .fields #[.none, .bool false, .ref s.heap.objs.size, rawInt 0, .none, .none] }) rfl
    rw [hz] at this; exact this
  refine ⟨⟨_, he, rfl⟩, h _ he (Heap.get?_push_of_some _ (Heap.get?_push_size _ B.free)) (by rw [Heap.size_push, hz]) fun b o x => Heap.get?_push_of_some _ (Heap.get?_push_of_some _ x)⟩
end PySem
namespace DL
open PySem L2
open PyProof.Rows (Call_)
theorem one_lt {a b n : Addr} (h : a < n) : b ∈ [a] → b < n := fun hb => by
  have : b = a := by simpa using hb
  rw [this]; exact h
/-- what an enumerate or a zip walks: a list, a tuple -/
inductive Src where
  | l (a : Addr) | t (a : Addr)
def Src.ad : Src → Addr | .l a => a | .t a => a
def SrcAt (K : PySem.W.Frag) (H : Hp) : Src → List V → Prop
  | .l a, xs => SqL K H a xs
  | .t a, xs => SqT K H a xs
def SrcIt (h : Heap) (it : Addr) : Src → Nat → Prop
  | .l a, i => h.IsListIter it a i
  | .t a, i => h.IsTupleIter it a i
def SrcOb (h : Heap) : Src → Array Value → Prop
  | .l a, its => h.IsList a its
  | .t a, its => h.IsTuple a its
section
variable {X : Cx} {pins : List (Addr × Obj)} {σ : St} {H : Hp} {s : Shared}
theorem Inv.src (I : Inv X pins σ H s) : ∀ {c : Src} {xs : List V}, SrcAt X.K H c xs → ∃ its : List Value, Vals xs its ∧ SrcOb s.heap c its.toArray ∧ xs.length ≤ sizeLine
  | .l a, xs, h => let ⟨its, r, p, z⟩ := I.list h; ⟨its, r, p.isList, z⟩
  | .t a, xs, h => let ⟨its, r, p, z⟩ := I.tuple h; ⟨its, r, p, z⟩
theorem Inv.src_inj (I : Inv X pins σ H s) : ∀ {c : Src} {xs ys : List V}, SrcAt X.K H c xs → SrcAt X.K H c ys → xs = ys
  | .l a, _, _, h, h' => I.list_inj h h'
  | .t a, _, _, h, h' => I.tuple_inj h h'
end
theorem src_it_obj {h : Heap} {it : Addr} {c : Src} {i : Nat} (st : SrcIt h it c i) : ∃ o, h.get? it = some o ∧ (o.cls = .type "list_iterator" ∨ o.cls = .type "tuple_iterator") ∧ ∀ v, o.data ≠ .cell v := by
  cases c with
  | l a => obtain ⟨o, h1, h2, h3⟩ := st; exact ⟨o, h1, .inl h2, fun v q => by rw [h3] at q; cases q⟩
  | t a => obtain ⟨o, h1, h2, h3⟩ := st; exact ⟨o, h1, .inr h2, fun v q => by rw [h3] at q; cases q⟩
theorem src_ob_obj {h : Heap} {c : Src} {its : Array Value} (p : SrcOb h c its) : ∃ o, h.get? c.ad = some o ∧ (o.cls = .type "list" ∨ o.cls = .type "tuple") := by
  cases c with
  | l a => obtain ⟨o, h1, h2, _⟩ := p; exact ⟨o, h1, .inl h2⟩
  | t a => obtain ⟨o, h1, h2, _⟩ := p; exact ⟨o, h1, .inr h2⟩
theorem src_it_keep {h h' : Heap} {it : Addr} {c : Src} {i : Nat} (st : SrcIt h it c i) (k : ∀ o, h.get? it = some o → h'.get? it = some o) : SrcIt h' it c i := by
  cases c with
  | l a => exact st.at k
  | t a => exact st.at k
theorem src_ne {h : Heap} {it : Addr} {c : Src} {i : Nat} {its : Array Value} (st : SrcIt h it c i) (p : SrcOb h c its) : c.ad ≠ it := fun q => by
  obtain ⟨o, h1, h2, _⟩ := src_it_obj st
  obtain ⟨o', h3, h4⟩ := src_ob_obj p
  rw [q, h1] at h3
  cases h3
  rcases h2 with h2 | h2 <;> rcases h4 with h4 | h4 <;> rw [h2] at h4 <;> exact absurd h4 (by decide)
theorem src_draws {prog : Program} {w : World} {A : Around} (hh : A.handled = none) (it : Addr) : ∀ (c : Src) (its : Array Value), c.ad ≠ it → Draws prog w A it [it, c.ad] its.size (fun i v => its[i]? = some v) (fun i h => SrcIt h it c i ∧ SrcOb h c its)
  | .l a, its, hne => Draws.list hh it a hne its
  | .t a, its, hne => Draws.tuple hh it a hne its
theorem src_begins (c : Src) (its : Array Value) : ∃ o : Obj, Begins (.ref c.ad) o (fun h => SrcOb h c its) ∧ ∀ (h : Heap) (it : Addr), h.get? it = some o → SrcIt h it c 0 := by
  cases c with
  | l a => exact ⟨_, begins_list a its, fun h it e => ⟨_, e, rfl, rfl⟩⟩
  | t a => exact ⟨_, begins_tuple a its, fun h it e => ⟨_, e, rfl, rfl⟩⟩

/-! ### enumerate -/
def IteS (K : PySem.W.Frag) (c : Src) : It :=
  ⟨fun i H => ∃ (xs : List V) (x : V), SrcAt K H c xs ∧ xs[i]? = some x, fun i H v H' => ∃ T x u, v = .ref T ∧ H T = none ∧ TupU u [.int (i : Nat), x] ∧ H' = upd H T u ∧ ∀ xs, SrcAt K H c xs → xs[i]? = some x, fun i H => ∃ xs : List V, SrcAt K H c xs ∧ xs.length = i⟩
theorem turn_enumS {P : Program} {w : World} {K : PySem.W.Frag} {elts : List Expr} {kk : Nat} {tpos : Pos} (c : Src) (e it : Addr) :
    Turn P w K (.Tuple elts kk tpos) (IteS K c) [e, it] e (fun i h => (∃ old, IsEnum h e it ((i : Nat) : Int) old) ∧ SrcIt h it c i ∧ e ≠ it) where
  mem := by simp
  obj := fun i h st b hb => by
    obtain ⟨⟨old, he⟩, hi, _⟩ := st
    have e' : b = e ∨ b = it := by simpa using hb
    rcases e' with z | z
    · rw [z]; exact ⟨_, he, fun v q => nomatch q⟩
    · rw [z]; obtain ⟨o, ho, _, hd⟩ := src_it_obj hi; exact ⟨o, ho, hd⟩
  keep := fun i h h' st k => let ⟨⟨old, he⟩, hi, hne⟩ := st; ⟨⟨old, k e (by simp) _ he⟩, src_it_keep hi fun o q => k it (by simp) o q, hne⟩
  item := by
    intro X hP hw hK hc i pins s σ H E I hf st hg
    subst hP hw hK
    obtain ⟨⟨old, he⟩, hit, hne⟩ := st
    obtain ⟨xs, x, hq, hx⟩ := hg
    obtain ⟨its, rv, p, hz⟩ := Inv.src I hq
    obtain ⟨u, hu, ru⟩ := rv.get hx
    have hel : e < s.heap.objs.size := Heap.lt_size he
    obtain ⟨oi, hoi, _, _⟩ := src_it_obj hit
    have hil : it < s.heap.objs.size := Heap.lt_size hoi
    have hci := src_ne hit p
    have hea : e ≠ c.ad := fun q => by
      obtain ⟨o', h3, h4⟩ := src_ob_obj p
      have he' : s.heap.get? e = some _ := he
      rw [← q, he'] at h3
      cases h3
      rcases h4 with h4 | h4 <;> (injection h4 with h4; exact absurd h4 (by decide))
    have hil2 : i < its.toArray.size := by
      have := (List.getElem?_eq_some_iff.mp hu).1
      simpa using this
    refine wpAny_pyNext_enum_itemD (src_draws (A := X.A.in1) (I.ok.hd hc) it c its.toArray hci) he ⟨hit, p⟩ hil2 hne (by simp [hne, hea]) fun u' h' tk hP ho hst hT hsz hk => ?_
    have hu' : u' = u := by
      have : its[i]? = some u' := by simpa using hP
      rw [hu] at this; exact (Option.some.inj this).symm
    subst hu'
    refine ⟨_, rfl, wpAny_letOwnedTupleGo_enum (s := { s with heap := h', toks := tk + 1 }) ho fun h'' he' sb => ?_⟩
    have hT2 : h''.get? s.heap.objs.size = some { cls := .type "tuple", data := .seq #[.int i tk, u'] } := (sb.2 _ (Nat.ne_of_gt hel)).trans hT
    have new : ObjOk X.prog X.w (upd H s.heap.objs.size (.frz { cls := .type "tuple", data := .seq #[.int i tk, u'] } (.tup [.int (i : Nat), x]))) h'' s.heap.objs.size (.frz { cls := .type "tuple", data := .seq #[.int i tk, u'] } (.tup [.int (i : Nat), x])) :=
      ⟨hT2, by show 2 ≤ sizeLine; decide, [.int i tk, u'], .cons ⟨_, rfl⟩ (.cons ru .nil), ⟨_, hT2, rfl, _, rfl⟩⟩
    have I1 : Inv X pins σ (upd H s.heap.objs.size (.frz { cls := .type "tuple", data := .seq #[.int i tk, u'] } (.tup [.int (i : Nat), x]))) { s with heap := h'', toks := tk + 1 } :=
      I.turnedNew (ch := [e, it]) (fun b ob hb q => (sb.2 b (fun z => hb (by simp [z]))).trans (hk b ob (fun z => hb (by simp [z])) (fun z => hb (by simp [z])) q)) hf (Nat.le_refl _) new
    refine ⟨.ref s.heap.objs.size, _, I1, rfl, ⟨_, x, _, rfl, I.hok.fresh (Nat.le_refl _), ⟨_, rfl, rfl, rfl⟩, rfl, fun ys hy => by rw [Inv.src_inj I hy hq]; exact hx⟩, ⟨⟨u', ?_⟩, src_it_keep hst.1 fun o q => (sb.2 it (Ne.symm hne)).trans q, hne⟩, fun b hb => ?_⟩
    · have e1 : ((i + 1 : Nat) : Int) = (i : Int) + 1 := by omega
      rw [e1]; exact he'
    · have hb' : b < s.heap.objs.size := by
        have e' : b = e ∨ b = it := by simpa using hb
        rcases e' with z | z
        · rw [z]; exact hel
        · rw [z]; exact hil
      rw [upd_ne (Nat.ne_of_lt hb')]
      exact (hf b hb).1
  done := by
    intro X hP hw hK hc i pins s σ H E I hf st hg
    subst hP hw hK
    obtain ⟨⟨old, he⟩, hit, hne⟩ := st
    obtain ⟨xs, hq, hx⟩ := hg
    obtain ⟨its, rv, p, hz⟩ := Inv.src I hq
    obtain ⟨f0, f1, f2, f3, f4, f5⟩ := hf it (by simp)
    have hl := rv.length
    have hi : i = its.toArray.size := by simp; omega
    refine wpAny_pyNext_enum_endD (src_draws (A := X.A.in1) (I.ok.hd hc) it c its.toArray (src_ne hit p)) he (by rw [← hi]; exact ⟨hit, p⟩) fun h' eb => ⟨rfl, I.turned (t' := s.toks) (fun b o hb q => eb b o hb q) f0 f1 f3 f4 f5⟩
  self := fun A i s Q E st h => let ⟨⟨_, he⟩, _⟩ := st; wpAny_pyIter_enum he h
def iEnumS (K : PySem.W.Frag) (ta : TA) : TI := fun σ H R => ta σ H fun vs H1 => ∃ c xs, vs = [.ref c.ad] ∧ SrcAt K H1 c xs ∧ R (IteS K c) H1
theorem pi_enumS {X : Cx} {e : Expr} {ta : TA} {p pos tpos : Pos} {elts : List Expr} {kk : Nat} (hg : Gl X "enumerate") (hm : X.mg "enumerate" = none) (ha : PA X [e] ta) (hs : starEach [e] X.env = [(false, eval e X.env)] := by rfl) :
    PI X (.Tuple elts kk tpos) (.Call (.Name "enumerate" p) [e] [] pos) (iEnumS X.K ta) := by
  refine ⟨fun pins s σ H R I h => ?_⟩
  refine Call_ (ld_blt I hg hm PyProof.Rows.boot_enumerate (PyProof.Rows.callWith_type1 (thn (ha.run pos pins s σ H _ I h) fun us s1 ⟨vs, H1, I1, r1, q1⟩ => ?_) hs rfl))
  obtain ⟨c, xs, ex, hq, q⟩ := q1
  subst ex
  cases r1 with
  | cons r rr =>
    cases rr
    cases r
    obtain ⟨its, rv, p', hz⟩ := Inv.src I1 hq
    obtain ⟨o, B, hit0⟩ := src_begins c its.toArray
    refine dl_enum1 B p' fun h' he hit hsz hk => wpAny_pyIter_enum he ?_
    have I2 : Inv X pins σ H1 { s1 with heap := h' } := I1.kept (t' := s1.toks) hk
    refine ⟨s1.heap.objs.size + 1, [s1.heap.objs.size + 1, s1.heap.objs.size], _, _, H1, rfl, I2, turn_enumS c (s1.heap.objs.size + 1) s1.heap.objs.size, ⟨⟨.none, he⟩, hit0 _ _ hit, Nat.succ_ne_self _⟩, fun b hb => ?_, q⟩
    have e' : b = s1.heap.objs.size + 1 ∨ b = s1.heap.objs.size := by simpa using hb
    have hle : s1.heap.objs.size ≤ b := by
      rcases e' with z | z
      · rw [z]; exact Nat.le_add_right _ _
      · rw [z]; exact Nat.le_refl _
    exact I1.fpOk hle (I1.hok.fresh hle)

/-! ### zip of two -/
def ItzS (K : PySem.W.Frag) (c1 c2 : Src) : It :=
  ⟨fun i H => ∃ (xs ys : List V) (x y : V), SrcAt K H c1 xs ∧ SrcAt K H c2 ys ∧ xs[i]? = some x ∧ ys[i]? = some y,
    fun i H v H' => ∃ T x y u, v = .ref T ∧ H T = none ∧ TupU u [x, y] ∧ H' = upd H T u ∧ (∀ xs, SrcAt K H c1 xs → xs[i]? = some x) ∧ ∀ ys, SrcAt K H c2 ys → ys[i]? = some y,
    fun i H => ∃ xs ys : List V, SrcAt K H c1 xs ∧ SrcAt K H c2 ys ∧ i = min xs.length ys.length⟩
theorem turn_zipS {P : Program} {w : World} {K : PySem.W.Frag} {elts : List Expr} {kk : Nat} {tpos : Pos} {c1 c2 : Src} {z TI TO i1 i2 : Addr} (D : ZipSep2 z TI TO i1 i2 [i1, c1.ad] [i2, c2.ad]) :
    Turn P w K (.Tuple elts kk tpos) (ItzS K c1 c2) [z, TI, TO, i1, i2] z (fun i h => IsZip h z TI TO .none ∧ IsTupOf2 h TI (.ref i1) (.ref i2) ∧ (∃ x y, IsTupOf2 h TO x y) ∧ SrcIt h i1 c1 i ∧ SrcIt h i2 c2 i) where
  mem := by simp
  obj := fun i h st c hc => by
    obtain ⟨hz, hTI, ⟨x, y, hTO⟩, h1, h2⟩ := st
    have e' : c = z ∨ c = TI ∨ c = TO ∨ c = i1 ∨ c = i2 := by simpa using hc
    rcases e' with q | q | q | q | q
    · rw [q]; exact ⟨_, hz, fun v q => nomatch q⟩
    · rw [q]; exact ⟨_, hTI, fun v q => nomatch q⟩
    · rw [q]; exact ⟨_, hTO, fun v q => nomatch q⟩
    · rw [q]; obtain ⟨o, ho, _, hd⟩ := src_it_obj h1; exact ⟨o, ho, hd⟩
    · rw [q]; obtain ⟨o, ho, _, hd⟩ := src_it_obj h2; exact ⟨o, ho, hd⟩
  keep := fun i h h' st k => by
    obtain ⟨hz, hTI, ⟨x, y, hTO⟩, h1, h2⟩ := st
    exact ⟨k z (by simp) _ hz, k TI (by simp) _ hTI, ⟨x, y, k TO (by simp) _ hTO⟩, src_it_keep h1 fun o q => k i1 (by simp) o q, src_it_keep h2 fun o q => k i2 (by simp) o q⟩
  item := by
    intro X hP hw hK hc i pins s σ H E I hf st hg
    subst hP hw hK
    obtain ⟨hz, hTI, ⟨x0, y0, hTO⟩, h1, h2⟩ := st
    obtain ⟨xs, ys, x, y, hqx, hqy, hx, hy⟩ := hg
    obtain ⟨its, rv, p, _⟩ := Inv.src I hqx
    obtain ⟨its2, rv2, p2, _⟩ := Inv.src I hqy
    obtain ⟨u, hu, ru⟩ := rv.get hx
    obtain ⟨u2, hu2, ru2⟩ := rv2.get hy
    have hzl : z < s.heap.objs.size := Heap.lt_size hz
    have l1 : i < its.toArray.size := by have := (List.getElem?_eq_some_iff.mp hu).1; simpa using this
    have l2 : i < its2.toArray.size := by have := (List.getElem?_eq_some_iff.mp hu2).1; simpa using this
    refine wpAny_pyNext_zipD2_item D (src_draws (A := X.A.in1) (I.ok.hd hc) i1 c1 its.toArray (src_ne h1 p)) (src_draws (A := X.A.in1) (I.ok.hd hc) i2 c2 its2.toArray (src_ne h2 p2)) hz hTI hTO ⟨h1, p⟩ ⟨h2, p2⟩ l1 l2 fun v1 v2 h' tk hP1 hP2 z' TO' s1' s2' hT hsz hk => ?_
    have e1 : v1 = u := by
      have : its[i]? = some v1 := by simpa using hP1
      rw [hu] at this; exact (Option.some.inj this).symm
    have e2 : v2 = u2 := by
      have : its2[i]? = some v2 := by simpa using hP2
      rw [hu2] at this; exact (Option.some.inj this).symm
    subst e1 e2
    refine ⟨_, rfl, wpAny_letOwnedTupleGo_zip (s := { s with heap := h', toks := tk }) z' fun h'' z'' sb => ?_⟩
    have hT2 : h''.get? s.heap.objs.size = some { cls := .type "tuple", data := .seq #[v1, v2] } := (sb.2 _ (Nat.ne_of_gt hzl)).trans hT
    have new : ObjOk X.prog X.w (upd H s.heap.objs.size (.frz { cls := .type "tuple", data := .seq #[v1, v2] } (.tup [x, y]))) h'' s.heap.objs.size (.frz { cls := .type "tuple", data := .seq #[v1, v2] } (.tup [x, y])) :=
      ⟨hT2, by show 2 ≤ sizeLine; decide, [v1, v2], .cons ru (.cons ru2 .nil), ⟨_, hT2, rfl, _, rfl⟩⟩
    have I1 : Inv X pins σ (upd H s.heap.objs.size (.frz { cls := .type "tuple", data := .seq #[v1, v2] } (.tup [x, y]))) { s with heap := h'', toks := tk } :=
      I.turnedNew (ch := [z, TI, TO, i1, i2]) (fun c o hb q => (sb.2 c (fun q' => hb (by simp [q']))).trans (hk c o (fun q' => hb (by simp [q'])) (fun q' => hb (by simp [q'])) (fun q' => hb (by simp [q'])) (fun q' => hb (by simp [q'])) q)) hf (Nat.le_refl _) new
    refine ⟨.ref s.heap.objs.size, _, I1, rfl, ⟨_, x, y, _, rfl, I.hok.fresh (Nat.le_refl _), ⟨_, rfl, rfl, rfl⟩, rfl, fun l hl => by rw [Inv.src_inj I hl hqx]; exact hx, fun l hl => by rw [Inv.src_inj I hl hqy]; exact hy⟩, ⟨z'', ?_, ⟨v1, v2, ?_⟩, ?_, ?_⟩, fun c hcm => ?_⟩
    · exact (sb.2 _ D.TIz).trans (hk _ _ D.TIz D.TITO D.TIi1 D.TIi2 hTI)
    · exact (sb.2 _ D.TOz).trans TO'
    · exact src_it_keep s1'.1 fun o q => (sb.2 _ (Ne.symm D.zi1)).trans q
    · exact src_it_keep s2'.1 fun o q => (sb.2 _ (Ne.symm D.zi2)).trans q
    · have hlt : c < s.heap.objs.size := by
        have e' : c = z ∨ c = TI ∨ c = TO ∨ c = i1 ∨ c = i2 := by simpa using hcm
        rcases e' with q | q | q | q | q
        · rw [q]; exact hzl
        · rw [q]; exact Heap.lt_size hTI
        · rw [q]; exact Heap.lt_size hTO
        · rw [q]; obtain ⟨_, e1, _⟩ := src_it_obj h1; exact Heap.lt_size e1
        · rw [q]; obtain ⟨_, e2, _⟩ := src_it_obj h2; exact Heap.lt_size e2
      rw [upd_ne (Nat.ne_of_lt hlt)]
      exact (hf c hcm).1
  done := by
    intro X hP hw hK hc i pins s σ H E I hf st hg
    subst hP hw hK
    obtain ⟨hz, hTI, ⟨x0, y0, hTO⟩, h1, h2⟩ := st
    obtain ⟨xs, ys, hqx, hqy, hend⟩ := hg
    obtain ⟨its, rv, p, _⟩ := Inv.src I hqx
    obtain ⟨its2, rv2, p2, _⟩ := Inv.src I hqy
    have l1 := rv.length
    have l2 := rv2.length
    refine wpAny_pyNext_zipD2_end D (src_draws (A := X.A.in1) (I.ok.hd hc) i1 c1 its.toArray (src_ne h1 p)) (src_draws (A := X.A.in1) (I.ok.hd hc) i2 c2 its2.toArray (src_ne h2 p2)) hz hTI hTO ⟨h1, p⟩ ⟨h2, p2⟩ (by simp; omega) (by simp; omega) (by simp; omega) fun h' tk hk => ⟨rfl, I.turnedL (ch := [z, TI, TO, i1, i2]) (fun c o hb q =>
      hk c o (fun q' => hb (by simp [q'])) (fun q' => hb (by simp [q'])) (fun q' => hb (by simp [q'])) (fun q' => hb (by simp [q'])) q) hf⟩
  self := fun A i s Q E st h => wpAny_pyIter_zip st.1 h
def iZipS (K : PySem.W.Frag) (ta : TA) : TI := fun σ H R => ta σ H fun vs H1 => ∃ c1 c2 xs ys, vs = [.ref c1.ad, .ref c2.ad] ∧ SrcAt K H1 c1 xs ∧ SrcAt K H1 c2 ys ∧ R (ItzS K c1 c2) H1
theorem pi_zipS {X : Cx} {e e2 : Expr} {ta : TA} {p pos tpos : Pos} {elts : List Expr} {kk : Nat} (hg : Gl X "zip") (hm : X.mg "zip" = none) (ha : PA X [e, e2] ta)
    (hs : starEach [e, e2] X.env = (false, eval e X.env) :: starEach [e2] X.env := by rfl) (hpl : (backTo pos (starEach [e2] X.env)).any (·.1) = false := by rfl) :
    PI X (.Tuple elts kk tpos) (.Call (.Name "zip" p) [e, e2] [] pos) (iZipS X.K ta) := by
  refine ⟨fun pins s σ H R I h => ?_⟩
  refine Call_ (ld_blt I hg hm PyProof.Rows.boot_zip (PyProof.Rows.callWith_type1 (thn (ha.run pos pins s σ H _ I h) fun us s1 ⟨vs, H1, I1, r1, q1⟩ => ?_) hs hpl))
  obtain ⟨c1, c2, xs, ys, ex, hqx, hqy, q⟩ := q1
  subst ex
  cases r1 with
  | cons r rr =>
    cases rr with
    | cons r' rr =>
      cases rr
      cases r
      cases r'
      have fresh5 : ∀ c, c ∈ [s1.heap.objs.size + 4, s1.heap.objs.size + 2, s1.heap.objs.size + 3, s1.heap.objs.size, s1.heap.objs.size + 1] → FpOk X pins H1 c := fun c hcm => by
        have e' : c = s1.heap.objs.size + 4 ∨ c = s1.heap.objs.size + 2 ∨ c = s1.heap.objs.size + 3 ∨ c = s1.heap.objs.size ∨ c = s1.heap.objs.size + 1 := by simpa using hcm
        have hle : s1.heap.objs.size ≤ c := by
          rcases e' with z | z | z | z | z
          · rw [z]; exact Nat.le_add_right _ _
          · rw [z]; exact Nat.le_add_right _ _
          · rw [z]; exact Nat.le_add_right _ _
          · rw [z]; exact Nat.le_refl _
          · rw [z]; exact Nat.le_add_right _ _
        exact I1.fpOk hle (I1.hok.fresh hle)
      obtain ⟨its, rv, p1, _⟩ := Inv.src I1 hqx
      obtain ⟨its2, rv2, p2, _⟩ := Inv.src I1 hqy
      obtain ⟨o1, B1, b1⟩ := src_begins c1 its.toArray
      obtain ⟨o2, B2, b2⟩ := src_begins c2 its2.toArray
      refine zip_begins2 B1 B2 p1 p2 fun h' hz hTI hTO h1 h2 hsz hk => wpAny_pyIter_zip hz ?_
      have I2 : Inv X pins σ H1 { s1 with heap := h' } := I1.kept (t' := s1.toks) hk
      obtain ⟨ob1, hb1, _⟩ := src_ob_obj p1
      obtain ⟨ob2, hb2, _⟩ := src_ob_obj p2
      have sep : ZipSep2 (s1.heap.objs.size + 4) (s1.heap.objs.size + 2) (s1.heap.objs.size + 3) s1.heap.objs.size (s1.heap.objs.size + 1) [s1.heap.objs.size, c1.ad] [s1.heap.objs.size + 1, c2.ad] :=
        zip_sep2 (fp1 := [c1.ad]) (fp2 := [c2.ad]) (fun b hb => one_lt (Heap.lt_size hb1) hb) (fun b hb => one_lt (Heap.lt_size hb2) hb)
      exact ⟨s1.heap.objs.size + 4, [s1.heap.objs.size + 4, s1.heap.objs.size + 2, s1.heap.objs.size + 3, s1.heap.objs.size, s1.heap.objs.size + 1], _, _, H1, rfl, I2, turn_zipS sep, ⟨hz, hTI, ⟨_, _, hTO⟩, b1 _ _ h1, b2 _ _ h2⟩, fresh5, q⟩

/-! ### over data -/
def enumD : Nat → List Dv → List Dv
  | _, [] => []
  | i, d :: ds => .tup [.int (i : Nat), d] :: enumD (i + 1) ds
theorem enumD_get : ∀ (ds : List Dv) (k i : Nat), (enumD k ds)[i]? = (ds[i]?).map fun d => .tup [.int ((k + i : Nat)), d]
  | [], _, i => by simp [enumD]
  | d :: ds, k, 0 => by simp [enumD]
  | d :: ds, k, i + 1 => by
    simp only [enumD, List.getElem?_cons_succ]
    rw [enumD_get ds (k + 1) i]
    have : k + 1 + i = k + (i + 1) := by omega
    rw [this]
theorem enumD_length : ∀ (ds : List Dv) (k : Nat), (enumD k ds).length = ds.length
  | [], _ => rfl
  | d :: ds, k => by simp [enumD, enumD_length ds]
def zipD (ds es : List Dv) : List Dv := (ds.zip es).map fun p => .tup [p.1, p.2]
/-- a result frozen, its items -/
def frzSeq (s : Sl) (δ : DS) : Option (List Dv × DS) := match fzR s δ with
  | some (.lst ds, δ1) => some (ds, δ1)
  | some (.tup ds, δ1) => some (ds, δ1)
  | _ => none
theorem Sim.frzSeq_at {K : PySem.W.Frag} {c : Ctx} {σ : St} {H : Hp} {δ δ' : DS} {vs : List V} {ss : List Sl} (S : Sim K c σ H δ vs ss) {j : Nat} {s : Sl} {ds : List Dv} (e : ss[j]? = some s) (h : frzSeq s δ = some (ds, δ')) :
    ∃ d, (d = .lst ds ∨ d = .tup ds) ∧ Sim K c σ H δ' vs (ss.set j (.fz d)) := by
  obtain ⟨F, cs, S⟩ := S
  unfold frzSeq at h
  split at h
  · rename_i q; cases h; exact ⟨_, .inl rfl, S.fzAt e q⟩
  · rename_i q; cases h; exact ⟨_, .inr rfl, S.fzAt e q⟩
  · cases h
theorem src_of {K : PySem.W.Frag} {F : Hp} {d : Dv} {ds : List Dv} {v : V} (h : Rep K F d v) (e : d = .lst ds ∨ d = .tup ds) : ∃ c xs, v = .ref (Src.ad c) ∧ SrcAt K F c xs ∧ Reps K F ds xs := by
  rcases e with rfl | rfl
  · obtain ⟨a, xs, rfl, q1, q2⟩ := h; exact ⟨.l a, xs, rfl, SqL.of q1, q2⟩
  · obtain ⟨a, xs, rfl, q1, q2⟩ := h; exact ⟨.t a, xs, rfl, q1.t, q2⟩
theorem SrcAt.mono {K : PySem.W.Frag} {F F' : Hp} (e : Ex F F') : ∀ {c : Src} {xs : List V}, SrcAt K F c xs → SrcAt K F' c xs
  | .l _, _, h => ex_l e h
  | .t _, _, h => ex_tt e h
def dEnum (t : DTA) : DTI := fun δ Q => t δ fun ss δ1 => match ss with
  | [s] => match frzSeq s δ1 with
    | some (ds, δ2) => Q (enumD 0 ds) δ2
    | none => False
  | _ => False
def dZip (t : DTA) : DTI := fun δ Q => t δ fun ss δ1 => match ss with
  | [s, u] => match frzSeq s δ1 with
    | some (ds, δ2) => match frzSeq u δ2 with
      | some (es, δ3) => Q (zipD ds es) δ3
      | none => False
    | none => False
  | _ => False
theorem SimW.repR {K : PySem.W.Frag} {c : Ctx} {σ : St} {H : Hp} {δ : DS} {vs : List V} {ss : List Sl} {F : Hp} {cs : Nat ⊕ Nat → Cn} (S : SimW K c σ H δ vs ss F cs) {j : Nat} {d : Dv} (e : ss[j]? = some (.fz d)) : ∃ v, vs[j]? = some v ∧ Rep K F d v := by
  obtain ⟨h1, h2, _⟩ := S.here (.inr j) _ e
  refine ⟨_, h1, ?_⟩
  generalize cs (Sum.inr j) = n at h2
  cases n with
  | v x => exact h2
  | _ => exact h2.elim
section
variable {X : Cx} {e e2 : Expr} {t : DTA} {p pos tpos : Pos} {elts : List Expr} {kk : Nat}
theorem di_enum (hg : Gl X "enumerate") (hm : X.mg "enumerate" = none) (ha : DA X [e] t) (hs : starEach [e] X.env = [(false, eval e X.env)] := by rfl) : DI X (.Tuple elts kk tpos) (.Call (.Name "enumerate" p) [e] [] pos) (dEnum t) :=
  PI.to (pi_enumS hg hm ha hs) fun σ H R _ ⟨c, δ, W, S, ht, k⟩ => by
    refine ⟨c, δ, _, S, ht, fun vs H' δ1 ss S1 hw => ?_⟩
    split at hw
    · rename_i s
      split at hw
      · rename_i ds δ2 ef
        obtain ⟨d, hd, F, cs, S2⟩ := S1.frzSeq_at (j := 0) rfl ef
        obtain ⟨v, ev, hr⟩ := S2.repR (j := 0) rfl
        have evs : vs = [v] := by
          have := S2.rlen
          match vs, this, ev with
          | [w], _, ev => cases ev; rfl
        obtain ⟨c', xs, rfl, q1, q2⟩ := src_of hr hd
        refine ⟨c', xs, evs, q1.mono S2.FH, k _ H' δ2 (enumD 0 ds) ⟨F, c.R, c.P⟩ S2.know_le ⟨F, cs, S2.know.bare⟩ ?_ hw⟩
        intro i c2 σ2 H2 δ3 e2 ⟨F3, cs3, S3⟩
        have e3 : Ex F H2 := (e2.trans S3.fF).trans S3.FH
        have hn := Reps.length q2
        refine ⟨fun hi => ?_, fun hi => ?_, fun x H3 d' hd' y => ?_⟩
        · rw [enumD_length] at hi
          exact ⟨xs, xs[i]'(by omega), q1.mono e3, by simp [hn ▸ hi]⟩
        · rw [enumD_length] at hi
          exact ⟨xs, q1.mono e3, by omega⟩
        · obtain ⟨T, x1, u1, rfl, hT, hu1, rfl, hx⟩ := y
          rw [enumD_get] at hd'
          cases q : ds[i]? with
          | none => rw [q] at hd'; cases hd'
          | some d1 =>
            rw [q] at hd'
            cases hd'
            obtain ⟨v1, q3, q4⟩ := Reps.get q2 q
            have := hx xs (q1.mono e3)
            rw [q3] at this; cases this
            refine S3.resT hu1 hT (Reps.cons ?_ (Reps.cons (q4.mono (e2.trans S3.fF)) Reps.nil))
            show V.int (i : Nat) = V.int ((0 + i : Nat))
            rw [Nat.zero_add]
      · exact hw.elim
    · exact hw.elim
theorem di_zip (hg : Gl X "zip") (hm : X.mg "zip" = none) (ha : DA X [e, e2] t) (hs : starEach [e, e2] X.env = (false, eval e X.env) :: starEach [e2] X.env := by rfl) (hpl : (backTo pos (starEach [e2] X.env)).any (·.1) = false := by rfl) :
    DI X (.Tuple elts kk tpos) (.Call (.Name "zip" p) [e, e2] [] pos) (dZip t) :=
  PI.to (pi_zipS hg hm ha hs hpl) fun σ H R _ ⟨c, δ, W, S, ht, k⟩ => by
    refine ⟨c, δ, _, S, ht, fun vs H' δ1 ss S1 hw => ?_⟩
    split at hw
    · rename_i s u
      split at hw
      · rename_i ds δ2 ef
        split at hw
        · rename_i es δ3 eg
          obtain ⟨d, hd, S2⟩ := S1.frzSeq_at (j := 0) rfl ef
          obtain ⟨d', hd', F, cs, S3⟩ := S2.frzSeq_at (j := 1) rfl eg
          obtain ⟨v, ev, hr⟩ := S3.repR (j := 0) rfl
          obtain ⟨v', ev', hr'⟩ := S3.repR (j := 1) rfl
          have evs : vs = [v, v'] := by
            have := S3.rlen
            match vs, this, ev, ev' with
            | [w, w'], _, ev, ev' => cases ev; cases ev'; rfl
          obtain ⟨c1, xs, rfl, q1, q2⟩ := src_of hr hd
          obtain ⟨c2, ys, rfl, r1, r2⟩ := src_of hr' hd'
          refine ⟨c1, c2, xs, ys, evs, q1.mono S3.FH, r1.mono S3.FH, k _ H' δ3 (zipD ds es) ⟨F, c.R, c.P⟩ S3.know_le ⟨F, cs, S3.know.bare⟩ ?_ hw⟩
          intro i c2 σ2 H2 δ4 e2 ⟨F4, cs4, S4⟩
          have e3 : Ex F H2 := (e2.trans S4.fF).trans S4.FH
          have hn := Reps.length q2
          have hm := Reps.length r2
          have hl : (zipD ds es).length = min ds.length es.length := by simp [zipD]
          refine ⟨fun hi => ?_, fun hi => ?_, fun x H3 d' hd' y => ?_⟩
          · rw [hl] at hi
            exact ⟨xs, ys, xs[i]'(by omega), ys[i]'(by omega), q1.mono e3, r1.mono e3, List.getElem?_eq_getElem _, List.getElem?_eq_getElem _⟩
          · rw [hl] at hi
            exact ⟨xs, ys, q1.mono e3, r1.mono e3, by omega⟩
          · obtain ⟨T, x1, y1, u1, rfl, hT, hu1, rfl, hx, hy⟩ := y
            unfold zipD at hd'
            rw [List.getElem?_map] at hd'
            cases q : (ds.zip es)[i]? with
            | none => rw [q] at hd'; cases hd'
            | some p1 =>
              obtain ⟨a1, b1⟩ := p1
              rw [q] at hd'
              cases hd'
              rw [List.getElem?_zip_eq_some] at q
              obtain ⟨v1, q3, q4⟩ := Reps.get q2 q.1
              obtain ⟨w1, q5, q6⟩ := Reps.get r2 q.2
              have h1 := hx xs (q1.mono e3)
              have h2 := hy ys (r1.mono e3)
              rw [q3] at h1; cases h1
              rw [q5] at h2; cases h2
              exact S4.resT hu1 hT (Reps.cons (q4.mono (e2.trans S4.fF)) (Reps.cons (q6.mono (e2.trans S4.fF)) Reps.nil))
        · exact hw.elim
      · exact hw.elim
    · exact hw.elim
end
end DL

set_option Elab.async false
set_option linter.all false
set_option maxRecDepth 100000
set_option maxHeartbeats 4000000
/-! DLH: operators, comparisons, subscripts, slices, displays, built-ins and methods over data. -/
namespace DL
open PySem L2
theorem szl {n : Nat} (h : n ≤ 1000000) : n ≤ sizeLine := Nat.le_trans h (by decide)
theorem szlt {n : Nat} (h : n ≤ 1000000) : n < sizeLine := Nat.lt_of_le_of_lt h (by decide)
section
variable {X : Cx}
theorem OpR.to {g : Value → Value → Sem Value} {r r' : R2} (h : OpR X g r) (k : ∀ x y H Q, r' x y H Q → r x y H Q) : OpR X g r' := fun pins s σ H x y v u Q I rx ry q => h pins s σ H x y v u Q I rx ry (k x y H Q q)
theorem CallR.to {f : Value} {r r' : List V → Hp → VK → Prop} (h : CallR X f r) (k : ∀ xs H Q, r' xs H Q → r xs H Q) : CallR X f r' := fun pins s σ H xs us Q I rx q => h pins s σ H xs us Q I rx (k xs H Q q)
theorem IxR.to {r r' : R2} (h : IxR X r) (k : ∀ x y H Q, r' x y H Q → r x y H Q) : IxR X r' := fun a b pins s σ H x y v u Q I rx ry q => h a b pins s σ H x y v u Q I rx ry (k x y H Q q)
end
section
variable {K : PySem.W.Frag} {f : F2} {x y : V} {H : Hp} {Q : VK}
/-- what stands behind rOf, opened -/
theorem rOf.open (h : rOf K f x y H Q) : ∃ c σ δ s t dx dy W F cs, SimW K c σ H δ [x, y] [s, t] F cs ∧ Look K F H dx x ∧ Look K F H dy y ∧ f dx dy W ∧ ∀ r, W r → ∀ z H', Sim K c σ H' δ [z] [r] → Q z H' := by
  obtain ⟨c, σ, δ, s, t, dx, dy, W, ⟨F, cs, S⟩, e1, e2, hf, k⟩ := h
  obtain ⟨l1, l2⟩ := S.two_look e1 e2
  exact ⟨c, σ, δ, s, t, dx, dy, W, F, cs, S, l1, l2, hf, k⟩
end

/-! ### arithmetic -/
def addF : F2 := fun a b k => match a, b with
  | .int i, .int j => k (.fz (.int (i + j)))
  | .lst xs, .lst ys => xs.length + ys.length ≤ sizeLine ∧ k (.ml (xs ++ ys))
  | .tup xs, .tup ys => xs.length + ys.length ≤ sizeLine ∧ k (.fz (.tup (xs ++ ys)))
  | .str s, .str t => s.length + t.length ≤ sizeLine ∧ k (.fz (.str (s ++ t)))
  | _, _ => False
def subF : F2 := fun a b k => match a, b with
  | .int i, .int j => k (.fz (.int (i - j)))
  | _, _ => False
def MulOk (i j : Int) : Prop := CMul i j ∨ CMulW i j
def mulF : F2 := fun a b k => match a, b with
  | .int i, .int j => MulOk i j ∧ k (.fz (.int (i * j)))
  | .lst xs, .int n => (-(2 ^ 63) ≤ n ∧ n < 2 ^ 63 ∧ xs.length * n.toNat ≤ sizeLine) ∧ k (.ml (List.replicate n.toNat xs).flatten)
  | .tup xs, .int n => (xs ≠ [] ∧ 2 ≤ n ∧ n ≤ 1000 ∧ xs.length ≤ 1000) ∧ k (.fz (.tup (List.replicate n.toNat xs).flatten))
  | _, _ => False
def DivOk (i j : Int) : Prop := CDivN i j ∨ (CDivW i j)
def fdivF : F2 := fun a b k => match a, b with
  | .int i, .int j => 0 < j ∧ DivOk i j ∧ k (.fz (.int (i / j)))
  | _, _ => False
def modF : F2 := fun a b k => match a, b with
  | .int i, .int j => 0 < j ∧ k (.fz (.int (i % j)))
  | _, _ => False
def powF : F2 := fun a b k => match a, b with
  | .int i, .int j => CPow i j ∧ k (.fz (.int (i ^ j.toNat)))
  | _, _ => False
section
variable {X : Cx}
theorem opd_add : OpD X (binaryOp .Add) addF := OpR.to (OpR.or op_add (OpR.or op_cat (OpR.or op_catZ op_add_str))) fun x y H Q h => by
  obtain ⟨c, σ, δ, s, t, dx, dy, W, F, cs, S, l1, l2, hf, k⟩ := h.open
  unfold addF at hf
  split at hf
  · exact .inl ⟨_, _, l1, l2, k _ hf _ _ (S.resFz rfl)⟩
  · obtain ⟨a, vs, rfl, q1, q2⟩ := l1
    obtain ⟨b, ws, rfl, r1, r2⟩ := l2
    refine .inr (.inl ⟨a, b, vs, ws, rfl, rfl, q1, r1, ?_, fun p hp => k _ hf.2 _ _ (S.resL hp (q2.append r2))⟩)
    rw [← q2.length, ← r2.length]; exact hf.1
  · obtain ⟨a, vs, rfl, q1, q2⟩ := l1
    obtain ⟨b, ws, rfl, r1, r2⟩ := l2
    refine .inr (.inr (.inl ⟨a, b, vs, ws, rfl, rfl, ex_t S.FH q1, ex_t S.FH r1, by rw [← q2.length, ← r2.length]; exact hf.1, ?_⟩))
    have hr := q2.append r2
    refine ⟨fun e => ?_, fun _ e => ?_, fun _ _ p u hu hp => k _ hf.2 _ _ (S.resT hu hp hr)⟩
    · subst e
      exact k _ hf.2 _ _ (S.resFz ⟨b, ws, rfl, r1, hr⟩)
    · subst e
      rw [List.append_nil] at hr
      exact k _ hf.2 _ _ (S.resFz ⟨a, vs, rfl, q1, hr⟩)
  · exact .inr (.inr (.inr ⟨_, _, l1, l2, hf.1, k _ hf.2 _ _ (S.resFz rfl)⟩))
  · exact hf.elim
theorem opd_sub : OpD X (binaryOp .Sub) subF := OpR.to op_sub fun x y H Q h => by
  obtain ⟨c, σ, δ, s, t, dx, dy, W, F, cs, S, l1, l2, hf, k⟩ := h.open
  unfold subF at hf
  split at hf
  · exact ⟨_, _, l1, l2, k _ hf _ _ (S.resFz rfl)⟩
  · exact hf.elim
theorem opd_mul : OpD X (binaryOp .Mult) mulF := OpR.to (OpR.or (OpR.or op_mul (OpR.or op_mulW op_rep)) op_repTZ) fun x y H Q h => by
  obtain ⟨c, σ, δ, s, t, dx, dy, W, F, cs, S, l1, l2, hf, k⟩ := h.open
  unfold mulF at hf
  have rr : ∀ {xs : List Dv} {vs : List V} (n : Nat), Reps X.K F xs vs → Reps X.K F (List.replicate n xs).flatten (List.replicate n vs).flatten := fun n q2 => by
    induction n with
    | zero => exact Reps.nil
    | succ n ih => rw [List.replicate_succ, List.replicate_succ, List.flatten_cons, List.flatten_cons]; exact q2.append ih
  split at hf
  · rcases hf.1 with h1 | h1
    · exact .inl (.inl ⟨_, _, l1, l2, h1, k _ hf.2 _ _ (S.resFz rfl)⟩)
    · exact .inl (.inr (.inl ⟨_, _, l1, l2, h1, k _ hf.2 _ _ (S.resFz rfl)⟩))
  · obtain ⟨a, vs, rfl, q1, q2⟩ := l1
    obtain ⟨⟨h1, h2, h3⟩, hk⟩ := hf
    exact .inl (.inr (.inr ⟨a, _, vs, rfl, l2, q1, h1, h2, by rw [← q2.length]; exact h3, fun p hp => k _ hk _ _ (S.resL hp (rr _ q2))⟩))
  · obtain ⟨a, vs, rfl, q1, q2⟩ := l1
    obtain ⟨⟨h0, h1, h2, h3⟩, hk⟩ := hf
    refine .inr ⟨a, _, vs, rfl, l2, ex_t S.FH q1, ?_, h1, h2, by rw [← q2.length]; exact h3, fun p u hu hp => k _ hk _ _ (S.resT hu hp (rr _ q2))⟩
    intro e
    rw [e] at q2
    have := q2.length
    exact h0 (List.eq_nil_of_length_eq_zero this)
  · exact hf.elim
theorem opd_fdiv : OpD X (binaryOp .FloorDiv) fdivF := OpR.to (OpR.or op_fdivN op_fdivW) fun x y H Q h => by
  obtain ⟨c, σ, δ, s, t, dx, dy, W, F, cs, S, l1, l2, hf, k⟩ := h.open
  unfold fdivF at hf
  split at hf
  · rename_i i j
    rcases hf.2.1 with h1 | h1
    · exact .inl ⟨i, j, l1, l2, h1, by
        have e := Int.fdiv_eq_ediv_of_nonneg i (Int.le_of_lt hf.1)
        show Q (.int (i.fdiv j)) H
        rw [e]; exact k _ hf.2.2 _ _ (S.resFz rfl)⟩
    · exact .inr ⟨_, _, l1, l2, h1, k _ hf.2.2 _ _ (S.resFz rfl)⟩
  · exact hf.elim
theorem opd_mod : OpD X (binaryOp .Mod) modF := OpR.to op_mod fun x y H Q h => by
  obtain ⟨c, σ, δ, s, t, dx, dy, W, F, cs, S, l1, l2, hf, k⟩ := h.open
  unfold modF at hf
  split at hf
  · exact ⟨_, _, l1, l2, hf.1, k _ hf.2 _ _ (S.resFz rfl)⟩
  · exact hf.elim
theorem opd_pow : OpD X (binaryOp .Pow) powF := OpR.to op_pow fun x y H Q h => by
  obtain ⟨c, σ, δ, s, t, dx, dy, W, F, cs, S, l1, l2, hf, k⟩ := h.open
  unfold powF at hf
  split at hf
  · exact ⟨_, _, l1, l2, hf.1, k _ hf.2 _ _ (S.resFz rfl)⟩
  · exact hf.elim
/-- -e -/
def dNeg (t : DT) : DT := fun δ Q => t δ fun s δ1 => match view δ1 s with
  | some (.int i) => Q (.fz (.int (-i))) δ1
  | _ => False
theorem de_neg {a : Expr} {t : DT} {pos : Pos} (h : DE X a t) : DE X (.UnaryOp .USub a pos) (dNeg t) := PE.to (pe_un un_neg h) fun σ H Q _ ⟨c, δ, W, S, ht, k⟩ => by
  refine ⟨c, δ, _, S, ht, fun v H' δ1 s S1 hw => ?_⟩
  split at hw
  · rename_i i e
    obtain ⟨F, cs, S2⟩ := S1
    exact ⟨i, S2.one_look e, k _ H' δ1 _ (S2.resFz (d := .int (-i)) rfl) hw⟩
  · exact hw.elim

/-! ### comparisons -/
mutual
def toP : Dv → PyData
  | .non => .none
  | .bl b => .bool b
  | .int i => .int i
  | .str s => .str s
  | .tup ds => .tuple (toPs ds)
  | .lst ds => .list (toPs ds)
  | .dic _ _ => .dict []
  | .scr ns => .list (ns.map .int)
  | .ty _ => .dict []
def toPs : List Dv → List PyData
  | [] => []
  | d :: ds => toP d :: toPs ds
end
mutual
/-- data that == tells apart: no dicts, no script, not too deep -/
def eqOk : Nat → Dv → Bool
  | _, .non => true
  | _, .bl _ => true
  | _, .int _ => true
  | _, .str s => PyData.strOk s
  | n, .tup ds => n != 0 && eqOks (n - 1) ds
  | n, .lst ds => n != 0 && eqOks (n - 1) ds
  | _, .dic _ _ => false
  | _, .scr _ => false
  | _, .ty _ => false
def eqOks : Nat → List Dv → Bool
  | _, [] => true
  | n, d :: ds => eqOk n d && eqOks n ds
end
mutual
theorem eqOk_shape : ∀ (n : Nat) (d : Dv), eqOk n d = true → (toP d).canLay0 = true ∧ (toP d).depth ≤ n
  | _, .non, _ => ⟨rfl, Nat.zero_le _⟩
  | _, .bl _, _ => ⟨rfl, Nat.zero_le _⟩
  | _, .int _, _ => ⟨rfl, Nat.zero_le _⟩
  | _, .str _, h => ⟨by simp only [eqOk] at h; simpa [toP, PyData.canLay0] using h, Nat.zero_le _⟩
  | n, .tup ds, h => by
    have h' : n ≠ 0 ∧ eqOks (n - 1) ds = true := by simpa [eqOk] using h
    obtain ⟨q1, q2⟩ := eqOks_shape (n - 1) ds h'.2
    exact ⟨by simpa [toP, PyData.canLay0] using q1, by show PyData.depthAll _ + 1 ≤ n; omega⟩
  | n, .lst ds, h => by
    have h' : n ≠ 0 ∧ eqOks (n - 1) ds = true := by simpa [eqOk] using h
    obtain ⟨q1, q2⟩ := eqOks_shape (n - 1) ds h'.2
    exact ⟨by simpa [toP, PyData.canLay0] using q1, by show PyData.depthAll _ + 1 ≤ n; omega⟩
  | _, .dic _ _, h => absurd h (by simp [eqOk])
  | _, .scr _, h => absurd h (by simp [eqOk])
  | _, .ty _, h => absurd h (by simp [eqOk])
theorem eqOks_shape : ∀ (n : Nat) (ds : List Dv), eqOks n ds = true → PyData.canLayAll0 (toPs ds) = true ∧ PyData.depthAll (toPs ds) ≤ n
  | _, [], _ => ⟨rfl, Nat.zero_le _⟩
  | n, d :: ds, h => by
    have h' : eqOk n d = true ∧ eqOks n ds = true := by simpa [eqOks] using h
    obtain ⟨q1, q2⟩ := eqOk_shape n d h'.1
    obtain ⟨q3, q4⟩ := eqOks_shape n ds h'.2
    refine ⟨by simp [toPs, PyData.canLayAll0, q1, q3], ?_⟩
    show max _ _ ≤ n
    omega
end
theorem shaped_of {d : Dv} (h : eqOk 60 d = true) : SeqAt.shaped (toP d) = true := by
  obtain ⟨q1, q2⟩ := eqOk_shape 60 d h
  unfold SeqAt.shaped
  rw [q1, Bool.true_and, decide_eq_true_eq]
  omega
mutual
theorem Rep.dp {K : PySem.W.Frag} {F H : Hp} (e : Ex F H) : ∀ (n : Nat) (d : Dv) (x : V), eqOk n d = true → Rep K F d x → Dp K H x (toP d)
  | _, .non, _, _, r => by cases (show _ = _ from r); exact .non
  | _, .bl b, _, _, r => by cases (show _ = _ from r); exact .bl b
  | _, .int i, _, _, r => by cases (show _ = _ from r); exact .int i
  | _, .str s, _, _, r => by cases (show _ = _ from r); exact .str s
  | n, .tup ds, _, h, r => by
    have h' : n ≠ 0 ∧ eqOks (n - 1) ds = true := by simpa [eqOk] using h
    obtain ⟨a, vs, rfl, q1, q2⟩ := r
    exact .tup (ex_t e q1) (Reps.dp e (n - 1) ds vs h'.2 q2)
  | n, .lst ds, _, h, r => by
    have h' : n ≠ 0 ∧ eqOks (n - 1) ds = true := by simpa [eqOk] using h
    obtain ⟨a, vs, rfl, q1, q2⟩ := r
    exact .lst (SqL.of (e _ _ q1)) (Reps.dp e (n - 1) ds vs h'.2 q2)
  | _, .dic _ _, _, h, _ => absurd h (by simp [eqOk])
  | _, .scr _, _, h, _ => absurd h (by simp [eqOk])
  | _, .ty _, _, h, _ => absurd h (by simp [eqOk])
theorem Reps.dp {K : PySem.W.Frag} {F H : Hp} (e : Ex F H) : ∀ (n : Nat) (ds : List Dv) (xs : List V), eqOks n ds = true → Reps K F ds xs → DpAll K H xs (toPs ds)
  | _, [], _, _, r => by rw [show _ = [] from r]; exact .nil
  | n, d :: ds, _, h, r => by
    have h' : eqOk n d = true ∧ eqOks n ds = true := by simpa [eqOks] using h
    obtain ⟨v, vs, rfl, r1, r2⟩ := r
    exact .cons (Rep.dp e n d v h'.1 r1) (Reps.dp e n ds vs h'.2 r2)
end
theorem Look.dp {K : PySem.W.Frag} {F H : Hp} (e : Ex F H) {d : Dv} {x : V} (h : eqOk 60 d = true) (l : Look K F H d x) : Dp K H x (toP d) := by
  cases d with
  | lst ds =>
    obtain ⟨a, vs, rfl, q1, q2⟩ := l
    have h' : eqOks 59 ds = true := by simpa [eqOk] using h
    exact .lst (SqL.of q1) (Reps.dp e 59 ds vs h' q2)
  | dic ks ds => exact absurd h (by simp [eqOk])
  | _ => exact Rep.dp e 60 _ x h l
/-- == of data -/
def eqB (a b : Dv) : Bool := PyData.eqv (toP a) (toP b)
def eqF : F2 := fun a b k => (eqOk 60 a = true ∧ eqOk 60 b = true) ∧ k (.fz (.bl (eqB a b)))
def neF : F2 := fun a b k => (eqOk 60 a = true ∧ eqOk 60 b = true) ∧ k (.fz (.bl (!eqB a b)))
theorem opd_eq (hu : X.A.units + 64 < cLine) : OpD X (compareOp .Eq) eqF := OpR.to (op_eqD hu) fun x y H Q h => by
  obtain ⟨c, σ, δ, s, t, dx, dy, W, F, cs, S, l1, l2, hf, k⟩ := h.open
  exact ⟨_, _, Look.dp S.FH hf.1.1 l1, Look.dp S.FH hf.1.2 l2, shaped_of hf.1.1, shaped_of hf.1.2, k _ hf.2 _ _ (S.resFz rfl)⟩
theorem opd_ne (hu : X.A.units + 64 < cLine) : OpD X (compareOp .NotEq) neF := OpR.to (op_neD hu) fun x y H Q h => by
  obtain ⟨c, σ, δ, s, t, dx, dy, W, F, cs, S, l1, l2, hf, k⟩ := h.open
  exact ⟨_, _, Look.dp S.FH hf.1.1 l1, Look.dp S.FH hf.1.2 l2, shaped_of hf.1.1, shaped_of hf.1.2, k _ hf.2 _ _ (S.resFz rfl)⟩
def ordF (p : Int → Int → Bool) : F2 := fun a b k => match a, b with
  | .int i, .int j => k (.fz (.bl (p i j)))
  | _, _ => False
theorem ord_to {K : PySem.W.Frag} {p : Int → Int → Bool} {x y : V} {H : Hp} {Q : VK} (h : rOf K (ordF p) x y H Q) : rI0 (fun i j => .bl (p i j)) x y H Q := by
  obtain ⟨c, σ, δ, s, t, dx, dy, W, F, cs, S, l1, l2, hf, k⟩ := h.open
  unfold ordF at hf
  split at hf
  · exact ⟨_, _, l1, l2, k _ hf _ _ (S.resFz rfl)⟩
  · exact hf.elim
def ltF : F2 := ordF fun i j => decide (i < j)
def leF : F2 := ordF fun i j => decide (i ≤ j)
def gtF : F2 := ordF fun i j => decide (j < i)
def geF : F2 := ordF fun i j => decide (j ≤ i)
theorem opd_lt : OpD X (compareOp .Lt) ltF := OpR.to op_lt fun _ _ _ _ h => ord_to h
theorem opd_le : OpD X (compareOp .LtE) leF := OpR.to op_le fun _ _ _ _ h => ord_to h
theorem opd_gt : OpD X (compareOp .Gt) gtF := OpR.to op_gt fun _ _ _ _ h => ord_to h
theorem opd_ge : OpD X (compareOp .GtE) geF := OpR.to op_ge fun _ _ _ _ h => ord_to h
def isNoneD : Dv → Bool
  | .non => true
  | _ => false
def isF : F2 := fun a b k => match b with
  | .non => k (.fz (.bl (isNoneD a)))
  | _ => False
def isnF : F2 := fun a b k => match b with
  | .non => k (.fz (.bl (!isNoneD a)))
  | _ => False
theorem look_none {K : PySem.W.Frag} {F H : Hp} {d : Dv} {x : V} (l : Look K F H d x) : decide (x = .non) = isNoneD d := by
  cases d with
  | non => cases (show x = _ from l); rfl
  | bl b => cases (show x = _ from l); rfl
  | int b => cases (show x = _ from l); rfl
  | str b => cases (show x = _ from l); rfl
  | tup b => obtain ⟨a, vs, rfl, _⟩ := l; rfl
  | lst b => obtain ⟨a, vs, rfl, _⟩ := l; rfl
  | dic b c => obtain ⟨a, vs, rfl, _⟩ := l; rfl
  | scr b => obtain ⟨a, rfl, _⟩ := l; rfl
  | ty b => cases (show x = _ from l); rfl
theorem opd_is : OpD X (compareOp .Is) isF := OpR.to op_isN fun x y H Q h => by
  obtain ⟨c, σ, δ, s, t, dx, dy, W, F, cs, S, l1, l2, hf, k⟩ := h.open
  unfold isF at hf
  split at hf
  · exact ⟨l2, by rw [look_none l1]; exact k _ hf _ _ (S.resFz rfl)⟩
  · exact hf.elim
theorem opd_isn : OpD X (compareOp .IsNot) isnF := OpR.to op_notN fun x y H Q h => by
  obtain ⟨c, σ, δ, s, t, dx, dy, W, F, cs, S, l1, l2, hf, k⟩ := h.open
  unfold isnF at hf
  split at hf
  · exact ⟨l2, by rw [look_none l1]; exact k _ hf _ _ (S.resFz rfl)⟩
  · exact hf.elim
end
end DL

set_option Elab.async false
set_option linter.all false
set_option maxRecDepth 100000
set_option maxHeartbeats 4000000
/-! DLT: tables of data, keys ints and texts. -/
namespace DL
open PySem L2
/-! ### tables of data -/
section
variable {α β : Type}
def valA (l : List (Key × α)) (k : Key) : Option α := (l.find? fun p => decide (p.1 = k)).map (·.2)
def hasA (l : List (Key × α)) (k : Key) : Bool := l.any fun p => decide (p.1 = k)
def putA (l : List (Key × α)) (k : Key) (v : α) : List (Key × α) := if hasA l k = true then l.map (fun p => if p.1 = k then (p.1, v) else p) else l ++ [(k, v)]
def dropA (l : List (Key × α)) (k : Key) : List (Key × α) := l.filter fun p => decide (p.1 ≠ k)
def mergeA (l more : List (Key × α)) : List (Key × α) := more.foldl (fun acc p => putA acc p.1 p.2) l
theorem valA_has (l : List (Key × α)) (k : Key) : (valA l k).isSome = hasA l k := by
  induction l with
  | nil => rfl
  | cons p l ih =>
    by_cases e : p.1 = k
    · simp [valA, hasA, List.find?_cons, e]
    · have : valA (p :: l) k = valA l k := by simp [valA, List.find?_cons, e]
      rw [this, ih]; simp [hasA, e]
end
section
variable {K : PySem.W.Frag} {F F' H : Hp}
def RA (K : PySem.W.Frag) (F : Hp) : List (Key × Dv) → List (Key × V) → Prop
  | [], m => m = []
  | p :: l, m => ∃ v r, m = (p.1, v) :: r ∧ Rep K F p.2 v ∧ RA K F l r
theorem RA.of : ∀ {ks : List Key} {ds : List Dv} {xs : List V}, ks.length = xs.length → Reps K F ds xs → RA K F (ks.zip ds) (ks.zip xs)
  | [], _, _, _, _ => by simp [RA]
  | k :: ks, [], _, hl, h => by
    rw [show _ = [] from h] at hl; simp at hl
  | k :: ks, d :: ds, _, hl, h => by
    obtain ⟨v, r, rfl, h2, h3⟩ := h
    exact ⟨v, _, rfl, h2, RA.of (by simpa using hl) h3⟩
theorem RA.keys : ∀ {l : List (Key × Dv)} {m : List (Key × V)}, RA K F l m → m.map (·.1) = l.map (·.1)
  | [], _, h => by rw [show _ = [] from h]; rfl
  | p :: l, _, h => by
    obtain ⟨v, r, rfl, h2, h3⟩ := h
    simp [RA.keys h3]
theorem RA.vals : ∀ {l : List (Key × Dv)} {m : List (Key × V)}, RA K F l m → Reps K F (l.map (·.2)) (m.map (·.2))
  | [], _, h => by rw [show _ = [] from h]; rfl
  | p :: l, _, h => by
    obtain ⟨v, r, rfl, h2, h3⟩ := h
    exact Reps.cons h2 (RA.vals h3)
theorem RA.length {l : List (Key × Dv)} {m : List (Key × V)} (h : RA K F l m) : m.length = l.length := by
  have := congrArg List.length h.keys
  simpa using this
theorem RA.zip : ∀ {l : List (Key × Dv)} {m : List (Key × V)}, RA K F l m → m = (l.map (·.1)).zip (m.map (·.2))
  | [], _, h => by rw [show _ = [] from h]; rfl
  | p :: l, _, h => by
    obtain ⟨v, r, rfl, h2, h3⟩ := h
    simp only [List.map_cons, List.zip_cons_cons]
    rw [← RA.zip h3]
theorem RA.monoE (e : Ex F F') : ∀ {l : List (Key × Dv)} {m : List (Key × V)}, RA K F l m → RA K F' l m
  | [], _, h => h
  | p :: l, _, h => by
    obtain ⟨v, r, h1, h2, h3⟩ := h
    exact ⟨v, r, h1, h2.mono e, RA.monoE e h3⟩
theorem RA.hasK (k : Key) : ∀ {l : List (Key × Dv)} {m : List (Key × V)}, RA K F l m → (m.any fun kv => decide (kv.1 = k)) = hasA l k
  | [], _, h => by rw [show _ = [] from h]; rfl
  | p :: l, _, h => by
    obtain ⟨v, r, rfl, h2, h3⟩ := h
    have := RA.hasK k h3
    simp only [hasA, List.any_cons] at this ⊢
    rw [this]
theorem RA.val (k : Key) : ∀ {l : List (Key × Dv)} {m : List (Key × V)}, RA K F l m → (∀ d, valA l k = some d → ∃ v, valV m k = some v ∧ Rep K F d v) ∧ (valA l k = none → valV m k = none)
  | [], _, h => by rw [show _ = [] from h]; exact ⟨fun d e => (by cases e), fun _ => rfl⟩
  | p :: l, _, h => by
    obtain ⟨v, r, rfl, h2, h3⟩ := h
    by_cases e : p.1 = k
    · have e1 : valA (p :: l) k = some p.2 := by simp [valA, List.find?_cons, e]
      have e2 : valV ((p.1, v) :: r) k = some v := by simp [valV, List.find?_cons, e]
      exact ⟨fun d q => by rw [e1] at q; cases q; exact ⟨v, e2, h2⟩, fun q => by rw [e1] at q; cases q⟩
    · have e1 : valA (p :: l) k = valA l k := by simp [valA, List.find?_cons, e]
      have e2 : valV ((p.1, v) :: r) k = valV r k := by simp [valV, List.find?_cons, e]
      rw [e1, e2]
      exact RA.val k h3
theorem RA.mapset {k : Key} {d : Dv} {v : V} (hv : Rep K F d v) : ∀ {l : List (Key × Dv)} {m : List (Key × V)}, RA K F l m → RA K F (l.map fun p => if p.1 = k then (p.1, d) else p) (m.map fun kv => if kv.1 = k then (kv.1, v) else kv)
  | [], _, h => by rw [show _ = [] from h]; rfl
  | p :: l, _, h => by
    obtain ⟨w, r, rfl, h2, h3⟩ := h
    rw [List.map_cons, List.map_cons]
    by_cases e : p.1 = k
    · rw [if_pos e, if_pos e]; exact ⟨v, _, rfl, hv, RA.mapset hv h3⟩
    · rw [if_neg e, if_neg e]; exact ⟨w, _, rfl, h2, RA.mapset hv h3⟩
theorem RA.push {k : Key} {d : Dv} {v : V} (hv : Rep K F d v) : ∀ {l : List (Key × Dv)} {m : List (Key × V)}, RA K F l m → RA K F (l ++ [(k, d)]) (m ++ [(k, v)])
  | [], _, h => by rw [show _ = [] from h]; exact ⟨v, [], rfl, hv, rfl⟩
  | p :: l, _, h => by
    obtain ⟨w, r, rfl, h2, h3⟩ := h
    exact ⟨w, _, rfl, h2, RA.push hv h3⟩
theorem RA.put {k : Key} {d : Dv} {v : V} (hv : Rep K F d v) {l : List (Key × Dv)} {m : List (Key × V)} (h : RA K F l m) : RA K F (putA l k d) (putK m k v) := by
  unfold putA putK
  rw [h.hasK k]
  split
  · exact RA.mapset hv h
  · exact RA.push hv h
theorem RA.drop {k : Key} : ∀ {l : List (Key × Dv)} {m : List (Key × V)}, RA K F l m → RA K F (dropA l k) (dropK m k)
  | [], _, h => by rw [show _ = [] from h]; rfl
  | p :: l, _, h => by
    obtain ⟨w, r, rfl, h2, h3⟩ := h
    unfold dropA dropK
    have ih := RA.drop (k := k) h3
    unfold dropA dropK at ih
    by_cases e : p.1 = k
    · simp only [List.filter_cons, e, ne_eq, not_true, decide_false, Bool.false_eq_true, if_false]
      simpa using ih
    · simp only [List.filter_cons, e, ne_eq, not_false_eq_true, decide_true, if_true]
      exact ⟨w, _, rfl, h2, by simpa using ih⟩
theorem RA.merge : ∀ {more : List (Key × Dv)} {rs : List (Key × V)} {l : List (Key × Dv)} {m : List (Key × V)}, RA K F more rs → RA K F l m → RA K F (mergeA l more) (mergeK m rs)
  | [], _, _, _, h, k => by rw [show _ = [] from h]; exact k
  | p :: more, _, _, _, h, k => by
    obtain ⟨w, r, rfl, h2, h3⟩ := h
    exact RA.merge (more := more) (rs := r) h3 (RA.put (k := p.1) h2 k)
end
def keyOf : Dv → Option Key
  | .int i => some (.inl i)
  | .str s => some (.inr s)
  | _ => none
theorem keyOf_look {K : PySem.W.Frag} {F H : Hp} {d : Dv} {k : Key} {v : V} (e : keyOf d = some k) (l : Look K F H d v) : v = kV k := by
  cases d with
  | int i => cases e; exact l
  | str s => cases e; exact l
  | _ => cases e
theorem keyOf_rep {K : PySem.W.Frag} {F : Hp} {d : Dv} {k : Key} {v : V} (e : keyOf d = some k) (l : Rep K F d v) : v = kV k := by
  cases d with
  | int i => cases e; exact l
  | str s => cases e; exact l
  | _ => cases e
def ksA (l : List (Key × Dv)) : List Key := l.map (·.1)
def vsA (l : List (Key × Dv)) : List Dv := l.map (·.2)
end DL

set_option Elab.async false
set_option linter.all false
set_option maxRecDepth 100000
set_option maxHeartbeats 4000000
/-! DLI: membership, subscripts, slices, displays over data. -/
namespace HT
open PySem PySem.Spec PyProof.Rows L2
section
variable {prog : Program} {w : World} {A : Around} {E : Value → Shared → Prop} {s : Shared}
theorem dl_adjust (n : Nat) : Builtin.Slice.sliceAdjust none none (-1) (n : Int) = ((n : Int) - 1, -1) := by
  unfold Builtin.Slice.sliceAdjust
  simp
theorem dl_places (n : Nat) : Builtin.Slice.slicePlaces ((n : Int) - 1) (-1) (-1) = n := by
  unfold Builtin.Slice.slicePlaces
  simp
  split <;> omega
theorem dl_applied {sl : Addr} {vl vu vs : Value} {n : Nat} {Q : Int × Int × Nat → Shared → Prop} (hs : s.heap.IsSliceOf sl vl vu vs) (pl : IsPart vl none) (pu : IsPart vu none) (ps : IsPart vs (some (-1)))
    (h : Q ((n : Int) - 1, -1, n) s) : wpAny (model prog w) A (Builtin.Slice.sliceApplied (.ref sl) (pure (n : Int))) Q E s := by
  obtain ⟨os, hos, hcs, hds⟩ := id hs
  unfold Builtin.Slice.sliceApplied Builtin.Slice.sliceFields
  refine wpAny_bind (wpAny_bind (wpAny_field hos hds (x := vl) rfl (wpAny_bind (wpAny_field hos hds (x := vu) rfl (wpAny_bind (wpAny_field hos hds (x := vs) rfl (wpAny_pure ?_)))))))
  refine wpAny_bind (slicePart_ ps ?_)
  show wpAny _ _ (if ((-1 : Int) == 0) = true then _ else _) _ _ s
  rw [if_neg (by decide)]
  refine wpAny_bind (slicePart_ pl (wpAny_bind (slicePart_ pu (wpAny_bind (wpAny_pure ?_)))))
  show wpAny _ _ (match Builtin.Slice.sliceAdjust none none (-1) (n : Int) with | (lo, hi) => pure (lo, (-1 : Int), Builtin.Slice.slicePlaces lo hi (-1))) _ _ s
  rw [dl_adjust n]
  show wpAny _ _ (pure ((n : Int) - 1, (-1 : Int), Builtin.Slice.slicePlaces ((n : Int) - 1) (-1) (-1))) _ _ s
  rw [dl_places]
  exact wpAny_pure h
theorem dl_pick (xs : Array Value) : ((List.range xs.size).filterMap fun (m : Nat) => xs[(((xs.size : Int) - 1) + (m : Int) * -1).toNat]?).toArray = xs.toList.reverse.toArray := by
  congr 1
  apply List.ext_getElem?
  intro i
  have key : ∀ (l : List Nat), (∀ m ∈ l, m < xs.size) → l.filterMap (fun (m : Nat) => xs[(((xs.size : Int) - 1) + (m : Int) * -1).toNat]?) = l.map fun m => xs.toList.reverse.getD m .none := by
    intro l hl
    induction l with
    | nil => rfl
    | cons m l ih =>
      have hm := hl m (by simp)
      have e : (((xs.size : Int) - 1) + (m : Int) * -1).toNat = xs.size - 1 - m := by omega
      rw [List.filterMap_cons, List.map_cons, ih (fun k hk => hl k (by simp [hk])), e]
      have hlt : xs.size - 1 - m < xs.size := by omega
      rw [Array.getElem?_eq_getElem hlt]
      have : xs.toList.reverse.getD m .none = xs[xs.size - 1 - m] := by
        rw [List.getD_eq_getElem?_getD, List.getElem?_reverse (by simpa using hm)]
        simp
        rw [Array.getElem?_eq_getElem hlt]; rfl
      rw [this]
  rw [key _ fun m hm => List.mem_range.mp hm, List.getElem?_map]
  by_cases hi : i < xs.size
  · rw [List.getElem?_range hi]
    have : i < xs.toList.reverse.length := by simpa using hi
    simp only [Option.map_some, List.getD_eq_getElem?_getD]
    rw [List.getElem?_eq_getElem this]; rfl
  · rw [List.getElem?_eq_none (by simpa using hi), List.getElem?_eq_none (by simpa using hi)]; rfl
theorem dl_getItem_tup_rev {t sl : Addr} {items : Array Value} {vl vu vs : Value} {Q : Value → Shared → Prop} (ht : IsTup s.heap t items) (hs : s.heap.IsSliceOf sl vl vu vs) (pl : IsPart vl none) (pu : IsPart vu none) (ps : IsPart vs (some (-1)))
    (h : Q (.ref s.heap.objs.size) { s with heap := s.heap.push { cls := .type "tuple", data := .seq items.toList.reverse.toArray } })
    (hsz : items.size ≤ sizeLine) : wpAny (model prog w) A (getItem (.ref t) (.ref sl)) Q E s := by
  have htake : sizeOk (.seq items.toList.reverse.toArray) := by
    show items.toList.reverse.toArray.size ≤ sizeLine
    simpa using hsz
  obtain ⟨os, hos, hcs, hds⟩ := id hs
  have hTs : s.TypeIs (.ref sl) "slice" := ⟨os, hos, hcs⟩
  unfold getItem
  try with_reducible refine wpAny_holding ?_
  first | refine wpAny_bind (wpAny_pure ?_) | skip
  refine wpAny_bind (wpAny_sequenceKey ht.typeIs (by decide) ?_)
  refine wpAny_bind (wpAny_callSpecial?_slot (name := Str.ofString "__getitem__") ht.typeIs PyProof.Rows.slot_tuple_getitem
    (wpAny_call_entry PyProof.Rows.slot_tuple_getitem ht.typeIs entry_tuple_getitem ?_ (args_tuple_getitem _ _)))
  show wpAny _ _ (Builtin.Tuple.tupleItemsOf (.ref t) >>= _) _ _ s
  refine wpAny_bind (tupleItemsOf_ ht ?_)
  refine wpAny_bind (wpAny_typeOf hTs ?_)
  rw [if_pos (by decide)]
  refine wpAny_bind (dl_applied hs pl pu ps ?_)
  show wpAny _ _ (if (((items.size : Int) - 1) == 0 && (-1 : Int) == 1 && items.size == items.size) = true then _ else _) _ _ s
  rw [if_neg (by simp), dl_pick]
  first
    | exact wpAny_bind (m := Builtin.Tuple.tupleExact _) (wpAny_newObj_type (wpAny_pure ⟨_, rfl, wpAny_pure h⟩) htake)
    | exact wpAny_bind (m := Builtin.Tuple.tupleExact _) (wpAny_newObj_type (wpAny_bind (wpAny_pure (wpAny_pure ⟨_, rfl, wpAny_pure h⟩))) htake)
    | exact wpAny_bind (wpAny_bind (m := Builtin.Tuple.tupleExact _) (wpAny_newObj_type (wpAny_pure (wpAny_pure ⟨_, rfl, wpAny_pure h⟩)) htake))
    | exact wpAny_bind (wpAny_bind (m := Builtin.Tuple.tupleExact _) (wpAny_newObj_type (wpAny_pure ⟨_, rfl, wpAny_pure h⟩) htake))
end
end HT
namespace L2
open PySem PySem.Spec PyProof.Rows L2
/-- xs[::-1] of a list or a tuple -/
def tRevA (K : PySem.W.Frag) (te : TE) : TE := fun σ H Q => te σ H fun x H1 => ∃ a xs, x = .ref a ∧ ((SqL K H1 a xs ∧ ∀ p, H1 p = none → Q (.ref p) (upd H1 p (.lst xs.reverse))) ∨ (SqT K H1 a xs ∧ ∀ p u, TupU u xs.reverse → H1 p = none → Q (.ref p) (upd H1 p u)))
theorem pe_revA {X : Cx} {e : Expr} {te : TE} {k : Nat} {p1 p2 p3 pos : Pos} (he : PE X e te) : PE X (.Subscript e (.Slice none none (some (.UnaryOp .USub (.Constant (.int 1) k p1) p2)) p3) pos) (tRevA X.K te) := by
  refine ⟨fun pins s σ H Q I h => ?_⟩
  refine Subscript_ (thn (he.run pins s σ H _ I h) fun v s1 ⟨x, H1, I1, r1, q1⟩ => ?_)
  obtain ⟨a, xs, ex, q⟩ := q1
  subst ex
  cases r1
  have hst : PO X (some (.UnaryOp .USub (.Constant (.int 1) k p1) p2)) (tPart (tUn (rU fun i => .int (-i)) (tC (.int 1)))) := po_some (pe_un un_neg pe_int)
  refine wpAny_Slice (thn (po_none.run pins s1 σ H1 (fun o H2 => o = none ∧ H2 = H1) I1 ⟨rfl, rfl⟩) fun vl s2 ⟨l, H2, I2, pl, el, e2⟩ => ?_)
  subst el e2
  refine thn (po_none.run pins s2 σ H2 (fun o H3 => o = none ∧ H3 = H2) I2 ⟨rfl, rfl⟩) fun vu s3 ⟨u, H3, I3, pu, eu, e3⟩ => ?_
  subst eu e3
  refine thn (hst.run pins s3 σ H3 (fun o H4 => o = some (-1) ∧ H4 = H3) I3 ⟨1, rfl, -1, rfl, rfl, rfl⟩) fun vs s4 ⟨o, H4, I4, ps, eo, e4⟩ => ?_
  subst eo e4
  have I5 : Inv X pins σ H4 { s4 with heap := s4.heap.push { cls := .type "slice", data := .fields #[vl, vu, vs] } } := I4.kept (t' := s4.toks) fun b ob q => Heap.get?_push_of_some _ q
  rcases q with ⟨hx, q⟩ | ⟨hx, q⟩
  · obtain ⟨its, r, ht, hz⟩ := I5.list hx
    have hlen := r.length
    show wpAny (model X.prog X.w) X.A (subscriptTail e (.Slice none none (some (.UnaryOp .USub (.Constant (.int 1) k p1) p2)) p3) (.ref a) (.ref s4.heap.objs.size)) (EP X pins σ Q) X.xe { s4 with heap := s4.heap.push { cls := .type "slice", data := .fields #[vl, vu, vs] } }
    refine tail_any (ops := [.ref a, .ref s4.heap.objs.size]) ht.isList.typeIs (PySem.slot_list_getitem.lookup) ?_ (by with_unfolding_all rfl)
    refine wpAny_getItem_list_slice ht.isList (Heap.IsSliceOf.new _ vl vu vs) pl pu ps (by decide) ?_ (by rw [List.size_toArray]; omega)
    rw [PySem.W.krv_pick]
    refine ⟨.ref _, _, I5.laid (t' := s4.toks) (o := .lst xs.reverse) (fun b ob q => Heap.get?_push_of_some _ q) (Nat.le_refl _) ?_, rfl, q _ (I5.hok.fresh (Nat.le_refl _))⟩
    exact ⟨by rw [List.length_reverse]; exact hz, _, 0, r.reverse, Heap.get?_push_size _ rfl⟩
  · obtain ⟨its, r, ht, hz⟩ := I5.tuple hx
    have hlen := r.length
    show wpAny (model X.prog X.w) X.A (subscriptTail e (.Slice none none (some (.UnaryOp .USub (.Constant (.int 1) k p1) p2)) p3) (.ref a) (.ref s4.heap.objs.size)) (EP X pins σ Q) X.xe { s4 with heap := s4.heap.push { cls := .type "slice", data := .fields #[vl, vu, vs] } }
    refine tail_any (ops := [.ref a, .ref s4.heap.objs.size]) ht.typeIs (PyProof.Rows.slot_tuple_getitem.lookup) ?_ (by with_unfolding_all rfl)
    refine HT.dl_getItem_tup_rev ht (Heap.IsSliceOf.new _ vl vu vs) pl pu ps ?_ (by rw [List.size_toArray]; omega)
    obtain ⟨u, hu, I6⟩ := I5.laidT r.reverse (by rw [List.length_reverse]; exact hz)
    exact ⟨.ref _, _, I6, rfl, q _ u hu (I5.hok.fresh (Nat.le_refl _))⟩
end L2
namespace DL
open PySem L2
/-! ### in, not in -/
def flatD : Dv → Bool
  | .non => true | .bl _ => true | .int _ => true | .str _ => true
  | _ => false
def seqD : Dv → Option (List Dv)
  | .lst ds => some ds
  | .tup ds => some ds
  | .scr ns => some (ns.map .int)
  | _ => none
/-- x in data: among flat items, or in a list of any -/
def inB (x : Dv) (ds : List Dv) : Bool := ds.any fun y => eqB y x
def isLst : Dv → Bool
  | .lst _ => true
  | _ => false
def isTupD : Dv → Bool
  | .tup _ => true
  | _ => false
def inOk (x : Dv) (y : Dv) (ds : List Dv) : Prop := (flatD x = true ∧ ds.all flatD = true) ∨ ((isLst y = true ∨ isTupD y = true) ∧ eqOk 59 x = true ∧ eqOks 59 ds = true)
def keyD : Dv → Option Key
  | .int i => some (.inl i)
  | .str s => some (.inr s)
  | _ => none
theorem keyD_v {d : Dv} {q : Key} {K : PySem.W.Frag} {F H : Hp} {x : V} (h : keyD d = some q) (l : Look K F H d x) : x = kV q := by
  cases d <;> first | (cases h; exact l) | cases h
/-- y in d, d a dict -/
def inDic (x : Dv) : Dv → Option Bool
  | .dic ks ds => (keyD x).map (hasA (ks.zip ds))
  | _ => none
def inF : F2 := fun x y k => match seqD y with
  | some ds => inOk x y ds ∧ k (.fz (.bl (inB x ds)))
  | none => ∃ b, inDic x y = some b ∧ k (.fz (.bl b))
def ninF : F2 := fun x y k => match seqD y with
  | some ds => inOk x y ds ∧ k (.fz (.bl (!inB x ds)))
  | none => ∃ b, inDic x y = some b ∧ k (.fz (.bl (!b)))
theorem rep_flat {K : PySem.W.Frag} {F : Hp} {d : Dv} {x : V} (r : Rep K F d x) (h : flatD d = true) : flatV x = true := by
  cases d <;> first | (cases (show _ = _ from r); rfl) | cases h
theorem rep_eqV {K : PySem.W.Frag} {F : Hp} {d e : Dv} {x y : V} (r : Rep K F d x) (q : Rep K F e y) (h : flatD d = true) (h' : flatD e = true) : eqV x y = eqB d e := by
  cases d with
  | non => cases (show x = _ from r)
           cases e with
           | non => cases (show y = _ from q); rfl
           | bl b => cases (show y = _ from q); rfl
           | int b => cases (show y = _ from q); rfl
           | str b => cases (show y = _ from q); rfl
           | _ => cases h'
  | bl a => cases (show x = _ from r)
            cases e with
            | non => cases (show y = _ from q); rfl
            | bl b => cases (show y = _ from q); rfl
            | int b => cases (show y = _ from q); rfl
            | str b => cases (show y = _ from q); rfl
            | _ => cases h'
  | int a => cases (show x = _ from r)
             cases e with
             | non => cases (show y = _ from q); rfl
             | bl b => cases (show y = _ from q); rfl
             | int b => cases (show y = _ from q); rfl
             | str b => cases (show y = _ from q); rfl
             | _ => cases h'
  | str a => cases (show x = _ from r)
             cases e with
             | non => cases (show y = _ from q); rfl
             | bl b => cases (show y = _ from q); rfl
             | int b => cases (show y = _ from q); rfl
             | str b => cases (show y = _ from q); rfl
             | _ => cases h'
  | _ => cases h
theorem reps_in {K : PySem.W.Frag} {F : Hp} {d : Dv} {x : V} (r : Rep K F d x) (h : flatD d = true) : ∀ {ds : List Dv} {xs : List V}, Reps K F ds xs → ds.all flatD = true → xs.all flatV = true ∧ inV x xs = inB d ds
  | [], _, q, _ => by rw [show _ = [] from q]; exact ⟨rfl, rfl⟩
  | e :: ds, _, q, h' => by
    obtain ⟨v, vs, rfl, q1, q2⟩ := q
    have h2 : flatD e = true ∧ ds.all flatD = true := by simpa using h'
    obtain ⟨k1, k2⟩ := reps_in r h q2 h2.2
    refine ⟨by simp [rep_flat q1 h2.1, k1], ?_⟩
    show (eqV v x || inV x vs) = (eqB e d || inB d ds)
    rw [rep_eqV q1 r h2.1 h, k2]
theorem look_seq {K : PySem.W.Frag} {F H : Hp} {d : Dv} {x : V} {ds : List Dv} (l : Look K F H d x) (e : Ex F H) (h : seqD d = some ds) : ∃ a xs, x = .ref a ∧ (SqL K H a xs ∨ SqT K H a xs) ∧ Reps K F ds xs := by
  cases d with
  | lst es => cases h; obtain ⟨a, xs, rfl, q1, q2⟩ := l; exact ⟨a, xs, rfl, .inl (SqL.of q1), q2⟩
  | tup es => cases h; obtain ⟨a, xs, rfl, q1, q2⟩ := l; exact ⟨a, xs, rfl, .inr (ex_t e q1), q2⟩
  | scr ns => cases h; obtain ⟨a, rfl, q1⟩ := l; exact ⟨a, _, rfl, .inl (ex_l e q1), (Reps.ints ns).mpr rfl⟩
  | _ => cases h
theorem any_eqv (d : Dv) : ∀ ds : List Dv, (toPs ds).any (fun z => PyData.eqv z (toP d)) = inB d ds
  | [] => rfl
  | e :: ds => by
    show (PyData.eqv (toP e) (toP d) || (toPs ds).any _) = (eqB e d || inB d ds)
    rw [any_eqv d ds]; rfl
theorem in_run {K : PySem.W.Frag} {F H : Hp} {dx dy : Dv} {x y : V} {ds : List Dv} {neg : Bool} {Q : VK} (eFH : Ex F H) (l1 : Look K F H dx x) (l2 : Look K F H dy y) (hs : seqD dy = some ds) (ho : inOk dx dy ds) (k : Q (.bl (if neg then !inB dx ds else inB dx ds)) H) :
    rIn K neg x y H Q ∨ (∃ d ds', Dp K H x d ∧ Dp K H y (.list ds') ∧ SeqAt.shaped d = true ∧ SeqAt.shaped (.list ds') = true ∧ Q (.bl (if neg then !(ds'.any fun z => PyData.eqv z d) else ds'.any fun z => PyData.eqv z d)) H) ∨
    (∃ d ds', Dp K H x d ∧ Dp K H y (.tuple ds') ∧ SeqAt.shaped d = true ∧ SeqAt.shaped (.tuple ds') = true ∧ Q (.bl (if neg then !(ds'.any fun z => PyData.eqv z d) else ds'.any fun z => PyData.eqv z d)) H) := by
  rcases ho with ⟨h1, h2⟩ | ⟨h1, h2, h3⟩
  · obtain ⟨a, xs, rfl, q1, q2⟩ := look_seq l2 eFH hs
    have r : Rep K F dx x := by cases dx <;> first | exact l1 | cases h1
    obtain ⟨k1, k2⟩ := reps_in r h1 q2 h2
    exact .inl ⟨a, xs, rfl, q1, rep_flat r h1, k1, by rw [k2]; exact k⟩
  · have o1 : eqOk 60 dx = true := by
        have mono : ∀ (n : Nat), (∀ d, eqOk n d = true → eqOk (n + 1) d = true) ∧ ∀ ds, eqOks n ds = true → eqOks (n + 1) ds = true := by
          intro n
          induction n with
          | zero =>
            have h1 : ∀ d, eqOk 0 d = true → eqOk 1 d = true := fun d h => by cases d <;> first | exact h | (exact absurd h (by simp [eqOk]))
            refine ⟨h1, fun ds => ?_⟩
            induction ds with
            | nil => intro _; rfl
            | cons d ds ih =>
              intro h
              have h' : eqOk 0 d = true ∧ eqOks 0 ds = true := by simpa [eqOks] using h
              simp [eqOks, h1 d h'.1, ih h'.2]
          | succ n ih =>
            have h1 : ∀ d, eqOk (n + 1) d = true → eqOk (n + 2) d = true := fun d h => by
              cases d with
              | tup ds => simp only [eqOk, Nat.add_sub_cancel] at h ⊢; simp at h ⊢; exact ih.2 ds h
              | lst ds => simp only [eqOk, Nat.add_sub_cancel] at h ⊢; simp at h ⊢; exact ih.2 ds h
              | _ => first | exact h | (exact absurd h (by simp [eqOk]))
            refine ⟨h1, fun ds => ?_⟩
            induction ds with
            | nil => intro _; rfl
            | cons d ds ihs =>
              intro h
              have h' : eqOk (n + 1) d = true ∧ eqOks (n + 1) ds = true := by simpa [eqOks] using h
              simp [eqOks, h1 d h'.1, ihs h'.2]
        exact (mono 59).1 dx h2
    cases dy with
    | lst es =>
      cases hs
      have o2 : eqOk 60 (.lst ds) = true := by simpa [eqOk] using h3
      refine .inr (.inl ⟨_, _, Look.dp eFH o1 l1, Look.dp eFH o2 l2, shaped_of o1, shaped_of o2, ?_⟩)
      rw [any_eqv]; exact k
    | tup es =>
      cases hs
      have o2 : eqOk 60 (.tup ds) = true := by simpa [eqOk] using h3
      refine .inr (.inr ⟨_, _, Look.dp eFH o1 l1, Look.dp eFH o2 l2, shaped_of o1, shaped_of o2, ?_⟩)
      rw [any_eqv]; exact k
    | _ => rcases h1 with h1 | h1 <;> cases h1
section
variable {X : Cx}
def rInK : R2 := fun x y H Q => ∃ a o, y = .ref a ∧ DGet H a x o ∧ Q (.bl o.isSome) H
def rNinK : R2 := fun x y H Q => ∃ a o, y = .ref a ∧ DGet H a x o ∧ Q (.bl (!o.isSome)) H
theorem op_inK (hu : X.A.units + 1 < cLine) : OpR X (compareOp .In) rInK := by
  intro pins s σ H x y v u Q I rx ry h
  obtain ⟨a, o, rfl, g, q⟩ := h
  obtain rfl : u = Value.ref a := ry
  exact d_in hu I g rx fun s3 I3 => ⟨.bl o.isSome, H, I3, rfl, q⟩
theorem op_ninK (hu : X.A.units + 1 < cLine) : OpR X (compareOp .NotIn) rNinK := by
  intro pins s σ H x y v u Q I rx ry h
  obtain ⟨a, o, rfl, g, q⟩ := h
  obtain rfl : u = Value.ref a := ry
  exact d_notIn hu I g rx fun s3 I3 => ⟨.bl (!o.isSome), H, I3, rfl, q⟩
theorem inDic_run {K : PySem.W.Frag} {F H : Hp} {x y : V} {dx dy : Dv} {b : Bool} (l1 : Look K F H dx x) (l2 : Look K F H dy y) (h : inDic dx dy = some b) : ∃ a o, y = .ref a ∧ DGet H a x o ∧ o.isSome = b := by
  cases dy with
  | dic ks ds =>
    obtain ⟨a, xs, rfl, q1, q2, q3⟩ := l2
    have ra := RA.of q2 q3
    cases e : keyD dx with
    | none => simp [inDic, e] at h
    | some k =>
      refine ⟨a, _, rfl, by rw [keyD_v e l1]; exact DGet.k q1, ?_⟩
      rw [← valV_any, ra.hasK]
      simpa [inDic, e] using h
  | _ => cases h
theorem opd_in (hu : X.A.units + 65 < cLine) : OpD X (compareOp .In) inF := OpR.to (OpR.or (OpR.or op_in_seq (OpR.or (op_inD hu) (op_inT hu))) (op_inK (by omega))) fun x y H Q h => by
  obtain ⟨c, σ, δ, s, t, dx, dy, W, F, cs, S, l1, l2, hf, k⟩ := h.open
  unfold inF at hf
  split at hf
  · rename_i ds e
    exact .inl (in_run (neg := false) S.FH l1 l2 e hf.1 (k _ hf.2 _ _ (S.resFz rfl)))
  · obtain ⟨b, e, hk⟩ := hf
    obtain ⟨a, o, rfl, g, rfl⟩ := inDic_run l1 l2 e
    exact .inr ⟨a, o, rfl, g, k _ hk _ _ (S.resFz rfl)⟩
theorem opd_nin (hu : X.A.units + 65 < cLine) : OpD X (compareOp .NotIn) ninF := OpR.to (OpR.or (OpR.or op_notIn_seq (OpR.or (op_notInD hu) (op_notInT hu))) (op_ninK (by omega))) fun x y H Q h => by
  obtain ⟨c, σ, δ, s, t, dx, dy, W, F, cs, S, l1, l2, hf, k⟩ := h.open
  unfold ninF at hf
  split at hf
  · rename_i ds e
    exact .inl (in_run (neg := true) S.FH l1 l2 e hf.1 (k _ hf.2 _ _ (S.resFz rfl)))
  · obtain ⟨b, e, hk⟩ := hf
    obtain ⟨a, o, rfl, g, rfl⟩ := inDic_run l1 l2 e
    exact .inr ⟨a, o, rfl, g, k _ hk _ _ (S.resFz rfl)⟩

/-! ### subscripts, slices -/
/-- the value that a key stands for -/
def dget : List Key → List Dv → Key → Option Dv
  | k :: ks, d :: ds, q => if k = q then some d else dget ks ds q
  | _, _, _ => none
theorem dget_rep {K : PySem.W.Frag} {F : Hp} {q : Key} {d : Dv} : ∀ {ks : List Key} {ds : List Dv} {vs : List V}, Reps K F ds vs → dget ks ds q = some d → ∃ v, valV (ks.zip vs) q = some v ∧ Rep K F d v
  | [], _, _, _, h => by simp [dget] at h
  | _ :: _, [], _, _, h => by simp [dget] at h
  | k :: ks, e :: ds, _, r, h => by
    obtain ⟨v, vs, rfl, r1, r2⟩ := r
    unfold dget at h
    rw [List.zip_cons_cons]
    split at h
    · rename_i hk
      cases h
      exact ⟨v, valV_pos hk, r1⟩
    · rename_i hk
      rw [valV_neg hk]
      exact dget_rep r2 h
def ixF : F2 := fun a b k => match a, b with
  | .lst ds, .int i => ∃ d, atI ds i = some d ∧ k (.fz d)
  | .tup ds, .int i => ∃ d, atI ds i = some d ∧ k (.fz d)
  | .dic ks ds, y => ∃ q d, keyD y = some q ∧ dget ks ds q = some d ∧ k (.fz d)
  | _, _ => False
def rIxK : R2 := fun x y H Q => ∃ (a : Addr) (kvs : List (Key × V)) (q : Key) (v : V), x = .ref a ∧ y = kV q ∧ H a = some (.dK kvs) ∧ valV kvs q = some v ∧ Q v H
theorem ix_dK (hu : X.A.units + 1 < cLine) : IxR X rIxK := by
  intro value slice pins s σ H x y v u Q I rx ry h hs
  obtain ⟨a, kvs, q, z, rfl, rfl, hq, he, k⟩ := h
  cases rx
  have g : DGet H a (kV q) (some z) := by rw [← he]; exact DGet.k hq
  exact PyProof.Rows.tail_any (dict_typeIs I g) PySem.F.slot_dict_getitem.lookup (d_getItem hu I g ry fun w' s3 I3 rw' => ⟨z, H, I3, rw', k⟩) hs
theorem Reps.atI {K : PySem.W.Frag} {F : Hp} {ds : List Dv} {xs : List V} {i : Int} {d : Dv} (r : Reps K F ds xs) (h : L2.atI ds i = some d) : ∃ v, L2.atI xs i = some v ∧ Rep K F d v := by
  unfold L2.atI at h ⊢
  rw [← r.length]
  cases e : ixN ds.length i with
  | none => rw [e] at h; cases h
  | some j =>
    rw [e] at h
    exact r.get h
theorem ixd (hu : X.A.units + 65 < cLine) : IxR X (rOf X.K ixF) := IxR.to (IxR.or (IxR.or ix_list ix_tup) (ix_dK (by omega))) fun x y H Q h => by
  obtain ⟨c, σ, δ, s, t, dx, dy, W, F, cs, S, l1, l2, hf, k⟩ := h.open
  unfold ixF at hf
  split at hf
  · rename_i ds i
    obtain ⟨d, e, hk⟩ := hf
    obtain ⟨a, xs, rfl, q1, q2⟩ := l1
    obtain ⟨v, ev, rv⟩ := q2.atI e
    exact .inl (.inl ⟨a, xs, i, v, rfl, l2, SqL.of q1, ev, k _ hk _ _ (S.resFz rv)⟩)
  · rename_i ds i
    obtain ⟨d, e, hk⟩ := hf
    obtain ⟨a, xs, rfl, q1, q2⟩ := l1
    obtain ⟨v, ev, rv⟩ := q2.atI e
    exact .inl (.inr ⟨a, xs, i, v, rfl, l2, ex_t S.FH q1, ev, k _ hk _ _ (S.resFz rv)⟩)
  · rename_i ks ds y
    obtain ⟨q, d, hq, e, hk⟩ := hf
    obtain ⟨a, xs, rfl, q1, _, q2⟩ := l1
    obtain ⟨v, ev, rv⟩ := dget_rep q2 e
    exact .inr ⟨a, _, q, v, rfl, keyD_v hq l2, q1, ev, k _ hk _ _ (S.resFz rv)⟩
  · exact hf.elim
theorem de_ix {a b : Expr} {ta tb : DT} {pos : Pos} (hu : X.A.units + 65 < cLine) (ha : DE X a ta) (hb : DE X b tb) (hs : PlainIx b := by exact fun _ _ => rfl) : DE X (.Subscript a b pos) (dBin ixF ta tb) :=
  PE.to (pe_ix (ixd hu) ha hb hs) fun σ H Q _ h => bin_lift h
/-- the bounds of a slice -/
abbrev DTO := DS → (Option Int → DS → Prop) → Prop
def liftO (K : PySem.W.Frag) (t : DTO) : TO := fun σ H Q => ∃ c δ W, Sim K c σ H δ [] [] ∧ t δ W ∧ ∀ o H' δ', Sim K c σ H' δ' [] [] → W o δ' → Q o H'
def DO (X : Cx) (e : Option Expr) (t : DTO) : Prop := PO X e (liftO X.K t)
def dNoPart : DTO := fun δ Q => Q none δ
def dPart (t : DT) : DTO := fun δ Q => t δ fun s δ1 => match view δ1 s with
  | some (.int i) => Q (some i) δ1
  | _ => False
theorem PO.to {e : Option Expr} {t t' : TO} (h : PO X e t) (k : ∀ σ H Q, t' σ H Q → t σ H Q) : PO X e t' := ⟨fun pins s σ H Q I hw => h.run pins s σ H Q I (k σ H Q hw)⟩
theorem do_none : DO X none dNoPart := PO.to po_none fun σ H Q ⟨c, δ, W, S, ht, k⟩ => k none H δ S ht
theorem do_some {e : Expr} {t : DT} (h : DE X e t) : DO X (some e) (dPart t) := PO.to (po_some h) fun σ H Q ⟨c, δ, W, S, ht, k⟩ => by
  refine ⟨c, δ, _, S, ht, fun v H' δ1 s S1 hw => ?_⟩
  split at hw
  · rename_i i e
    obtain ⟨F, cs, S2⟩ := S1
    exact ⟨i, S2.one_look e, k _ H' δ1 ⟨F, cs, S2.bare⟩ hw⟩
  · exact hw.elim
def cutD (xs : List Dv) (lo hi : Option Int) : List Dv := (xs.drop (HT.sIx xs.length 0 lo)).take (HT.sIx xs.length xs.length hi - HT.sIx xs.length 0 lo)
theorem Reps.cut {K : PySem.W.Frag} {F : Hp} {ds : List Dv} {xs : List V} {lo hi : Option Int} (r : Reps K F ds xs) : Reps K F (cutD ds lo hi) (cutV xs lo hi) := by
  unfold cutD cutV
  rw [r.length]
  exact (r.drop _).take _
def slF (d : Dv) (lo hi : Option Int) (k : Sl → Prop) : Prop := match d with
  | .lst ds => k (.ml (cutD ds lo hi))
  | .tup ds => k (.fz (.tup (cutD ds lo hi)))
  | .scr ns => k (.ml (cutD (ns.map .int) lo hi))
  | _ => False
def dSl (t : DT) (tl th : DTO) : DT := fun δ Q => t δ fun s δ1 => tl δ1 fun lo δ2 => th δ2 fun hi δ3 => match view δ3 s with
  | some d => slF d lo hi fun r => Q r δ3
  | none => False
theorem de_sl {e : Expr} {lo hi : Option Expr} {t : DT} {tl th : DTO} {p2 pos : Pos} (he : DE X e t) (hl : DO X lo tl) (hh : DO X hi th) : DE X (.Subscript e (.Slice lo hi none p2) pos) (dSl t tl th) :=
  PE.to (pe_slice (SlR.or sl_list sl_tupZ) he hl hh) fun σ H Q _ ⟨c, δ, W, S, ht, k⟩ => by
    refine ⟨c, δ, _, S, ht, fun v H1 δ1 s S1 h1 => ?_⟩
    obtain ⟨c', l, S2, back⟩ := S1.hold
    refine ⟨c', δ1, _, S2, h1, fun i H2 δ2 S3 h2 => ⟨c', δ2, _, S3, h2, fun j H3 δ3 S4 h3 => ?_⟩⟩
    split at h3
    · rename_i d e
      obtain ⟨F, cs, S5⟩ := back S4
      have S5 : SimW X.K c σ H3 δ3 [v] [s] F cs := by simpa using S5
      have lk := S5.one_look e
      unfold slF at h3
      split at h3
      · obtain ⟨a, xs, rfl, q1, q2⟩ := lk
        exact .inl ⟨a, xs, rfl, SqL.of q1, fun p hp => k _ _ _ _ (S5.resL hp q2.cut) h3⟩
      · obtain ⟨a, xs, rfl, q1, q2⟩ := lk
        refine .inr ⟨a, xs, rfl, ex_t S5.FH q1, fun ⟨e1, e2⟩ => k _ _ _ _ (S5.resFz ?_) h3, fun _ p u hu hp => k _ _ _ _ (S5.resT hu hp q2.cut) h3⟩
        have e3 : cutV xs i j = xs := by
          unfold cutV
          rw [e1, e2]
          simp
        have q3 := q2.cut (lo := i) (hi := j)
        rw [e3] at q3
        exact ⟨a, xs, rfl, q1, q3⟩
      · rename_i ns
        obtain ⟨a, rfl, q1⟩ := lk
        exact .inl ⟨a, _, rfl, ex_l S5.FH q1, fun p hp => k _ _ _ _ (S5.resL hp (Reps.cut ((Reps.ints ns).mpr rfl))) h3⟩
      · exact h3.elim
    · exact h3.elim
/-- xs[::-1] -/
def dRev (t : DT) : DT := fun δ Q => t δ fun s δ1 => match view δ1 s with
  | some (.lst ds) => Q (.ml ds.reverse) δ1
  | some (.tup ds) => Q (.fz (.tup ds.reverse)) δ1
  | _ => False
theorem de_rev {e : Expr} {t : DT} {k : Nat} {p1 p2 p3 pos : Pos} (he : DE X e t) : DE X (.Subscript e (.Slice none none (some (.UnaryOp .USub (.Constant (.int 1) k p1) p2)) p3) pos) (dRev t) :=
  PE.to (pe_revA he) fun σ H Q _ ⟨c, δ, W, S, ht, k⟩ => by
    refine ⟨c, δ, _, S, ht, fun v H1 δ1 s S1 h1 => ?_⟩
    obtain ⟨F, cs, S2⟩ := S1
    split at h1
    · rename_i ds e
      obtain ⟨a, xs, rfl, q1, q2⟩ := S2.one_look e
      exact ⟨a, xs, rfl, .inl ⟨SqL.of q1, fun p hp => k _ _ _ _ (S2.resL hp q2.reverse) h1⟩⟩
    · rename_i ds e
      obtain ⟨a, xs, rfl, q1, q2⟩ := S2.one_look e
      exact ⟨a, xs, rfl, .inr ⟨ex_t S2.FH q1, fun p u hu hp => k _ _ _ _ (S2.resT hu hp q2.reverse) h1⟩⟩
    · exact h1.elim

/-! ### displays -/
/-- results frozen one by one -/
def fzAll : List Sl → DS → Option (List Dv × DS)
  | [], δ => some ([], δ)
  | s :: ss, δ => match fzR s δ with
    | some (d, δ1) => match fzAll ss δ1 with
      | some (ds, δ2) => some (d :: ds, δ2)
      | none => none
    | none => none
theorem Sim.fzAllW {K : PySem.W.Frag} {c : Ctx} {σ : St} {H : Hp} {vs : List V} : ∀ {ss : List Sl} {pre : List Dv} {δ δ' : DS} {ds : List Dv}, Sim K c σ H δ vs (pre.map Sl.fz ++ ss) → fzAll ss δ = some (ds, δ') → Sim K c σ H δ' vs ((pre ++ ds).map Sl.fz)
  | [], pre, δ, δ', ds, S, h => by cases h; simpa using S
  | s :: ss, pre, δ, δ', ds, S, h => by
    unfold fzAll at h
    split at h
    · rename_i d δ1 e
      split at h
      · rename_i es δ2 e2
        cases h
        obtain ⟨F, cs, S⟩ := S
        have e0 : (pre.map Sl.fz ++ s :: ss)[pre.length]? = some s := by rw [List.getElem?_append_right (by simp)]; simp
        have S2 := S.fzAt e0 e
        have e3 : (pre.map Sl.fz ++ s :: ss).set pre.length (.fz d) = (pre ++ [d]).map Sl.fz ++ ss := by
          rw [List.set_append_right _ _ (by simp)]; simp
        rw [e3] at S2
        have := Sim.fzAllW S2 e2
        simpa using this
      · cases h
    · cases h
theorem Sim.fzAll {K : PySem.W.Frag} {c : Ctx} {σ : St} {H : Hp} {vs : List V} {ss : List Sl} {δ δ' : DS} {ds : List Dv} (S : Sim K c σ H δ vs ss) (h : DL.fzAll ss δ = some (ds, δ')) : Sim K c σ H δ' vs (ds.map Sl.fz) := by
  have := Sim.fzAllW (pre := []) (by simpa using S) h
  simpa using this
theorem SimW.allRep {K : PySem.W.Frag} {c : Ctx} {σ : St} {H : Hp} {δ : DS} {vs : List V} {ds : List Dv} {F : Hp} {cs : Nat ⊕ Nat → Cn} (S : SimW K c σ H δ vs (ds.map Sl.fz) F cs) : Reps K F ds vs := by
  have go : ∀ (ds : List Dv) (vs : List V), ds.length = vs.length → (∀ (j : Nat) (d : Dv), ds[j]? = some d → ∃ v, vs[j]? = some v ∧ Rep K F d v) → Reps K F ds vs := by
    intro ds
    induction ds with
    | nil => intro vs hl _; exact List.length_eq_zero_iff.mp hl.symm
    | cons d ds ih =>
      intro vs hl h
      match vs, hl with
      | v :: vs, hl =>
        obtain ⟨w, e, r⟩ := h 0 d rfl
        cases e
        exact ⟨v, vs, rfl, r, ih vs (by simpa using hl) fun j d' e => by
          obtain ⟨w, e1, r1⟩ := h (j + 1) d' (by simpa using e)
          exact ⟨w, by simpa using e1, r1⟩⟩
  refine go ds vs (by have := S.rlen; simpa using this.symm) fun j d e => S.repR (by rw [List.getElem?_map, e]; rfl)
def dLst (t : DTA) : DT := fun δ Q => t δ fun ss δ1 => match fzAll ss δ1 with
  | some (ds, δ2) => ds.length ≤ sizeLine ∧ Q (.ml ds) δ2
  | none => False
def dTup (t : DTA) : DT := fun δ Q => t δ fun ss δ1 => match fzAll ss δ1 with
  | some (ds, δ2) => ds.length ≤ sizeLine ∧ Q (.fz (.tup ds)) δ2
  | none => False
theorem de_lst {es : List Expr} {t : DTA} {pos : Pos} (h : DA X es t) : DE X (.List es pos) (dLst t) := PE.to (pe_lst h) fun σ H Q _ ⟨c, δ, W, S, ht, k⟩ => by
  refine ⟨c, δ, _, S, ht, fun vs H1 δ1 ss S1 h1 => ?_⟩
  split at h1
  · rename_i ds δ2 e
    obtain ⟨F, cs, S2⟩ := S1.fzAll e
    have r := S2.allRep
    exact ⟨by rw [← r.length]; exact h1.1, fun p hp => k _ _ _ _ (S2.resL hp r) h1.2⟩
  · exact h1.elim
theorem de_tup {es : List Expr} {t : DTA} {x1 : Nat} {pos : Pos} (h : DA X es t) : DE X (.Tuple es x1 pos) (dTup t) := PE.to (pe_tupZ h) fun σ H Q _ ⟨c, δ, W, S, ht, k⟩ => by
  refine ⟨c, δ, _, S, ht, fun vs H1 δ1 ss S1 h1 => ?_⟩
  split at h1
  · rename_i ds δ2 e
    obtain ⟨F, cs, S2⟩ := S1.fzAll e
    have r := S2.allRep
    exact ⟨by rw [← r.length]; exact h1.1, fun p u hu hp => k _ _ _ _ (S2.resT hu hp r) h1.2⟩
  · exact h1.elim
end
end DL

set_option Elab.async false
set_option linter.all false
set_option maxRecDepth 100000
set_option maxHeartbeats 4000000
/-! DLJ: built-ins, methods, more statements over data. -/
namespace DL
open PySem L2
abbrev FN := List Dv → (Sl → Prop) → Prop
def rOfN (K : PySem.W.Frag) (f : FN) : List V → Hp → VK → Prop := fun xs H Q => ∃ c σ δ ss ds W, Sim K c σ H δ xs ss ∧ ss.mapM (view δ) = some ds ∧ f ds W ∧ ∀ r, W r → ∀ z H', Sim K c σ H' δ [z] [r] → Q z H'
def CallD (X : Cx) (v : Value) (f : FN) : Prop := CallR X v (rOfN X.K f)
def dB (f : FN) (ta : DTA) : DT := fun δ Q => ta δ fun ss δ1 => match ss.mapM (view δ1) with
  | some ds => f ds fun r => Q r δ1
  | none => False
theorem cb_lift {K : PySem.W.Frag} {f : FN} {ta : DTA} {σ : St} {H : Hp} {Q : VK} (h : liftE K (dB f ta) σ H Q) : tCB (rOfN K f) (liftA K ta) σ H Q := by
  obtain ⟨c, δ, W, S, ht, k⟩ := h
  refine ⟨c, δ, _, S, ht, fun vs H' δ' ss S' hw => ?_⟩
  split at hw
  · rename_i ds e
    exact ⟨c, σ, δ', ss, ds, _, S', e, hw, fun r hr z H2 S2 => k z H2 δ' r S2 hr⟩
  · exact hw.elim
section
variable {X : Cx} {x : Str} {p pos : Pos} {e : Expr} {es : List Expr} {t : DTA} {id T : String} {f : FN}
theorem de_callB (hc : CallD X (.builtin id) f) (hg : Gl X x) (hm : X.mg x = none) (hv : bootBuiltins x = some (.builtin id)) (ha : DA X (e :: es) t) (hn : x ≠ "__name__" := by decide) (hdb : (x == ("__debug__" : Str)) = false := by decide)
    (he : starEach (e :: es) X.env = (false, eval e X.env) :: starEach es X.env := by rfl) (hpl : (backTo pos (starEach es X.env)).any (·.1) = false := by rfl) : DE X (.Call (.Name x p) (e :: es) [] pos) (dB f t) :=
  PE.to (pe_callB hc hg hm hv ha hn hdb he hpl) fun σ H Q _ h => cb_lift h
theorem de_callTy (hc : CallD X (.type T) f) (hg : Gl X x) (hm : X.mg x = none) (hv : bootBuiltins x = some (.type T)) (ha : DA X (e :: es) t) (hn : x ≠ "__name__" := by decide) (hdb : (x == ("__debug__" : Str)) = false := by decide)
    (he : starEach (e :: es) X.env = (false, eval e X.env) :: starEach es X.env := by rfl) (hpl : (backTo pos (starEach es X.env)).any (·.1) = false := by rfl) : DE X (.Call (.Name x p) (e :: es) [] pos) (dB f t) :=
  PE.to (pe_callTy hc hg hm hv ha hn hdb he hpl) fun σ H Q _ h => cb_lift h
end
section
variable {K : PySem.W.Frag} {f : FN} {xs : List V} {H : Hp} {Q : VK}
theorem rOfN.open (h : rOfN K f xs H Q) : ∃ c σ δ ss ds W F cs, SimW K c σ H δ xs ss F cs ∧ ss.mapM (view δ) = some ds ∧ f ds W ∧ ∀ r, W r → ∀ z H', Sim K c σ H' δ [z] [r] → Q z H' := by
  obtain ⟨c, σ, δ, ss, ds, W, ⟨F, cs, S⟩, e, hf, k⟩ := h
  exact ⟨c, σ, δ, ss, ds, W, F, cs, S, e, hf, k⟩
end
/-! ### len, list, tuple, int, abs, sum, min, max -/
def lenF : FN := fun ds k => match ds with
  | [.lst xs] => k (.fz (.int xs.length))
  | [.tup xs] => k (.fz (.int xs.length))
  | [.scr ns] => k (.fz (.int ns.length))
  | [.str s] => s.length ≤ sizeLine ∧ k (.fz (.int s.length))
  | [.dic ks _] => k (.fz (.int ks.length))
  | _ => False
def listF : FN := fun ds k => match ds with
  | [.lst xs] => k (.ml xs)
  | [.tup xs] => k (.ml xs)
  | _ => False
def tupleF : FN := fun ds k => match ds with
  | [.lst xs] => k (.fz (.tup xs))
  | [.tup xs] => k (.fz (.tup xs))
  | _ => False
def intF : FN := fun ds k => match ds with
  | [.int i] => k (.fz (.int i))
  | [.bl b] => k (.fz (.int (if b then 1 else 0)))
  | _ => False
def absF : FN := fun ds k => match ds with
  | [.int i] => k (.fz (.int (if i < 0 then -i else i)))
  | _ => False
/-- the ints of data -/
def asInts : List Dv → Option (List Int)
  | [] => some []
  | .int i :: ds => match asInts ds with
    | some ns => some (i :: ns)
    | none => none
  | _ => none
theorem asInts_map : ∀ ns : List Int, asInts (ns.map Dv.int) = some ns
  | [] => rfl
  | n :: ns => by simp [asInts, asInts_map ns]
theorem asInts_eq : ∀ {ds : List Dv} {ns : List Int}, asInts ds = some ns → ds = ns.map Dv.int
  | [], ns, h => by cases h; rfl
  | d :: ds, ns, h => by
    cases d with
    | int i =>
      simp only [asInts] at h
      cases e : asInts ds with
      | none => rw [e] at h; cases h
      | some ms => rw [e] at h; cases h; rw [asInts_eq e]; rfl
    | _ => cases h
def sumF : FN := fun ds k => match ds with
  | [.lst xs] => match asInts xs with
    | some ns => k (.fz (.int ns.sum))
    | none => False
  | _ => False
def maxF : FN := fun ds k => match ds with
  | [.int i, .int j] => k (.fz (.int (if j > i then j else i)))
  | [.lst xs] => match asInts xs with
    | some ns => 0 < ns.length ∧ ∀ m, m ∈ ns → (∀ y, y ∈ ns → y ≤ m) → k (.fz (.int m))
    | none => False
  | _ => False
def minF : FN := fun ds k => match ds with
  | [.int i, .int j] => k (.fz (.int (if j < i then j else i)))
  | [.lst xs] => match asInts xs with
    | some ns => 0 < ns.length ∧ ∀ m, m ∈ ns → (∀ y, y ∈ ns → m ≤ y) → k (.fz (.int m))
    | none => False
  | _ => False
/-- the truths of data -/
def asBls : List Dv → Option (List Bool)
  | [] => some []
  | .bl b :: ds => match asBls ds with
    | some bs => some (b :: bs)
    | none => none
  | _ => none
theorem asBls_map : ∀ bs : List Bool, asBls (bs.map Dv.bl) = some bs
  | [] => rfl
  | n :: ns => by simp [asBls, asBls_map ns]
theorem asBls_eq : ∀ {ds : List Dv} {ns : List Bool}, asBls ds = some ns → ds = ns.map Dv.bl
  | [], ns, h => by cases h; rfl
  | d :: ds, ns, h => by
    cases d with
    | bl i =>
      simp only [asBls] at h
      cases e : asBls ds with
      | none => rw [e] at h; cases h
      | some ms => rw [e] at h; cases h; rw [asBls_eq e]; rfl
    | _ => cases h
theorem Reps.bls {K : PySem.W.Frag} {F : Hp} : ∀ (ns : List Bool) {vs : List V}, Reps K F (ns.map Dv.bl) vs ↔ vs = ns.map V.bl
  | [], vs => Iff.rfl
  | n :: ns, vs => by
    constructor
    · rintro ⟨v, r, h1, h2, h3⟩
      rw [h1, show v = V.bl n from h2, (Reps.bls ns).mp h3]; rfl
    · rintro rfl
      exact ⟨_, _, rfl, rfl, (Reps.bls ns).mpr rfl⟩
def allF : FN := fun ds k => match ds with
  | [.lst xs] => match asBls xs with
    | some bs => k (.fz (.bl (bs.all id)))
    | none => False
  | _ => False
def anyF : FN := fun ds k => match ds with
  | [.lst xs] => match asBls xs with
    | some bs => k (.fz (.bl (bs.any id)))
    | none => False
  | _ => False
section
variable {X : Cx}
theorem cd_len : CallD X (.builtin "len") lenF := CallR.to (CallR.or (CallR.or call_len_seq call_len_str) call_lenD) fun xs H Q h => by
  obtain ⟨c, σ, δ, ss, ds, W, F, cs, S, e, hf, k⟩ := h.open
  unfold lenF at hf
  split at hf
  · obtain ⟨v, rfl, a, vs, rfl, q1, q2⟩ := S.looks1 e
    exact .inl (.inl ⟨a, vs, rfl, .inl (SqL.of q1), by rw [← q2.length]; exact k _ hf _ _ (S.resFz rfl)⟩)
  · obtain ⟨v, rfl, a, vs, rfl, q1, q2⟩ := S.looks1 e
    exact .inl (.inl ⟨a, vs, rfl, .inr (ex_t S.FH q1), by rw [← q2.length]; exact k _ hf _ _ (S.resFz rfl)⟩)
  · obtain ⟨v, rfl, a, rfl, q1⟩ := S.looks1 e
    exact .inl (.inl ⟨a, _, rfl, .inl (ex_l S.FH q1), by rw [List.length_map]; exact k _ hf _ _ (S.resFz rfl)⟩)
  · obtain ⟨v, rfl, l⟩ := S.looks1 e
    cases (show _ = _ from l)
    exact .inl (.inr ⟨_, rfl, hf.1, k _ hf.2 _ _ (S.resFz rfl)⟩)
  · rename_i ks _
    obtain ⟨v, rfl, a, vs, rfl, q1, q2, q3⟩ := S.looks1 e
    refine .inr ⟨a, _, rfl, q1, ?_⟩
    rw [List.length_zip, ← q2, Nat.min_self]
    exact k _ hf _ _ (S.resFz rfl)
  · exact hf.elim
theorem cd_list : CallD X (.type "list") listF := CallR.to call_list_of fun xs H Q h => by
  obtain ⟨c, σ, δ, ss, ds, W, F, cs, S, e, hf, k⟩ := h.open
  unfold listF at hf
  split at hf
  · obtain ⟨v, rfl, a, vs, rfl, q1, q2⟩ := S.looks1 e
    exact ⟨a, vs, rfl, .inl (SqL.of q1), fun p hp => k _ hf _ _ (S.resL hp q2)⟩
  · obtain ⟨v, rfl, a, vs, rfl, q1, q2⟩ := S.looks1 e
    exact ⟨a, vs, rfl, .inr (ex_t S.FH q1), fun p hp => k _ hf _ _ (S.resL hp q2)⟩
  · exact hf.elim
theorem cd_tuple : CallD X (.type "tuple") tupleF := CallR.to call_tuple_ofZ fun xs H Q h => by
  obtain ⟨c, σ, δ, ss, ds, W, F, cs, S, e, hf, k⟩ := h.open
  unfold tupleF at hf
  split at hf
  · obtain ⟨v, rfl, a, vs, rfl, q1, q2⟩ := S.looks1 e
    exact ⟨a, vs, rfl, .inl ⟨SqL.of q1, fun p u hu hp => k _ hf _ _ (S.resT hu hp q2)⟩⟩
  · obtain ⟨v, rfl, a, vs, rfl, q1, q2⟩ := S.looks1 e
    exact ⟨a, vs, rfl, .inr ⟨ex_t S.FH q1, k _ hf _ _ (S.resFz ⟨a, vs, rfl, q1, q2⟩)⟩⟩
  · exact hf.elim
theorem cd_int : CallD X (.type "int") intF := CallR.to call_int1 fun xs H Q h => by
  obtain ⟨c, σ, δ, ss, ds, W, F, cs, S, e, hf, k⟩ := h.open
  unfold intF at hf
  split at hf
  · obtain ⟨v, rfl, l⟩ := S.looks1 e
    cases (show _ = _ from l)
    exact .inl ⟨_, rfl, k _ hf _ _ (S.resFz rfl)⟩
  · obtain ⟨v, rfl, l⟩ := S.looks1 e
    cases (show _ = _ from l)
    exact .inr ⟨_, rfl, k _ hf _ _ (S.resFz rfl)⟩
  · exact hf.elim
theorem cd_abs : CallD X (.builtin "abs") absF := CallR.to call_abs fun xs H Q h => by
  obtain ⟨c, σ, δ, ss, ds, W, F, cs, S, e, hf, k⟩ := h.open
  unfold absF at hf
  split at hf
  · obtain ⟨v, rfl, l⟩ := S.looks1 e
    cases (show _ = _ from l)
    exact ⟨_, rfl, k _ hf _ _ (S.resFz rfl)⟩
  · exact hf.elim
theorem cd_sum (hc : X.calm = true) : CallD X (.builtin "sum") sumF := CallR.to (cr_sum hc) fun xs H Q h => by
  obtain ⟨c, σ, δ, ss, ds, W, F, cs, S, e, hf, k⟩ := h.open
  unfold sumF at hf
  split at hf
  · split at hf
    · rename_i ns en
      have en := asInts_eq en
      subst en
      obtain ⟨v, rfl, a, vs, rfl, q1, q2⟩ := S.looks1 e
      have := (Reps.ints ns).mp q2
      subst this
      exact ⟨a, ns, rfl, SqL.of q1, k _ hf _ _ (S.resFz rfl)⟩
    · exact hf.elim
  · exact hf.elim
theorem cd_max (hc : X.calm = true) : CallD X (.builtin "max") maxF := CallR.to (CallR.or (call_max2 hc) (cr_max hc)) fun xs H Q h => by
  obtain ⟨c, σ, δ, ss, ds, W, F, cs, S, e, hf, k⟩ := h.open
  unfold maxF at hf
  split at hf
  · obtain ⟨v, u, rfl, l1, l2⟩ := S.looks2 e
    cases (show _ = _ from l1)
    cases (show _ = _ from l2)
    exact .inl ⟨_, _, rfl, k _ hf _ _ (S.resFz rfl)⟩
  · split at hf
    · rename_i ns en
      have en := asInts_eq en
      subst en
      obtain ⟨v, rfl, a, vs, rfl, q1, q2⟩ := S.looks1 e
      have := (Reps.ints ns).mp q2
      subst this
      exact .inr ⟨a, ns, rfl, SqL.of q1, hf.1, fun m h1 h2 => k _ (hf.2 m h1 h2) _ _ (S.resFz rfl)⟩
    · exact hf.elim
  · exact hf.elim
theorem cd_min (hc : X.calm = true) : CallD X (.builtin "min") minF := CallR.to (CallR.or (call_min2 hc) (cr_min hc)) fun xs H Q h => by
  obtain ⟨c, σ, δ, ss, ds, W, F, cs, S, e, hf, k⟩ := h.open
  unfold minF at hf
  split at hf
  · obtain ⟨v, u, rfl, l1, l2⟩ := S.looks2 e
    cases (show _ = _ from l1)
    cases (show _ = _ from l2)
    exact .inl ⟨_, _, rfl, k _ hf _ _ (S.resFz rfl)⟩
  · split at hf
    · rename_i ns en
      have en := asInts_eq en
      subst en
      obtain ⟨v, rfl, a, vs, rfl, q1, q2⟩ := S.looks1 e
      have := (Reps.ints ns).mp q2
      subst this
      exact .inr ⟨a, ns, rfl, SqL.of q1, hf.1, fun m h1 h2 => k _ (hf.2 m h1 h2) _ _ (S.resFz rfl)⟩
    · exact hf.elim
  · exact hf.elim
theorem cd_all (hc : X.calm = true) : CallD X (.builtin "all") allF := CallR.to (cr_all hc) fun xs H Q h => by
  obtain ⟨c, σ, δ, ss, ds, W, F, cs, S, e, hf, k⟩ := h.open
  unfold allF at hf
  split at hf
  · split at hf
    · rename_i ns en
      have en := asBls_eq en
      subst en
      obtain ⟨v, rfl, a, vs, rfl, q1, q2⟩ := S.looks1 e
      have := (Reps.bls ns).mp q2
      subst this
      exact ⟨a, ns, rfl, SqL.of q1, k _ hf _ _ (S.resFz rfl)⟩
    · exact hf.elim
  · exact hf.elim
theorem cd_any (hc : X.calm = true) : CallD X (.builtin "any") anyF := CallR.to (cr_any hc) fun xs H Q h => by
  obtain ⟨c, σ, δ, ss, ds, W, F, cs, S, e, hf, k⟩ := h.open
  unfold anyF at hf
  split at hf
  · split at hf
    · rename_i ns en
      have en := asBls_eq en
      subst en
      obtain ⟨v, rfl, a, vs, rfl, q1, q2⟩ := S.looks1 e
      have := (Reps.bls ns).mp q2
      subst this
      exact ⟨a, ns, rfl, SqL.of q1, k _ hf _ _ (S.resFz rfl)⟩
    · exact hf.elim
  · exact hf.elim
end

/-! ### list(range(..)), tuple(range(..)) -/
def dRgL (f : List Dv → Sl) (t : DTA) : DT := fun δ Q => t δ fun ss δ1 => match ss.mapM (view δ1) with
  | some [.int j] => RgOk 0 j ∧ Q (f (rangeD 0 j.toNat)) δ1
  | some [.int i, .int j] => RgOk i j ∧ Q (f (rangeD i (j - i).toNat)) δ1
  | _ => False
theorem reps_range {K : PySem.W.Frag} {F : Hp} (i j : Int) : Reps K F (rangeD i (j - i).toNat) (rgV i j) := by
  have e : rangeD i (j - i).toNat = ((List.range (j - i).toNat).map fun (k : Nat) => i + (k : Int)).map Dv.int := by simp [rangeD]
  have e2 : rgV i j = ((List.range (j - i).toNat).map fun (k : Nat) => i + (k : Int)).map V.int := by simp [rgV]
  rw [e, e2]
  exact (Reps.ints _).mpr rfl
section
variable {X : Cx} {a b : Expr} {ta tb : DT} {p p2 pos pos2 : Pos}
theorem de_listRg1 (hc : X.calm = true) (hg : Gl X "list") (hm : X.mg "list" = none) (hg2 : Gl X "range") (hm2 : X.mg "range" = none) (ha : DE X a ta) (na : starEach [a] X.env = (false, eval a X.env) :: starEach [] X.env := by rfl)
    (nb : starEach [.Call (.Name "range" p2) [a] [] pos2] X.env = (false, eval (.Call (.Name "range" p2) [a] [] pos2) X.env) :: starEach [] X.env := by rfl) :
    DE X (.Call (.Name "list" p) [.Call (.Name "range" p2) [a] [] pos2] [] pos) (dRgL .ml (dCons ta dNil)) :=
  PE.to (pe_listRg hc hg hm (prg_1 hg2 hm2 ha na) nb) fun σ H Q _ ⟨c, δ, W, S, ht, k⟩ => by
    refine ⟨c, δ, _, S, ht, fun v H' δ1 s S1 hw => ?_⟩
    obtain ⟨F, cs, S2⟩ := S1
    simp only [dNil] at hw
    split at hw
    · rename_i j e
      obtain ⟨v', ev, l⟩ := S2.looks1 e
      cases ev
      refine ⟨j, l, hw.1, fun q hq => k _ _ _ _ (S2.resL hq ?_) hw.2⟩
      have := reps_range (K := X.K) (F := F) 0 j
      simpa using this
    · rename_i i j e
      obtain ⟨_, _, ev, _⟩ := S2.looks2 e
      cases ev
    · exact hw.elim
theorem de_tupRg1 (hc : X.calm = true) (hg : Gl X "tuple") (hm : X.mg "tuple" = none) (hg2 : Gl X "range") (hm2 : X.mg "range" = none) (ha : DE X a ta) (na : starEach [a] X.env = (false, eval a X.env) :: starEach [] X.env := by rfl)
    (nb : starEach [.Call (.Name "range" p2) [a] [] pos2] X.env = (false, eval (.Call (.Name "range" p2) [a] [] pos2) X.env) :: starEach [] X.env := by rfl) :
    DE X (.Call (.Name "tuple" p) [.Call (.Name "range" p2) [a] [] pos2] [] pos) (dRgL (fun ds => .fz (.tup ds)) (dCons ta dNil)) :=
  PE.to (pe_tupRgZ hc hg hm (prg_1 hg2 hm2 ha na) nb) fun σ H Q _ ⟨c, δ, W, S, ht, k⟩ => by
    refine ⟨c, δ, _, S, ht, fun v H' δ1 s S1 hw => ?_⟩
    obtain ⟨F, cs, S2⟩ := S1
    simp only [dNil] at hw
    split at hw
    · rename_i j e
      obtain ⟨v', ev, l⟩ := S2.looks1 e
      cases ev
      refine ⟨j, l, hw.1, fun q u hu hq => k _ _ _ _ (S2.resT hu hq ?_) hw.2⟩
      have := reps_range (K := X.K) (F := F) 0 j
      simpa using this
    · rename_i i j e
      obtain ⟨_, _, ev, _⟩ := S2.looks2 e
      cases ev
    · exact hw.elim
end
end DL

set_option Elab.async false
set_option linter.all false
set_option maxRecDepth 100000
set_option maxHeartbeats 4000000
/-! DLK: methods of lists, targets, more assignments over data. -/
namespace DL
open PySem L2
section
variable {K : PySem.W.Frag} {c : Ctx} {σ : St} {H : Hp} {δ : DS} {vs : List V} {ss : List Sl} {F : Hp} {cs : Nat ⊕ Nat → Cn}
/-- a slot that holds a list of one's own -/
theorem SimW.own (S : SimW K c σ H δ vs ss F cs) {k : Nat} {ds : List Dv} (e : δ[k]? = some (some (.ml ds))) : ∃ p xs, cs (.inl k) = .l p ∧ σ[k]? = some (some (.ref p)) ∧ H p = some (.lst xs) ∧ Reps K F ds xs ∧ F p = none := by
  obtain ⟨h1, h2, h3⟩ := S.at e
  generalize cs (Sum.inl k) = n at h1 h2 h3
  cases n with
  | l p =>
    obtain ⟨xs, q1, q2⟩ := h2
    exact ⟨p, xs, rfl, h1, q1, q2, (h3 p (by simp [Cn.feet])).1⟩
  | _ => exact h2.elim
theorem SimW.alv (S : SimW K c σ H δ vs ss F cs) {j k : Nat} (e : ss[j]? = some (.al k)) : ∃ v, vs[j]? = some v ∧ σ[k]? = some (some v) := by
  obtain ⟨h1, h2, _⟩ := S.here (.inr j) _ e
  refine ⟨_, h1, ?_⟩
  generalize cs (Sum.inr j) = n at h2
  cases n with
  | v x => exact h2
  | _ => exact h2.elim
/-- the list of slot k becomes another -/
theorem SimW.setL (S : SimW K c σ H δ vs ss F cs) {k : Nat} {ds es : List Dv} {p : Addr} {ys : List V} (e : δ[k]? = some (some (.ml ds))) (hc : cs (.inl k) = .l p) (r : Reps K F es ys) : SimW K c σ (upd H p (.lst ys)) (δ.set k (some (.ml es))) vs ss F cs :=
  S.mut e hc trivial ⟨ys, upd_same, r⟩
end
section
variable {X : Cx} {o e : Expr} {es : List Expr} {to : DT} {ta : DTA} {apos cpos : Pos}
/-- the receiver's type is seen -/
theorem tyV_lst {K : PySem.W.Frag} {F H : Hp} {ds : List Dv} {x : V} (l : Look K F H (.lst ds) x) : tyV K "list" x H := by
  obtain ⟨a, xs, rfl, q1, q2⟩ := l
  exact .inl ⟨rfl, xs, SqL.of q1⟩
/-- x.m(e, ..): x a list; what it does -/
abbrev FM := Sl → List Sl → DS → (Sl → DS → Prop) → Prop
def isL (δ : DS) (s : Sl) : Prop := match view δ s with
  | some (.lst _) => True
  | _ => False
def dMt (f : FM) (to : DT) (ta : DTA) : DT := fun δ Q => to δ fun s δ1 => isL δ1 s ∧ ta δ1 fun ss δ2 => f s ss δ2 Q
theorem isL_ty {K : PySem.W.Frag} {c : Ctx} {σ : St} {H : Hp} {δ : DS} {v : V} {s : Sl} (S : Sim K c σ H δ [v] [s]) (h : isL δ s) : tyV K "list" v H := by
  obtain ⟨F, cs, S⟩ := S
  unfold isL at h
  split at h
  · rename_i ds e; exact tyV_lst (S.one_look e)
  · exact h.elim
theorem mt_lift {K : PySem.W.Frag} {f : FM} {r : V → List V → Hp → VK → Prop} {σ : St} {H : Hp} {Q : VK}
    (hr : ∀ (c : Ctx) (v : V) (vs : List V) (H : Hp) (δ : DS) (s : Sl) (ss : List Sl) (W : Sl → DS → Prop) (Q : VK), Sim K c σ H δ (v :: vs) (s :: ss) → f s ss δ W → (∀ z H' δ' r, Sim K c σ H' δ' [z] [r] → W r δ' → Q z H') → r v vs H Q)
    (h : liftE K (dMt f to ta) σ H Q) : tBM K "list" r (liftE K to) (liftA K ta) σ H Q := by
  obtain ⟨c, δ, W, S, ht, k⟩ := h
  refine ⟨c, δ, _, S, ht, fun v H1 δ1 s S1 ⟨hl, h1⟩ => ⟨isL_ty S1 hl, ?_⟩⟩
  obtain ⟨c', l, S2, back⟩ := S1.hold
  exact ⟨c', δ1, _, S2, h1, fun vs H2 δ2 ss S3 h2 => hr c v vs H2 δ2 s ss W Q (back S3) h2 fun z H' δ' r S' hw => k z H' δ' r S' hw⟩
theorem mt_lift0 {K : PySem.W.Frag} {f : FM} {r : V → List V → Hp → VK → Prop} {σ : St} {H : Hp} {Q : VK}
    (hr : ∀ (c : Ctx) (v : V) (vs : List V) (H : Hp) (δ : DS) (s : Sl) (ss : List Sl) (W : Sl → DS → Prop) (Q : VK), Sim K c σ H δ (v :: vs) (s :: ss) → f s ss δ W → (∀ z H' δ' r, Sim K c σ H' δ' [z] [r] → W r δ' → Q z H') → r v vs H Q)
    (h : liftE K (dMt f to dNil) σ H Q) : tBM0 K "list" r (liftE K to) σ H Q := by
  obtain ⟨c, δ, W, S, ht, k⟩ := h
  exact ⟨c, δ, _, S, ht, fun v H1 δ1 s S1 ⟨hl, h1⟩ => ⟨isL_ty S1 hl, hr c v [] H1 δ1 s [] W Q S1 h1 fun z H' δ' r S' hw => k z H' δ' r S' hw⟩⟩
def appendM : FM := fun s ss δ Q => match s, ss with
  | .al k, [x] => match fzR x δ with
    | some (d, δ1) => match δ1[k]? with
      | some (some (.ml ds)) => ds.length < sizeLine ∧ force (δ1.set k (some (.ml (ds ++ [d])))) (Q (.fz .non))
      | _ => False
    | none => False
  | _, _ => False
theorem appendM_ok {K : PySem.W.Frag} {σ : St} (c : Ctx) (v : V) (vs : List V) (H : Hp) (δ : DS) (s : Sl) (ss : List Sl) (W : Sl → DS → Prop) (Q : VK) (S : Sim K c σ H δ (v :: vs) (s :: ss)) (h : appendM s ss δ W) (k : ∀ z H' δ' r, Sim K c σ H' δ' [z] [r] → W r δ' → Q z H') : rAppend v vs H Q := by
  unfold appendM at h
  split at h
  · rename_i kk x
    split at h
    · rename_i d δ1 ef
      split at h
      · rename_i ds ek
        obtain ⟨F0, cs0, S0⟩ := S
        obtain ⟨F, cs, S1⟩ := S0.fzAt (j := 1) rfl ef
        obtain ⟨p, xs, hc, hp, hH, r, hF⟩ := S1.own ek
        obtain ⟨v', ev, hv⟩ := S1.alv (j := 0) rfl
        obtain ⟨y, ey, ry⟩ := S1.repR (j := 1) rfl
        have hvs : vs = [y] := by
          have := S1.rlen
          match vs, this, ey with
          | [w], _, ey => cases ey; rfl
        cases ev
        rw [hp] at hv; cases hv
        refine ⟨p, xs, y, rfl, hvs, hH, by rw [← r.length]; exact h.1, k _ _ _ _ ?_ (force_iff.mp h.2)⟩
        exact (S1.setL ek hc (r.append (Reps.cons ry Reps.nil))).resFz rfl
      · exact h.elim
    · exact h.elim
  · exact h.elim
theorem de_bm {f : FM} {r : V → List V → Hp → VK → Prop} {name : Str} {id : String} (slot : Slot "list" name id) (hty : typeOf (.builtin id) = pure (.type "method_descriptor")) (hm : MtR X id r)
    (hr : ∀ (σ : St) (c : Ctx) (v : V) (vs : List V) (H : Hp) (δ : DS) (s : Sl) (ss : List Sl) (W : Sl → DS → Prop) (Q : VK), Sim X.K c σ H δ (v :: vs) (s :: ss) → f s ss δ W → (∀ z H' δ' r, Sim X.K c σ H' δ' [z] [r] → W r δ' → Q z H') → r v vs H Q)
    (ho : DE X o to) (ha : DA X (e :: es) ta) (hbase : attributeBase o name X.env (eval o X.env) = eval o X.env := by rfl)
    (hfew : ((backTo cpos (starEach (e :: es) X.env)).all (fun x => !x.1) && (backToKw cpos (keywordEach [] X.env)).all (fun x => x.1.isSome)
      && decide ((e :: es).length + ([] : List Keyword).length + (if ([] : List Keyword).isEmpty then 0 else 1) < 30)) = true := by rfl)
    (hline : (apos.endLine == cpos.line) = true := by rfl) (hs : starEach (e :: es) X.env = (false, eval e X.env) :: starEach es X.env := by rfl) (hplain : (backTo cpos (starEach es X.env)).any (·.1) = false := by rfl) :
    DE X (.Call (.Attribute o name apos) (e :: es) [] cpos) (dMt f to ta) :=
  PE.to (pe_bm PySem.F.plainAttrs_list slot hty hm ho ha hbase hfew hline hs hplain) fun σ H Q _ h => mt_lift (hr σ) h
theorem de_bm0 {f : FM} {r : V → List V → Hp → VK → Prop} {name : Str} {id : String} (slot : Slot "list" name id) (hty : typeOf (.builtin id) = pure (.type "method_descriptor")) (hm : MtR X id r)
    (hr : ∀ (σ : St) (c : Ctx) (v : V) (vs : List V) (H : Hp) (δ : DS) (s : Sl) (ss : List Sl) (W : Sl → DS → Prop) (Q : VK), Sim X.K c σ H δ (v :: vs) (s :: ss) → f s ss δ W → (∀ z H' δ' r, Sim X.K c σ H' δ' [z] [r] → W r δ' → Q z H') → r v vs H Q)
    (ho : DE X o to) (hbase : attributeBase o name X.env (eval o X.env) = eval o X.env := by rfl) (hline : (apos.endLine == cpos.line) = true := by rfl) : DE X (.Call (.Attribute o name apos) [] [] cpos) (dMt f to dNil) :=
  PE.to (pe_bm0 PySem.F.plainAttrs_list slot hty hm ho hbase hline) fun σ H Q _ h => mt_lift0 (hr σ) h
/-- pop(), pop(i) -/
def popM : FM := fun s ss δ Q => match s, ss with
  | .al k, [] => match δ[k]? with
    | some (some (.ml ds)) => ∃ d, ds[ds.length - 1]? = some d ∧ force (δ.set k (some (.ml ds.dropLast))) (Q (.fz d))
    | _ => False
  | _, _ => False
theorem popM_ok {K : PySem.W.Frag} {σ : St} (c : Ctx) (v : V) (vs : List V) (H : Hp) (δ : DS) (s : Sl) (ss : List Sl) (W : Sl → DS → Prop) (Q : VK) (S : Sim K c σ H δ (v :: vs) (s :: ss)) (h : popM s ss δ W) (k : ∀ z H' δ' r, Sim K c σ H' δ' [z] [r] → W r δ' → Q z H') : rPop v vs H Q := by
  unfold popM at h
  split at h
  · rename_i kk
    split at h
    · rename_i ds ek
      obtain ⟨d, ed, hw⟩ := h
      obtain ⟨F, cs, S1⟩ := S
      obtain ⟨p, xs, hc, hp, hH, r, hF⟩ := S1.own ek
      obtain ⟨v', ev, hv⟩ := S1.alv (j := 0) rfl
      cases ev
      rw [hp] at hv; cases hv
      have hvs : vs = [] := by
        have := S1.rlen
        match vs, this with
        | [], _ => rfl
      obtain ⟨y, ey, ry⟩ := r.get ed
      refine ⟨p, xs, y, rfl, hvs, hH, by rw [← r.length]; exact ey, k _ _ _ _ ?_ (force_iff.mp hw)⟩
      exact (S1.setL ek hc r.dropLast).resFz ry
    · exact h.elim
  · exact h.elim
def popAtM : FM := fun s ss δ Q => match s, ss with
  | .al k, [x] => match view δ x, δ[k]? with
    | some (.int i), some (some (.ml ds)) => (-(2 ^ 63) ≤ i ∧ i < 2 ^ 63) ∧ ∃ j d, seqIndex? i ds.length = some j ∧ ds[j]? = some d ∧ force (δ.set k (some (.ml (ds.eraseIdx j)))) (Q (.fz d))
    | _, _ => False
  | _, _ => False
theorem popAtM_ok {K : PySem.W.Frag} {σ : St} (c : Ctx) (v : V) (vs : List V) (H : Hp) (δ : DS) (s : Sl) (ss : List Sl) (W : Sl → DS → Prop) (Q : VK) (S : Sim K c σ H δ (v :: vs) (s :: ss)) (h : popAtM s ss δ W) (k : ∀ z H' δ' r, Sim K c σ H' δ' [z] [r] → W r δ' → Q z H') : rPopAt v vs H Q := by
  unfold popAtM at h
  split at h
  · rename_i kk x
    split at h
    · rename_i i ds ei ek
      obtain ⟨⟨h1, h2⟩, j, d, ej, ed, hw⟩ := h
      obtain ⟨F, cs, S1⟩ := S
      obtain ⟨p, xs, hc, hp, hH, r, hF⟩ := S1.own ek
      obtain ⟨v', ev, hv⟩ := S1.alv (j := 0) rfl
      cases ev
      rw [hp] at hv; cases hv
      obtain ⟨u, eu, lu⟩ := S1.look (j := 1) rfl ei
      have hvs : vs = [.int i] := by
        have := S1.rlen
        match vs, this, eu with
        | [w], _, eu =>
          have : w = u := Option.some.inj eu
          rw [this, show u = V.int i from lu]
      obtain ⟨y, ey, ry⟩ := r.get ed
      refine ⟨p, xs, i, j, y, rfl, hvs, hH, h1, h2, by rw [← r.length]; exact ej, ey, k _ _ _ _ ?_ (force_iff.mp hw)⟩
      exact (S1.setL ek hc (r.eraseIdx j)).resFz ry
    · exact h.elim
  · exact h.elim
theorem de_append (ho : DE X o to) (ha : DA X (e :: es) ta) (hbase : attributeBase o "append" X.env (eval o X.env) = eval o X.env := by rfl)
    (hfew : ((backTo cpos (starEach (e :: es) X.env)).all (fun x => !x.1) && (backToKw cpos (keywordEach [] X.env)).all (fun x => x.1.isSome)
      && decide ((e :: es).length + ([] : List Keyword).length + (if ([] : List Keyword).isEmpty then 0 else 1) < 30)) = true := by rfl)
    (hline : (apos.endLine == cpos.line) = true := by rfl) (hs : starEach (e :: es) X.env = (false, eval e X.env) :: starEach es X.env := by rfl) (hplain : (backTo cpos (starEach es X.env)).any (·.1) = false := by rfl) :
    DE X (.Call (.Attribute o "append" apos) (e :: es) [] cpos) (dMt appendM to ta) :=
  de_bm PySem.F.slot_list_append PySem.F.type_list_append mt_append (fun σ => appendM_ok) ho ha hbase hfew hline hs hplain
theorem de_popAt (ho : DE X o to) (ha : DA X (e :: es) ta) (hbase : attributeBase o "pop" X.env (eval o X.env) = eval o X.env := by rfl)
    (hfew : ((backTo cpos (starEach (e :: es) X.env)).all (fun x => !x.1) && (backToKw cpos (keywordEach [] X.env)).all (fun x => x.1.isSome)
      && decide ((e :: es).length + ([] : List Keyword).length + (if ([] : List Keyword).isEmpty then 0 else 1) < 30)) = true := by rfl)
    (hline : (apos.endLine == cpos.line) = true := by rfl) (hs : starEach (e :: es) X.env = (false, eval e X.env) :: starEach es X.env := by rfl) (hplain : (backTo cpos (starEach es X.env)).any (·.1) = false := by rfl) :
    DE X (.Call (.Attribute o "pop" apos) (e :: es) [] cpos) (dMt popAtM to ta) :=
  de_bm PySem.F.slot_list_pop PySem.F.type_list_pop mt_popAt (fun σ => popAtM_ok) ho ha hbase hfew hline hs hplain
theorem de_pop (ho : DE X o to) (hbase : attributeBase o "pop" X.env (eval o X.env) = eval o X.env := by rfl) (hline : (apos.endLine == cpos.line) = true := by rfl) : DE X (.Call (.Attribute o "pop" apos) [] [] cpos) (dMt popM to dNil) :=
  de_bm0 PySem.F.slot_list_pop PySem.F.type_list_pop mt_pop (fun σ => popM_ok) ho hbase hline
end

/-! ### (a, b, ..) = a list or a tuple -/
section
variable {X : Cx} {P : List (Nat × V)} {e : Expr} {es : List Expr} {pos : Pos}
def gAnyT (K : PySem.W.Frag) (n : Nat) (t : TGs) : TG := fun v σ H Q => ∃ a xs, v = .ref a ∧ (SqL K H a xs ∨ SqT K H a xs) ∧ xs.length = n ∧ t xs σ H Q
theorem pg_any {k : Nat} {t : TGs} {n : Nat} (hc : X.calm = true) (h : PGs X es t) (hn : (assignEach es X.env).length = n := by rfl) (hst : (assignEach es X.env).findIdx? (·.1) = none := by rfl) : PG X (.Tuple es k pos) (gAnyT X.K n t) := by
  refine ⟨fun pins s σ H v u Q I r hw => ?_⟩
  obtain ⟨a, xs, e1, hq, hl, hw⟩ := hw
  rcases hq with hq | hq
  · exact (pg_unl (k := k) (pos := pos) hc h hn hst).run pins s σ H v u Q I r ⟨a, xs, e1, hq, hl, hw⟩
  · exact (pg_tup (k := k) (pos := pos) hc h hn hst).run pins s σ H v u Q I r ⟨a, xs, e1, hq, hl, hw⟩
def dUnp (n : Nat) (gs : DGs) : DG := fun s δ Q => match view δ s with
  | some (.tup ds) => ds.length = n ∧ gs ds δ Q
  | some (.lst ds) => ds.length = n ∧ gs ds δ Q
  | _ => False
theorem dg_unp {ixs : List Nat} {k n : Nat} {gs : DGs} (hc : X.calm = true) (h : DTgs X P ixs es gs) (hn : (assignEach es X.env).length = n := by rfl) (hst : (assignEach es X.env).findIdx? (·.1) = none := by rfl) : DTg X P ixs (.Tuple es k pos) (dUnp n gs) :=
  PG.to (pg_any hc h hn hst) fun v σ H Q _ ⟨F, R, δ, s, W, ⟨F2, cs, S⟩, h, k⟩ => by
    unfold dUnp at h
    split at h
    · rename_i ds e
      obtain ⟨a, xs, rfl, q1, q2⟩ := S.one_look e
      exact ⟨a, xs, rfl, .inr (ex_t S.FH q1), by rw [← Reps.length q2]; exact h.1, F2, R, δ, ds, W, ⟨F2, cs, S.know.bare⟩, q2, h.2, fun σ' H' δ' b S' h' => k σ' H' δ' b (S'.weak S.know_le) h'⟩
    · rename_i ds e
      obtain ⟨a, xs, rfl, q1, q2⟩ := S.one_look e
      exact ⟨a, xs, rfl, .inl (SqL.of q1), by rw [← Reps.length q2]; exact h.1, F2, R, δ, ds, W, ⟨F2, cs, S.know.bare⟩, q2, h.2, fun σ' H' δ' b S' h' => k σ' H' δ' b (S'.weak S.know_le) h'⟩
    · exact h.elim

/-! ### a, b = x, y -/
/-- aliases among results are frozen -/
def settle : List Sl → DS → Option (List Sl × DS)
  | [], δ => some ([], δ)
  | .al k :: ss, δ => match fzR (.al k) δ with
    | some (d, δ1) => match settle ss δ1 with
      | some (r, δ2) => some (.fz d :: r, δ2)
      | none => none
    | none => none
  | s :: ss, δ => match settle ss δ with
    | some (r, δ2) => some (s :: r, δ2)
    | none => none
theorem Sim.settleW {K : PySem.W.Frag} {c : Ctx} {σ : St} {H : Hp} {vs : List V} : ∀ {ss pre : List Sl} {δ δ' : DS} {r : List Sl}, Sim K c σ H δ vs (pre ++ ss) → settle ss δ = some (r, δ') → (∀ s ∈ pre, s.slot) → Sim K c σ H δ' vs (pre ++ r) ∧ (∀ s ∈ pre ++ r, s.slot) ∧ r.length = ss.length
  | [], pre, δ, δ', r, S, h, hp => by cases h; exact ⟨S, by simpa using hp, rfl⟩
  | s :: ss, pre, δ, δ', r, S, h, hp => by
    have keep : ∀ (t : Sl) (δ1 : DS), t.slot → Sim K c σ H δ1 vs (pre ++ t :: ss) → (match settle ss δ1 with | some (r, δ2) => some (t :: r, δ2) | none => none) = some (r, δ') → Sim K c σ H δ' vs (pre ++ r) ∧ (∀ s ∈ pre ++ r, s.slot) ∧ r.length = (s :: ss).length := fun t δ1 ht S1 h1 => by
      split at h1
      · rename_i r2 δ2 e2
        cases h1
        have hp' : ∀ u ∈ pre ++ [t], u.slot := fun u hu => by
          rcases List.mem_append.mp hu with z | z
          · exact hp u z
          · rw [List.mem_singleton.mp z]; exact ht
        obtain ⟨q1, q2, q3⟩ := Sim.settleW (pre := pre ++ [t]) (by simpa using S1) e2 hp'
        exact ⟨by simpa using q1, by simpa using q2, by simp [q3]⟩
      · cases h1
    cases s with
    | al k =>
      unfold settle at h
      split at h
      · rename_i d δ1 ef
        obtain ⟨F, cs, S0⟩ := S
        have e0 : (pre ++ Sl.al k :: ss)[pre.length]? = some (.al k) := by rw [List.getElem?_append_right (Nat.le_refl _)]; simp
        have S2 := S0.fzAt e0 ef
        have e3 : (pre ++ Sl.al k :: ss).set pre.length (.fz d) = pre ++ .fz d :: ss := by
          rw [List.set_append_right _ _ (Nat.le_refl _)]; simp
        rw [e3] at S2
        exact keep (.fz d) δ1 trivial S2 h
      · cases h
    | fz d => exact keep (.fz d) δ trivial S h
    | ml d => exact keep (.ml d) δ trivial S h
    | md d e => exact keep (.md d e) δ trivial S h
    | deal d => exact keep (.deal d) δ trivial S h
def dPar (i j : Nat) (ta : DTA) : DTS := fun E δ => ta δ fun ss δ1 => match settle ss δ1 with
  | some ([a, b], δ2) => force ((δ2.set i (some a)).set j (some b)) E.nx
  | _ => False
theorem dm_par {i j : Nat} {x y : Str} {a b : Expr} {ta : DTA} {px py pt : Pos} {kt k2 pt2} (hc : X.calm = true) (hN : X.N.Nodup) (hi : X.N[i]? = some x) (hj : X.N[j]? = some y) (hij : i ≠ j)
    (hx : X.env.scope.names.lookup x = some .local) (hy : X.env.scope.names.lookup y = some .local) (hpi : free P i = true) (hpj : free P j = true) (ha : DA X [a, b] ta)
    (hw : swappedStores [.Tuple [.Name x px, .Name y py] kt pt] (.Tuple [a, b] k2 pt2) X.env = pure (some [x, y]))
    (hs : swapsWithSole [.Tuple [.Name x px, .Name y py] kt pt] (.Tuple [a, b] k2 pt2) pos.line X.env = pure false := by rfl) :
    DStm X P (.Assign [.Tuple [.Name x px, .Name y py] kt pt] (.Tuple [a, b] k2 pt2) pos) (dPar i j ta) :=
  PS.to (ps_par hc hN hi hj hij hx hy ha hw hs) fun D σ H hl ⟨F, R, δ, E, S, ht, k1, _⟩ => by
    refine ⟨_, δ, _, S, ht, fun vs H' δ1 ss S1 h1 => ?_⟩
    split at h1
    · rename_i a' b' δ2 e
      obtain ⟨S2, hs2, hl2⟩ := Sim.settleW (pre := []) (by simpa using S1) e (by simp)
      have S2 : Sim X.K ⟨F, R, P⟩ σ H' δ2 vs [a', b'] := by simpa using S2
      have hs2 : ∀ s ∈ [a', b'], s.slot := by simpa using hs2
      have hvl : vs.length = 2 := by obtain ⟨_, _, S3⟩ := S2; exact S3.rlen
      match vs, hvl with
      | [v, w], _ =>
        have hil : i < δ2.length := by obtain ⟨_, _, S3⟩ := S2; rw [← S3.len, hl]; exact (List.getElem?_eq_some_iff.mp hi).1
        have hjl : j < (δ2.set i (some a')).length := by obtain ⟨_, _, S3⟩ := S2; rw [List.length_set, ← S3.len, hl]; exact (List.getElem?_eq_some_iff.mp hj).1
        have S4 := S2.set hil (hs2 a' (by simp)) (free_ne hpi) (fun t ht => hs2 t (List.mem_cons_of_mem _ ht))
        have S5 := S4.set hjl (hs2 b' (by simp)) (free_ne hpj) (fun t ht => absurd ht (by simp))
        exact ⟨v, w, rfl, k1 _ _ _ S5 (force_iff.mp h1)⟩
    · exact h1.elim
def dPar3 (i j l : Nat) (ta : DTA) : DTS := fun E δ => ta δ fun ss δ1 => match settle ss δ1 with
  | some ([a, b, c], δ2) => force (((δ2.set i (some a)).set j (some b)).set l (some c)) E.nx
  | _ => False
theorem dm_par3 {i j l : Nat} {x y z : Str} {a b c : Expr} {ta : DTA} {px py pz pt : Pos} {kt k2 pt2} (hc : X.calm = true) (hN : X.N.Nodup) (hi : X.N[i]? = some x) (hj : X.N[j]? = some y) (hk : X.N[l]? = some z) (hij : i ≠ j) (hil : i ≠ l) (hjl : j ≠ l)
    (hx : X.env.scope.names.lookup x = some .local) (hy : X.env.scope.names.lookup y = some .local) (hz : X.env.scope.names.lookup z = some .local) (hpi : free P i = true) (hpj : free P j = true) (hpl : free P l = true) (ha : DA X [a, b, c] ta)
    (hw : swappedStores [.Tuple [.Name x px, .Name y py, .Name z pz] kt pt] (.Tuple [a, b, c] k2 pt2) X.env = pure (some [x, y, z]))
    (hs : swapsWithSole [.Tuple [.Name x px, .Name y py, .Name z pz] kt pt] (.Tuple [a, b, c] k2 pt2) pos.line X.env = pure false := by rfl) :
    DStm X P (.Assign [.Tuple [.Name x px, .Name y py, .Name z pz] kt pt] (.Tuple [a, b, c] k2 pt2) pos) (dPar3 i j l ta) :=
  PS.to (ps_par3 hc hN hi hj hk hij hil hjl hx hy hz ha hw hs) fun D σ H hl ⟨F, R, δ, E, S, ht, k1, _⟩ => by
    refine ⟨_, δ, _, S, ht, fun vs H' δ1 ss S1 h1 => ?_⟩
    split at h1
    · rename_i a' b' c' δ2 e
      obtain ⟨S2, hs2, hl2⟩ := Sim.settleW (pre := []) (by simpa using S1) e (by simp)
      have S2 : Sim X.K ⟨F, R, P⟩ σ H' δ2 vs [a', b', c'] := by simpa using S2
      have hs2 : ∀ s ∈ [a', b', c'], s.slot := by simpa using hs2
      have hvl : vs.length = 3 := by obtain ⟨_, _, S3⟩ := S2; exact S3.rlen
      match vs, hvl with
      | [v, w, u], _ =>
        have h0 : δ2.length = X.N.length := by obtain ⟨_, _, S3⟩ := S2; rw [← S3.len, hl]
        have hil' : i < δ2.length := by rw [h0]; exact (List.getElem?_eq_some_iff.mp hi).1
        have hjl' : j < (δ2.set i (some a')).length := by rw [List.length_set, h0]; exact (List.getElem?_eq_some_iff.mp hj).1
        have hll' : l < ((δ2.set i (some a')).set j (some b')).length := by rw [List.length_set, List.length_set, h0]; exact (List.getElem?_eq_some_iff.mp hk).1
        have S4 := S2.set hil' (hs2 a' (by simp)) (free_ne hpi) (fun t ht => hs2 t (List.mem_cons_of_mem _ ht))
        have S5 := S4.set hjl' (hs2 b' (by simp)) (free_ne hpj) (fun t ht => hs2 t (List.mem_cons_of_mem _ (List.mem_cons_of_mem _ ht)))
        have S6 := S5.set hll' (hs2 c' (by simp)) (free_ne hpl) (fun t ht => absurd ht (by simp))
        exact ⟨v, w, u, rfl, k1 _ _ _ S6 (force_iff.mp h1)⟩
    · exact h1.elim
end
end DL

set_option Elab.async false
set_option linter.all false
set_option maxRecDepth 100000
set_option maxHeartbeats 4000000
/-! DLM: isinstance; calls by keywords; the source of draws. -/
namespace DL
open PySem L2
/-! ### isinstance -/
def tyName : Dv → Option String
  | .non => some "NoneType" | .bl _ => some "bool" | .int _ => some "int" | .str _ => some "str" | .tup _ => some "tuple" | .lst _ => some "list" | .dic _ _ => some "dict"
  | _ => none
/-- of one of the plain types -/
def isA (t T : String) : Bool := t == T || (t == "bool" && T == "int")
def plainTys : List String := ["NoneType", "bool", "int", "str", "tuple", "list", "dict"]
theorem kit_all : ∀ t ∈ plainTys, ∀ T ∈ ["int", "bool", "str", "tuple", "list", "dict"], kitB t T = some (isA t T) := by
  decide +kernel
theorem Look.tyX {K : PySem.W.Frag} {F H : Hp} {d : Dv} {x : V} {t : String} (l : Look K F H d x) (e : Ex F H) (h : tyName d = some t) : TyX K H x (.type t) := by
  cases d with
  | non => cases (show x = _ from l); cases h; exact .base .non
  | bl b => cases (show x = _ from l); cases h; exact .base (.bl _)
  | int b => cases (show x = _ from l); cases h; exact .base (.int _)
  | str b => cases (show x = _ from l); cases h; exact .base (.str _)
  | tup ds =>
    obtain ⟨a, vs, rfl, q1, _⟩ := l
    cases h
    rcases ex_t e q1 with (q | ⟨o, q⟩) | ⟨o, its, n, q, hc, _⟩
    · exact .base (.tup q)
    · exact .fTuple q
    · exact .kTuple q hc
  | lst ds => obtain ⟨a, vs, rfl, q1, _⟩ := l; cases h; exact .base (.lst q1)
  | dic ks ds => obtain ⟨a, vs, rfl, q1, _⟩ := l; cases h; exact .base (.dK q1)
  | _ => cases h
theorem tyName_plain {d : Dv} {t : String} (h : tyName d = some t) : t ∈ plainTys := by
  cases d <;> first | (cases h; decide) | cases h
def isiF : FN := fun ds k => match ds with
  | [d, .ty T] => match tyName d with
    | some t => T ∈ ["int", "bool", "str", "tuple", "list", "dict"] ∧ k (.fz (.bl (isA t T)))
    | none => False
  | _ => False
theorem cd_isi {X : Cx} : CallD X (.builtin "isinstance") isiF := CallR.to call_isi fun xs H Q h => by
  obtain ⟨c, σ, δ, ss, ds, W, F, cs, S, e, hf, k⟩ := h.open
  unfold isiF at hf
  split at hf
  · rename_i d T
    split at hf
    · rename_i t et
      obtain ⟨v, u, rfl, l1, l2⟩ := S.looks2 e
      cases (show u = _ from l2)
      exact ⟨v, .ty T, .type t, .type T, _, rfl, .ty T, l1.tyX S.FH et, kit_ty (kit_all t (tyName_plain et) T hf.1), k _ hf.2 _ _ (S.resFz rfl)⟩
    · exact hf.elim
  · exact hf.elim
/-- the name of a built-in class -/
theorem de_ty {X : Cx} {x : Str} {n : String} {pos : Pos} (hg : Gl X x) (hm : X.mg x = none) (hv : bootBuiltins x = some (.type n)) (hn : x ≠ "__name__" := by decide) (hd : (x == ("__debug__" : Str)) = false := by decide) : DE X (.Name x pos) (dC (.ty n)) :=
  de_c (v := .ty n) (pe_bltn hg hm hv rfl hn hd) fun _ _ => rfl
/-- isinstance(e, (T1, T2)) -/
def dIsi2 (T1 T2 : String) (t : DT) : DT := fun δ Q => t δ fun s δ1 => match view δ1 s with
  | some d => match tyName d with
    | some n => Q (.fz (.bl (isA n T1 || isA n T2))) δ1
    | none => False
  | none => False
section
variable {X : Cx} {e : Expr} {t : DT} {p pos tpos q1 q2 : Pos} {x y : Str} {T1 T2 : String} {kk : Nat}
theorem de_isi2 (hg : Gl X "isinstance") (hm : X.mg "isinstance" = none) (h1 : PE X (.Name x q1) (tC (.ty T1))) (h2 : PE X (.Name y q2) (tC (.ty T2))) (m1 : T1 ∈ ["int", "bool", "str", "tuple", "list", "dict"]) (m2 : T2 ∈ ["int", "bool", "str", "tuple", "list", "dict"]) (he : DE X e t)
    (hs0 : starEach [e, .Tuple [.Name x q1, .Name y q2] kk tpos] X.env = (false, eval e X.env) :: starEach [.Tuple [.Name x q1, .Name y q2] kk tpos] X.env := by rfl)
    (hs1 : starEach [.Tuple [.Name x q1, .Name y q2] kk tpos] X.env = (false, eval (.Tuple [.Name x q1, .Name y q2] kk tpos) X.env) :: starEach [] X.env := by rfl)
    (hs2 : starEach [.Name x q1, .Name y q2] X.env = (false, eval (.Name x q1) X.env) :: starEach [.Name y q2] X.env := by rfl)
    (hs3 : starEach [.Name y q2] X.env = (false, eval (.Name y q2) X.env) :: starEach [] X.env := by rfl)
    (hpl : (backTo pos (starEach [.Tuple [.Name x q1, .Name y q2] kk tpos] X.env)).any (·.1) = false := by rfl) :
    DE X (.Call (.Name "isinstance" p) [e, .Tuple [.Name x q1, .Name y q2] kk tpos] [] pos) (dIsi2 T1 T2 t) :=
  PE.to (pe_callB call_isiT hg hm (by decide +kernel) (pa_cons he (pa_cons (pe_tup (pa_cons h1 (pa_cons h2 pa_nil hs3) hs2)) pa_nil hs1) hs0) (he := hs0) (hpl := hpl)) fun σ H Q _ ⟨c, δ, W, S, ht, k⟩ => by
    refine ⟨c, δ, _, S, ht, fun v H1 δ1 s S1 h1 => ?_⟩
    split at h1
    · rename_i d e
      split at h1
      · rename_i n et
        obtain ⟨F, cs, S2⟩ := S1
        have l := S2.one_look e
        show 2 ≤ sizeLine ∧ _
        refine ⟨by decide, fun tp htp => ?_⟩
        have ty : TyX X.K (upd H1 tp (.tup [.ty T1, .ty T2])) v (.type n) := by
          have l' : Look X.K F (upd H1 tp (.tup [.ty T1, .ty T2])) d v := by
            cases d with
            | lst ds => obtain ⟨a, xs, q1, q2, q3⟩ := l; exact ⟨a, xs, q1, Ex.new htp _ _ q2, q3⟩
            | dic ks ds => obtain ⟨a, xs, q1, q2, q3⟩ := l; exact ⟨a, xs, q1, Ex.new htp _ _ q2, q3⟩
            | _ => exact l
          exact l'.tyX (S2.FH.trans (Ex.new htp)) et
        have S3 : Sim X.K c σ (upd H1 tp (.tup [.ty T1, .ty T2])) δ1 [.bl (isA n T1 || isA n T2)] [.fz (.bl (isA n T1 || isA n T2))] := S2.resN htp rfl
        refine ⟨v, tp, [.ty T1, .ty T2], .type n, [.type T1, .type T2], isA n T1 || isA n T2, rfl, upd_same, .cons (.ty T1) (.cons (.ty T2) .nil), ty, ?_, k _ _ _ _ S3 h1⟩
        refine kitAny_cons (kit_ty (kit_all n (tyName_plain et) T1 m1)) (fun b1 => ?_) (fun b1 => by rw [b1]; rfl)
        refine kitAny_cons (kit_ty (kit_all n (tyName_plain et) T2 m2)) (fun b2 => ?_) (fun b2 => by rw [b2]; simp)
        rw [kitAny_nil, b1, b2]; rfl
      · exact h1.elim
    · exact h1.elim
end

/-! ### calls by keywords -/
def DK (X : Cx) (kws : List Keyword) (t : DTA) : Prop := PK X kws (liftA X.K t)
theorem PK.to {X : Cx} {kws : List Keyword} {t t' : TA} (h : PK X kws t) (k : ∀ σ H Q, t' σ H Q → t σ H Q) : PK X kws t' := ⟨fun p pins s σ H Q I hw => h.run p pins s σ H Q I (k σ H Q hw)⟩
theorem dk_nil {X : Cx} : DK X [] dNil := PK.to pk_nil fun σ H Q ⟨c, δ, W, S, ht, k⟩ => k [] H δ [] S ht
theorem dk_cons {X : Cx} {nm : Option Str} {e : Expr} {kpos : Pos} {kws : List Keyword} {t : DT} {ts : DTA} (h : DE X e t) (hr : DK X kws ts) : DK X (⟨nm, e, kpos⟩ :: kws) (dCons t ts) :=
  PK.to (pk_cons h hr) fun σ H Q ⟨c, δ, W, S, ht, k⟩ => ⟨c, δ, _, S, ht, fun v H1 δ1 s S1 h1 => by
    obtain ⟨c', l, S2, back⟩ := S1.hold
    exact ⟨c', δ1, _, S2, h1, fun vs H2 δ2 ss S3 h2 => k (v :: vs) H2 δ2 (s :: ss) (back S3) h2⟩⟩
/-- the places of the parameters among the written values -/
def permG {α : Type} (d : α) (a b : Nat) (pm : List Nat) (us ws : List α) : List α := if us.length = a ∧ ws.length = b then pm.map fun i => (us ++ ws).getD i d else []
theorem perm_rel {a b : Nat} {pm : List Nat} {vs zs : List V} {us ws : List Value} (r : Vals vs us) (q : Vals zs ws) : Vals (permG .non a b pm vs zs) (permG .none a b pm us ws) := by
  unfold permG
  rw [r.length, q.length]
  split
  · have all : Vals (vs ++ zs) (us ++ ws) := r.append q
    induction pm with
    | nil => exact .nil
    | cons i pm ih =>
      refine .cons ?_ ih
      show RelV ((vs ++ zs).getD i V.non) ((us ++ ws).getD i Value.none)
      rw [List.getD_eq_getElem?_getD, List.getD_eq_getElem?_getD]
      cases e : (vs ++ zs)[i]? with
      | none => rw [all.none_of e]; exact rfl
      | some v =>
        obtain ⟨u, e2, rv⟩ := all.get e
        rw [e2]; exact rv
  · exact .nil
theorem kb_mk {K : PySem.W.Frag} {fd : FuncData} {ps ks : List Str} {a b : Nat} {pm : List Nat} (hn : 0 < ps.length)
    (h : ∀ (s : Shared) (us ws : List Value), us.length = a → ws.length = b → BindsTo s fd ⟨us, ks.zip ws⟩ (ps.zip (pm.map fun i => (us ++ ws).getD i .none))) : KBinds K fd ps ks (permG .none a b pm) (permG .non a b pm) where
  to := fun s us ws _ hl => by
    unfold permG at hl ⊢
    split at hl
    · rename_i q
      rw [if_pos q]
      exact h s us ws q.1 q.2
    · exact absurd hl (by simp; omega)
  rel := fun r q => perm_rel r q
/-- results in another order -/
theorem SimW.perm {K : PySem.W.Frag} {c : Ctx} {σ : St} {H : Hp} {δ : DS} {vs : List V} {ss : List Sl} {F : Hp} {cs : Nat ⊕ Nat → Cn} (S : SimW K c σ H δ vs ss F cs) {pm : List Nat} (nd : pm.Nodup) (hl : ∀ i ∈ pm, i < ss.length) :
    Sim K c σ H δ (pm.map fun i => vs.getD i .non) (pm.map fun i => ss.getD i (.fz .non)) := by
  let cc : Nat ⊕ Nat → Cn := fun x => match x with
    | .inl i => cs (.inl i)
    | .inr j => cs (.inr (pm.getD j 0))
  have get : ∀ (j : Nat) (s : Sl), (pm.map fun i => ss.getD i (.fz .non))[j]? = some s → ∃ i, pm[j]? = some i ∧ ss[i]? = some s := fun j s e => by
    rw [List.getElem?_map] at e
    cases q : pm[j]? with
    | none => rw [q] at e; cases e
    | some i =>
      rw [q] at e
      refine ⟨i, rfl, ?_⟩
      have := hl i (List.mem_of_getElem? q)
      have e' : ss.getD i (.fz .non) = s := Option.some.inj e
      rw [List.getD_eq_getElem?_getD, List.getElem?_eq_getElem this] at e'
      rw [List.getElem?_eq_getElem this]; exact congrArg some e'
  have ccr : ∀ {j i : Nat}, pm[j]? = some i → cc (.inr j) = cs (.inr i) := fun {j i} e => by
    show cs (.inr (pm.getD j 0)) = _
    rw [List.getD_eq_getElem?_getD, e]; rfl
  have old : ∀ x s, getX δ (pm.map fun i => ss.getD i (.fz .non)) x = some s → ∃ y, getX δ ss y = some s ∧ cc x = cs y ∧ ((∃ i, x = .inl i ∧ y = .inl i) ∨ ∃ j i, x = .inr j ∧ y = .inr i ∧ pm[j]? = some i) := fun x s e => by
    cases x with
    | inl i => exact ⟨.inl i, getX_inl.mpr (getX_inl.mp e), rfl, .inl ⟨i, rfl, rfl⟩⟩
    | inr j =>
      obtain ⟨i, e1, e2⟩ := get j s e
      exact ⟨.inr i, e2, ccr e1, .inr ⟨j, i, rfl, rfl, e1⟩⟩
  refine ⟨F, cc, ⟨S.fF, S.FH, S.RH, S.FR, S.len, by simp, S.pin, S.noal, fun x s e => ?_, fun x y s t ne e1 e2 => ?_⟩⟩
  · obtain ⟨y, e', ec, hx⟩ := old x s e
    obtain ⟨h1, h2, h3⟩ := S.here y s e'
    rw [ec]
    refine ⟨?_, h2, h3⟩
    rcases hx with ⟨i, rfl, rfl⟩ | ⟨j, i, rfl, rfl, e1⟩
    · exact valX_inl.mpr (valX_inl.mp h1)
    · show (pm.map fun i => vs.getD i .non)[j]? = _
      rw [List.getElem?_map, e1]
      have h1' : vs[i]? = some (cs (.inr i)).val := h1
      show some (vs.getD i .non) = _
      rw [List.getD_eq_getElem?_getD, h1']; rfl
  · obtain ⟨x', q1, c1, hx⟩ := old x s e1
    obtain ⟨y', q2, c2, hy⟩ := old y t e2
    rw [c1, c2]
    refine S.apart x' y' s t (fun z => ne ?_) q1 q2
    subst z
    rcases hx with ⟨i, rfl, hx⟩ | ⟨j, i, rfl, hx, e3⟩ <;> rcases hy with ⟨i', rfl, hy⟩ | ⟨j', i', rfl, hy, e4⟩ <;> rw [hx] at hy <;> cases hy
    · rfl
    · have := (List.getElem?_inj (List.getElem?_eq_some_iff.mp e3).1 nd).mp (e3.trans e4.symm)
      rw [this]
def dCallK (a b : Nat) (pm : List Nat) (f : FS) (ta tk : DTA) : DT := fun δ Q => ta δ fun ss δ1 => tk δ1 fun zs δ2 => match (pm.map fun i => (ss ++ zs).getD i (.fz .non)).mapM (view δ2) with
  | some ds => (ss.length = a ∧ zs.length = b ∧ ∀ i ∈ pm, i < a + b) ∧ f (ds.map Sl.fz) fun r _ => ((pm.map fun i => (ss ++ zs).getD i (.fz .non)).all Sl.flat || nolstS r) = true ∧ Q r δ2
  | none => False
section
variable {X : Cx} {k n a b : Nat} {f : Addr} {fd : FuncData} {ps ks : List Str} {sp : FS} {x : Str} {p pos : Pos} {e : Expr} {es : List Expr} {kws : List Keyword} {ta tk : DTA} {E : XK} {pm : List Nat}
theorem callK_sem {K : PySem.W.Frag} {σ : St} {H : Hp} {Q : VK} (mono : FMono sp) (hn : ∀ δ W, sp δ W → δ.length = n) (nd : pm.Nodup)
    (h : liftE K (dCallK a b pm sp ta tk) σ H Q) : tCallK (spOf K 0 n sp) (permG .non a b pm) E (liftA K ta) (liftA K tk) σ H Q := by
  obtain ⟨c, δ, W, S, ht, kk⟩ := h
  refine ⟨c, δ, _, S, ht, fun vs H1 δ1 ss S1 hw => ?_⟩
  obtain ⟨c', l, S2, back⟩ := S1.hold
  refine ⟨c', δ1, _, S2, hw, fun zs H2 δ2 us S3 hw => ?_⟩
  split at hw
  · rename_i ds hv
    obtain ⟨⟨hla, hlb, hpm⟩, hw⟩ := hw
    obtain ⟨F, cs, S4⟩ := back S3
    have lvs : vs.length = a := by obtain ⟨_, _, q⟩ := S1; rw [q.rlen, hla]
    have lzs : zs.length = b := by obtain ⟨_, _, q⟩ := S3; rw [q.rlen, hlb]
    obtain ⟨F5, cs5, S5⟩ := S4.perm nd (fun i hi => by have := hpm i hi; rw [List.length_append, hla, hlb]; exact this)
    have hl : ds.length = n := by have := hn _ _ hw; simpa using this
    have := call_core (K := K) (f := sp) (Q := Q) (E := E) none (v0 := []) (s0 := []) S5 rfl (fun k u q => nomatch q) hv (mono _ _ _ (fun r outs ⟨h1, h2⟩ hol => by
      have ho : outs = [] := List.length_eq_zero_iff.mp hol
      subst ho
      exact ⟨by simpa using h1, fun z H'' S'' => kk z H'' δ2 r S'' h2⟩) hw)
    have e : permG V.non a b pm vs zs = pm.map fun i => (vs ++ zs).getD i .non := if_pos ⟨lvs, lzs⟩
    rw [e, ← hl]
    simpa using this
  · exact hw.elim
theorem pe_callK0 {CX : CXT} {sp : Sp} {tk : TA} {g : List Value → List Value → List Value} {gV : List V → List V → List V} (F : FnOk X.prog X.w X.K X.mg X.base CX k f fd ps sp) (hr : Room k X.A) (hg : Gl X x) (hm : X.mg x = some (.ref f)) (hk : PySem.W.keepIn X.K (.ref f) = true) (hb : KBinds X.K fd ps ks g gV) (hx : Passes CX X E)
    (hkw : PK X kws tk) (hall : (backToKw pos (keywordEach kws X.env)).all (·.1.isSome) = true := by rfl) (hks : (backToKw pos (keywordEach kws X.env)).filterMap (·.1) = ks := by rfl)
    (hdb : (x == ("__debug__" : Str)) = false := by decide)
    (hpl : ((backTo pos (starEach [] X.env)).any (·.1) || (backToKw pos (keywordEach kws X.env)).any (·.1.isNone)) = false := by rfl) :
    PE X (.Call (.Name x p) [] kws pos) (tCallK sp gV E tNil tk) := by
  refine ⟨fun pins s σ H Q I h => ?_⟩
  refine wpAny_Call_Name_kw (ld_glob I hg hm ?_ hdb)
  refine PySem.W.callWith_KW0 (h₀ := X.base) I.ok.mod.kin hk hall ?_ hpl
  refine thn (hkw.run pos pins s σ H _ I h) fun ws s2 ⟨zs, H2, I2, rz, q2⟩ => ⟨I2.kIn, ?_⟩
  rw [hks]
  exact run_fnk (us := []) F hr hb hx I2 .nil rz q2
end
section
variable {X : Cx} {k n a b : Nat} {f : Addr} {fd : FuncData} {ps ks : List Str} {sp : FS} {x : Str} {p pos : Pos} {e : Expr} {es : List Expr} {kws : List Keyword} {ta tk : DTA} {pm : List Nat}
/-- f(e, .., k = v, ..) -/
theorem de_callK (F : FnOk X.prog X.w X.K X.mg X.base CX0 k f fd ps (spOf X.K 0 n sp)) (mono : FMono sp) (hn : ∀ δ W, sp δ W → δ.length = n) (hr : Room k X.A) (hg : Gl X x) (hm : X.mg x = some (.ref f)) (hk : PySem.W.keepIn X.K (.ref f) = true) (hb : KBinds X.K fd ps ks (permG .none a b pm) (permG .non a b pm)) (nd : pm.Nodup)
    (ha : DA X (e :: es) ta) (hkw : DK X kws tk) (hall : (backToKw pos (keywordEach kws X.env)).all (·.1.isSome) = true := by rfl) (hks : (backToKw pos (keywordEach kws X.env)).filterMap (·.1) = ks := by rfl)
    (hdb : (x == ("__debug__" : Str)) = false := by decide) (he : starEach (e :: es) X.env = (false, eval e X.env) :: starEach es X.env := by rfl)
    (hpl : ((backTo pos (starEach (e :: es) X.env)).any (·.1) || (backToKw pos (keywordEach kws X.env)).any (·.1.isNone)) = false := by rfl) :
    DE X (.Call (.Name x p) (e :: es) kws pos) (dCallK a b pm sp ta tk) :=
  PE.to (pe_callK F hr hg hm hk hb pass0 ha hkw hall hks hdb he hpl) fun σ H Q _ h => callK_sem mono hn nd h
/-- f(k = v, ..) -/
theorem de_callK0 (F : FnOk X.prog X.w X.K X.mg X.base CX0 k f fd ps (spOf X.K 0 n sp)) (mono : FMono sp) (hn : ∀ δ W, sp δ W → δ.length = n) (hr : Room k X.A) (hg : Gl X x) (hm : X.mg x = some (.ref f)) (hk : PySem.W.keepIn X.K (.ref f) = true) (hb : KBinds X.K fd ps ks (permG .none a b pm) (permG .non a b pm)) (nd : pm.Nodup)
    (hkw : DK X kws tk) (hall : (backToKw pos (keywordEach kws X.env)).all (·.1.isSome) = true := by rfl) (hks : (backToKw pos (keywordEach kws X.env)).filterMap (·.1) = ks := by rfl)
    (hdb : (x == ("__debug__" : Str)) = false := by decide)
    (hpl : ((backTo pos (starEach [] X.env)).any (·.1) || (backToKw pos (keywordEach kws X.env)).any (·.1.isNone)) = false := by rfl) :
    DE X (.Call (.Name x p) [] kws pos) (dCallK a b pm sp dNil tk) :=
  PE.to (pe_callK0 F hr hg hm hk hb pass0 hkw hall hks hdb hpl) fun σ H Q _ h => by
    obtain ⟨c, δ, W, S, ht, kk⟩ := callK_sem (E := E0) (ta := dNil) mono hn nd h
    exact kk [] H δ [] S ht
end

/-! ### what defs promise -/
def spN {α : Type} (enc : α → List Sl) (Pre : α → Prop) (Post : α → Sl → List Sl → Prop) : FS := fun δ W => ∃ a, δ = enc a ∧ Pre a ∧ ∀ r outs, Post a r outs → W r outs
theorem spN_mono {α : Type} {enc : α → List Sl} {Pre : α → Prop} {Post : α → Sl → List Sl → Prop} : FMono (spN enc Pre Post) := fun δ W W' h ⟨a, e, p, k⟩ => ⟨a, e, p, fun r outs q => h r outs (k r outs q)⟩
theorem spN_len {α : Type} {enc : α → List Sl} {Pre : α → Prop} {Post : α → Sl → List Sl → Prop} {n : Nat} (hn : ∀ a, (enc a).length = n) : ∀ δ W, spN enc Pre Post δ W → δ.length = n := fun δ W ⟨a, e, _, _⟩ => by rw [e, hn]
end DL

set_option Elab.async false
set_option linter.all false
set_option maxRecDepth 100000
set_option maxHeartbeats 4000000
/-! DLN: and, or, not as values; calls by what stands; the source of draws. -/
namespace DL
open PySem L2
/-! ### and, or, not as values -/
def dAndV (t u : DT) : DT := fun δ Q => t δ fun s δ1 => match view δ1 s with
  | some d => match truD d with
    | some b => if b = true then u δ1 Q else Q s δ1
    | none => False
  | none => False
def dOrV (t u : DT) : DT := fun δ Q => t δ fun s δ1 => match view δ1 s with
  | some d => match truD d with
    | some b => if b = true then Q s δ1 else u δ1 Q
    | none => False
  | none => False
def dNotV (t : DT) : DT := fun δ Q => t δ fun s δ1 => match view δ1 s with
  | some d => match truD d with
    | some b => Q (.fz (.bl (!b))) δ1
    | none => False
  | none => False
section
variable {X : Cx} {a b : Expr} {rest : List Expr} {t u : DT} {pos : Pos} {op : BoolOp}
theorem de_one (h : DE X a t) : DE X (.BoolOp op [a] pos) t := pe_one h
theorem de_and (ha : DE X a t) (hb : DE X (.BoolOp .And (b :: rest) pos) u) : DE X (.BoolOp .And (a :: b :: rest) pos) (dAndV t u) :=
  PE.to (pe_andT ha hb) fun σ H Q _ ⟨c, δ, W, S, ht, k⟩ => by
    refine ⟨c, δ, _, S, ht, fun v H' δ1 s S1 hw => ?_⟩
    split at hw
    · rename_i d e
      split at hw
      · rename_i b e2
        obtain ⟨F, cs, S2⟩ := S1
        refine ⟨b, (S2.one_look e).tru S2.FH e2, ?_⟩
        cases b with
        | true => exact ⟨c, δ1, W, ⟨F, cs, S2.bare⟩, hw, k⟩
        | false => exact k v H' δ1 s ⟨F, cs, S2⟩ hw
      · exact hw.elim
    · exact hw.elim
theorem de_or (ha : DE X a t) (hb : DE X (.BoolOp .Or (b :: rest) pos) u) : DE X (.BoolOp .Or (a :: b :: rest) pos) (dOrV t u) :=
  PE.to (pe_orT ha hb) fun σ H Q _ ⟨c, δ, W, S, ht, k⟩ => by
    refine ⟨c, δ, _, S, ht, fun v H' δ1 s S1 hw => ?_⟩
    split at hw
    · rename_i d e
      split at hw
      · rename_i b e2
        obtain ⟨F, cs, S2⟩ := S1
        refine ⟨b, (S2.one_look e).tru S2.FH e2, ?_⟩
        cases b with
        | false => exact ⟨c, δ1, W, ⟨F, cs, S2.bare⟩, hw, k⟩
        | true => exact k v H' δ1 s ⟨F, cs, S2⟩ hw
      · exact hw.elim
    · exact hw.elim
theorem de_not (ha : DE X a t) : DE X (.UnaryOp .Not a pos) (dNotV t) :=
  PE.to (pe_notT ha) fun σ H Q _ ⟨c, δ, W, S, ht, k⟩ => by
    refine ⟨c, δ, _, S, ht, fun v H' δ1 s S1 hw => ?_⟩
    split at hw
    · rename_i d e
      split at hw
      · rename_i b e2
        obtain ⟨F, cs, S2⟩ := S1
        exact ⟨b, (S2.one_look e).tru S2.FH e2, k _ _ _ _ (S2.resFz (d := .bl (!b)) rfl) hw⟩
      · exact hw.elim
    · exact hw.elim
end

/-! ### the defs that stand -/
structure Stands (K : PySem.W.Frag) (mg : Str → Option Value) (x : Str) (st : Stmt) (f : Addr) (fd : FuncData) : Prop where
  fn : Fun K x x st f fd
  mg : mg x = some (.ref f)
/-- the def at x keeps its promise -/
structure Has (P : Program) (w : World) (K : PySem.W.Frag) (mg : Str → Option Value) (base : Heap) (k : Nat) (x : Str) (st : Stmt) (ps : List Str) (m n : Nat) (sp : FS) (f : Addr) (fd : FuncData) : Prop where
  ok : FnOk P w K mg base CX0 k f fd ps (spOf K m n sp)
  fn : Fun K x x st f fd
  mg : mg x = some (.ref f)
  b : Binds K fd ps []
section
variable {X : Cx} {k j m n : Nat} {f : Addr} {fd : FuncData} {st : Stmt} {ps : List Str} {sp : FS} {x : Str} {p pos : Pos} {e : Expr} {es : List Expr} {ta tk : DTA} {kws : List Keyword} {ks : List Str} {a b : Nat} {pm : List Nat}
theorem de_callH (h : Has X.prog X.w X.K X.mg X.base k x st ps 0 n sp f fd) (mono : FMono sp) (hn : ∀ δ W, sp δ W → δ.length = n) (hr : Room k X.A) (hg : Gl X x)
    (ha : DA X (e :: es) ta) (hdb : (x == ("__debug__" : Str)) = false := by decide) (he : starEach (e :: es) X.env = (false, eval e X.env) :: starEach es X.env := by rfl) (hpl : (backTo pos (starEach es X.env)).any (·.1) = false := by rfl) :
    DE X (.Call (.Name x p) (e :: es) [] pos) (dCall sp ta) := de_call h.ok mono hn hr hg h.mg h.fn.kp h.b ha hdb he hpl
theorem de_callMH (h : Has X.prog X.w X.K X.mg X.base k x st ps 1 n sp f fd) (mono : FMono sp) (hn : ∀ δ W, sp δ W → δ.length = n) (hr : Room k X.A) (hg : Gl X x)
    (ha : DA X (e :: es) ta) (hdb : (x == ("__debug__" : Str)) = false := by decide) (he : starEach (e :: es) X.env = (false, eval e X.env) :: starEach es X.env := by rfl) (hpl : (backTo pos (starEach es X.env)).any (·.1) = false := by rfl) :
    DE X (.Call (.Name x p) (e :: es) [] pos) (dCallM sp ta) := de_callM h.ok mono hn hr hg h.mg h.fn.kp h.b ha hdb he hpl
theorem de_callKH (h : Has X.prog X.w X.K X.mg X.base k x st ps 0 n sp f fd) (mono : FMono sp) (hn : ∀ δ W, sp δ W → δ.length = n) (hr : Room k X.A) (hg : Gl X x) (hb : KBinds X.K fd ps ks (permG .none a b pm) (permG .non a b pm)) (nd : pm.Nodup)
    (ha : DA X (e :: es) ta) (hkw : DK X kws tk) (hall : (backToKw pos (keywordEach kws X.env)).all (·.1.isSome) = true := by rfl) (hks : (backToKw pos (keywordEach kws X.env)).filterMap (·.1) = ks := by rfl)
    (hdb : (x == ("__debug__" : Str)) = false := by decide) (he : starEach (e :: es) X.env = (false, eval e X.env) :: starEach es X.env := by rfl)
    (hpl : ((backTo pos (starEach (e :: es) X.env)).any (·.1) || (backToKw pos (keywordEach kws X.env)).any (·.1.isNone)) = false := by rfl) :
    DE X (.Call (.Name x p) (e :: es) kws pos) (dCallK a b pm sp ta tk) := de_callK h.ok mono hn hr hg h.mg h.fn.kp hb nd ha hkw hall hks hdb he hpl
theorem de_callK0H (h : Has X.prog X.w X.K X.mg X.base k x st ps 0 n sp f fd) (mono : FMono sp) (hn : ∀ δ W, sp δ W → δ.length = n) (hr : Room k X.A) (hg : Gl X x) (hb : KBinds X.K fd ps ks (permG .none a b pm) (permG .non a b pm)) (nd : pm.Nodup)
    (hkw : DK X kws tk) (hall : (backToKw pos (keywordEach kws X.env)).all (·.1.isSome) = true := by rfl) (hks : (backToKw pos (keywordEach kws X.env)).filterMap (·.1) = ks := by rfl)
    (hdb : (x == ("__debug__" : Str)) = false := by decide)
    (hpl : ((backTo pos (starEach [] X.env)).any (·.1) || (backToKw pos (keywordEach kws X.env)).any (·.1.isNone)) = false := by rfl) :
    DE X (.Call (.Name x p) [] kws pos) (dCallK a b pm sp dNil tk) := de_callK0 h.ok mono hn hr hg h.mg h.fn.kp hb nd hkw hall hks hdb hpl
end
theorem Fun.kbinds {K : PySem.W.Frag} {x qual : Str} {st : Stmt} {f : Addr} {fd : FuncData} {ps ks : List Str} {a b : Nat} {pm : List Nat} (F : Fun K x qual st f fd) (hn : 0 < ps.length)
    (h : ∀ (kV doc pmv : Value) (an : Option Addr) (cdv ct : Value) (us ws : List Value), us.length = a → ws.length = b → bindArgs (PySem.W.fnOf x qual (defArgs st) (defBody st) (defScope st) .none kV doc pmv an cdv ct) ⟨us, ks.zip ws⟩ = pure (ps.zip (pm.map fun i => (us ++ ws).getD i .none))) :
    KBinds K fd ps ks (permG .none a b pm) (permG .non a b pm) := by
  obtain ⟨oc, od, kV, doc, pmv, an, cdv, ct, osl, rfl, lk, hcd⟩ := F.ex
  exact kb_mk hn fun s us ws h1 h2 => .of_eq (h kV doc pmv an cdv ct us ws h1 h2)

/-! ### the source of draws, its own two cells changed -/
theorem SimW.deal {K : PySem.W.Frag} {c : Ctx} {σ : St} {H H' : Hp} {δ : DS} {vs : List V} {ss : List Sl} {F : Hp} {cs : Nat ⊕ Nat → Cn} (S : SimW K c σ H δ vs ss F cs) {k : Nat} {p q : Addr} {d0 d : Deal} (e : δ[k]? = some (some (.deal d0))) (hc : cs (.inl k) = .d2 p q)
    (hs : ∀ a, a ≠ p → a ≠ q → ∀ o, H a = some o → H' a = some o) (h1 : H' p = some (.lst [.ref q, .int d.b])) (h2 : H' q = some (.lst (d.cs.map V.int))) : SimW K c σ H' (δ.set k (some (.deal d))) vs ss F cs := by
  obtain ⟨k1, k2, k3⟩ := S.at e
  rw [hc] at k2 k3 k1
  have hpq : p ≠ q := k2.1
  have fp := k3 p (by simp [Cn.feet])
  have fq := k3 q (by simp [Cn.feet])
  have hk : k < δ.length := (List.getElem?_eq_some_iff.mp e).1
  have keep : ∀ (G : Hp), (∀ a o, G a = some o → H a = some o) → G p = none → G q = none → Ex G H' := fun G hG g1 g2 a o h => by
    refine hs a (fun z => ?_) (fun z => ?_) o (hG a o h)
    · subst z; rw [g1] at h; cases h
    · subst z; rw [g2] at h; cases h
  have get : ∀ i u, (δ.set k (some (.deal d)))[i]? = some (some u) → (i = k ∧ u = .deal d) ∨ (i ≠ k ∧ δ[i]? = some (some u)) := fun i u q => by
    by_cases hi : k = i
    · subst hi
      rw [List.getElem?_set_self hk] at q
      exact .inl ⟨rfl, by cases q; rfl⟩
    · rw [List.getElem?_set_ne hi] at q
      exact .inr ⟨fun z => hi z.symm, q⟩
  have getx : ∀ x u, getX (δ.set k (some (.deal d))) ss x = some u → (x = .inl k ∧ u = .deal d) ∨ (x ≠ .inl k ∧ getX δ ss x = some u) := fun x u q => by
    cases x with
    | inl i =>
      rcases get i u (getX_inl.mp q) with ⟨rfl, rfl⟩ | ⟨ne, q'⟩
      · exact .inl ⟨rfl, rfl⟩
      · exact .inr ⟨fun z => ne (Sum.inl.inj z), getX_inl.mpr q'⟩
    | inr j => exact .inr ⟨(fun z => nomatch z), q⟩
  refine ⟨S.fF, keep F S.FH fp.1 fq.1, keep c.R S.RH fp.2 fq.2, S.FR, by rw [List.length_set]; exact S.len, S.rlen, S.pin, fun i u q => ?_, fun x s ex => ?_, fun x y u w ne e1 e2 => ?_⟩
  · rcases get i u q with ⟨rfl, rfl⟩ | ⟨_, q'⟩
    · trivial
    · exact S.noal i u q'
  · rcases getx x s ex with ⟨rfl, rfl⟩ | ⟨hx, ex'⟩
    · rw [hc]
      exact ⟨valX_inl.mpr k1, ⟨hpq, h1, h2⟩, k3⟩
    · obtain ⟨j1, j2, j3⟩ := S.here x s ex'
      refine ⟨j1, ?_, j3⟩
      have off : ∀ a ∈ (cs x).feet, a ≠ p ∧ a ≠ q := fun a ha => by
        have := S.apart x (.inl k) s _ hx ex' (getX_inl.mpr e) a ha
        rw [hc] at this
        simpa [Cn.feet] using this
      refine j2.stay (Ex.refl _) fun a ha => ?_
      obtain ⟨o, ho⟩ := j2.foot a ha
      rw [ho]; exact hs a (off a ha).1 (off a ha).2 o ho
  · rcases getx x u e1 with ⟨rfl, rfl⟩ | ⟨n1, q1⟩
    · rcases getx y w e2 with ⟨rfl, rfl⟩ | ⟨n2, q2⟩
      · exact absurd rfl ne
      · exact S.apart _ _ _ w ne (getX_inl.mpr e) q2
    · rcases getx y w e2 with ⟨rfl, rfl⟩ | ⟨n2, q2⟩
      · exact S.apart _ _ u _ ne q1 (getX_inl.mpr e)
      · exact S.apart _ _ u w ne q1 q2
theorem SimW.dealAt {K : PySem.W.Frag} {c : Ctx} {σ : St} {H : Hp} {δ : DS} {vs : List V} {ss : List Sl} {F : Hp} {cs : Nat ⊕ Nat → Cn} (S : SimW K c σ H δ vs ss F cs) {k : Nat} {d : Deal} (e : δ[k]? = some (some (.deal d))) :
    ∃ p q, cs (.inl k) = .d2 p q ∧ σ[k]? = some (some (.ref p)) ∧ p ≠ q ∧ H p = some (.lst [.ref q, .int d.b]) ∧ H q = some (.lst (d.cs.map V.int)) := by
  obtain ⟨h1, h2, _⟩ := S.at e
  generalize cs (Sum.inl k) = n at h1 h2
  cases n with
  | d2 p q =>
    obtain ⟨ne, q1, q2⟩ := h2
    exact ⟨p, q, rfl, h1, ne, q1, q2⟩
  | _ => exact h2.elim

/-! ### a draw -/
/-- the cells without zeros at the end -/
def dropZ (cs : List Int) : List Int := (cs.reverse.dropWhile (· == 0)).reverse
theorem dropZ_mem {cs : List Int} {c : Int} (h : c ∈ dropZ cs) : c ∈ cs := by
  unfold dropZ at h
  rw [List.mem_reverse] at h
  exact List.mem_reverse.mp (List.dropWhile_subset _ h)
theorem dropZ_len (cs : List Int) : (dropZ cs).length ≤ cs.length := by
  unfold dropZ
  rw [List.length_reverse]
  have := (List.dropWhile_sublist (l := cs.reverse) (· == 0)).length_le
  rwa [List.length_reverse] at this
theorem dropZ_nil : dropZ [] = [] := rfl
theorem dropZ_snoc (cs : List Int) (c : Int) : dropZ (cs ++ [c]) = if c = 0 then dropZ cs else cs ++ [c] := by
  unfold dropZ
  rw [List.reverse_append]
  show (List.dropWhile _ (c :: cs.reverse)).reverse = _
  rw [List.dropWhile_cons]
  by_cases h : c = 0
  · subst h; simp
  · simp [h]
theorem anyOk1 {cs : List Int} {b bound : Int} (h : DealOk cs b) (hb : 0 < bound) {l : Int} {r : List Int} (e : dropZ cs = r ++ [l]) : DealOk (r ++ [l / bound]) b := by
  have hm : ∀ c ∈ r ++ [l], c ∈ cs := fun c hc => dropZ_mem (e ▸ hc)
  refine ⟨fun c hc => ?_, ?_, h.2.2⟩
  · rcases List.mem_append.mp hc with q | q
    · exact h.1 c (hm c (List.mem_append_left _ q))
    · rw [List.mem_singleton.mp q]
      exact Int.ediv_nonneg (h.1 l (hm l (by simp))) (by omega)
  · have := dropZ_len cs
    rw [e] at this
    have := h.2.1
    simp at *; omega
theorem anyOk2 (b : Int) : DealOk [] ((b * 40693 + 71) % 2147483647) := ⟨fun _ h => (nomatch h), Nat.zero_le _, Int.emod_nonneg _ (by decide), Int.emod_lt_of_pos _ (by decide)⟩
/-- a number below a bound, and the source behind it -/
def anyR (d : Deal) (bound : Int) (hb : 0 < bound) : Int × Deal :=
  match e : (dropZ d.cs).getLast? with
  | some l => (l % bound, ⟨(dropZ d.cs).dropLast ++ [l / bound], d.b, anyOk1 d.ok hb (by
      obtain ⟨ys, hy⟩ := List.getLast?_eq_some_iff.mp e
      rw [hy, List.dropLast_concat])⟩)
  | none => (((d.b * 40693 + 71) % 2147483647 / 64) % bound, ⟨[], (d.b * 40693 + 71) % 2147483647, anyOk2 d.b⟩)
theorem anyR_some {d : Deal} {bound : Int} {hb : 0 < bound} {r : List Int} {l : Int} (e : dropZ d.cs = r ++ [l]) : (anyR d bound hb).1 = l % bound ∧ (anyR d bound hb).2.cs = r ++ [l / bound] ∧ (anyR d bound hb).2.b = d.b := by
  unfold anyR
  split
  · rename_i l' h
    rw [e, List.getLast?_append] at h
    have : l' = l := by simpa using h.symm
    subst this
    refine ⟨rfl, ?_, rfl⟩
    show (dropZ d.cs).dropLast ++ [l' / bound] = _
    rw [e, List.dropLast_concat]
  · rename_i h
    rw [e, List.getLast?_append] at h
    simp at h
theorem anyR_none {d : Deal} {bound : Int} {hb : 0 < bound} (e : dropZ d.cs = []) : (anyR d bound hb).1 = ((d.b * 40693 + 71) % 2147483647 / 64) % bound ∧ (anyR d bound hb).2.cs = [] ∧ (anyR d bound hb).2.b = (d.b * 40693 + 71) % 2147483647 := by
  unfold anyR
  split
  · rename_i l' h
    rw [e] at h; cases h
  · exact ⟨rfl, rfl, rfl⟩
theorem anyR_bnd (d : Deal) {bound : Int} (hb : 0 < bound) : 0 ≤ (anyR d bound hb).1 ∧ (anyR d bound hb).1 < bound := by
  unfold anyR
  split <;> exact ⟨Int.emod_nonneg _ (by omega), Int.emod_lt_of_pos _ hb⟩
/-- a draw, where the bound is one -/
def oAny (d : Deal) (bound : Int) : Option (Int × Deal) := if h : 0 < bound ∧ bound < 1000000000 then some (anyR d bound h.1) else none
theorem oAny_some {d : Deal} {bound : Int} {r : Int × Deal} (h : oAny d bound = some r) : ∃ hb : 0 < bound, bound < 1000000000 ∧ r = anyR d bound hb := by
  unfold oAny at h
  split at h
  · rename_i hb; exact ⟨hb.1, hb.2, (Option.some.inj h).symm⟩
  · cases h
theorem oAny_ok (d : Deal) {bound : Int} (h0 : 0 < bound) (h1 : bound < 1000000000) : ∃ v d', oAny d bound = some (v, d') ∧ 0 ≤ v ∧ v < bound :=
  ⟨_, _, dif_pos ⟨h0, h1⟩, anyR_bnd d h0⟩
@[irreducible] def S_law_any : FS := fun δ W => ∃ (d : Deal) (b v : Int) (d' : Deal), δ = [.deal d, .fz (.int b)] ∧ oAny d b = some (v, d') ∧ W (.fz (.int v)) [.deal d']
theorem mono_law_any : FMono S_law_any := by unfold S_law_any; exact fun δ W W' h ⟨d, b, v, d', e1, e2, k⟩ => ⟨d, b, v, d', e1, e2, h _ _ k⟩
theorem len_law_any : ∀ δ W, S_law_any δ W → δ.length = 2 := by unfold S_law_any; exact fun δ W ⟨d, b, v, d', e1, e2, k⟩ => by rw [e1]; rfl

/-- [x[..], y]: the source is made of a list of ints and an int -/
def dDeal (ta tb : DT) : DT := fun δ Q => ta δ fun s δ1 => tb δ1 fun u δ2 => match s, view δ2 u with
  | .ml ds, some (.int b) => ∃ d : Deal, ds = d.cs.map Dv.int ∧ d.b = b ∧ Q (.deal d) δ2
  | _, _ => False
theorem de_deal {X : Cx} {a b : Expr} {pos : Pos} {ta tb : DT} (ha : DE X a ta) (hb : DE X b tb) (h1 : starEach [a, b] X.env = (false, eval a X.env) :: starEach [b] X.env := by rfl) (h2 : starEach [b] X.env = (false, eval b X.env) :: starEach [] X.env := by rfl) : DE X (.List [a, b] pos) (dDeal ta tb) :=
  PE.to (pe_lst (pa_cons ha (pa_cons hb pa_nil h2) h1)) fun σ H Q _ ⟨c, δ, W, S, ht, k⟩ => by
    refine ⟨c, δ, _, S, ht, fun v H1 δ1 s S1 h1 => ?_⟩
    obtain ⟨c', l, S2, back⟩ := S1.hold
    refine ⟨c', δ1, _, S2, h1, fun u H2 δ2 s2 S3 h2 => ?_⟩
    show 2 ≤ sizeLine ∧ _
    refine ⟨by decide, fun p hp => ?_⟩
    split at h2
    · rename_i ds b2 eb
      obtain ⟨dd, rfl, rfl, hw⟩ := h2
      obtain ⟨F, cs, S4⟩ := back S3
      have S4 : SimW X.K c σ H2 δ2 [v, u] [.ml (dd.cs.map Dv.int), s2] F cs := S4
      obtain ⟨r1, r2, r3⟩ := S4.here (.inr 0) _ rfl
      obtain ⟨w, ew, lw⟩ := S4.look (j := 1) rfl eb
      cases ew
      have hu : u = .int dd.b := lw
      subst hu
      have ap := fun (i : Nat) (t : Sl) (et : δ2[i]? = some (some t)) => S4.apart (.inl i) (.inr 0) t _ (by intro z; cases z) (getX_inl.mpr et) rfl
      generalize cs (Sum.inr 0) = n at r1 r2 r3 ap
      cases n with
      | l q =>
        have hv : v = .ref q := by injection r1
        subst hv
        obtain ⟨xs, hx, rx⟩ := r2
        have := (Reps.ints dd.cs).mp rx
        subst this
        have hpq : p ≠ q := fun z => by subst z; rw [hp] at hx; cases hx
        have fq := r3 q (by simp [Cn.feet])
        refine k _ _ _ _ ?_ hw
        let cc : Nat ⊕ Nat → Cn := fun x => match x with
          | .inl i => cs (.inl i)
          | .inr _ => .d2 p q
        refine ⟨F, cc, ⟨S4.fF, S4.FH.trans (Ex.new hp), S4.RH.trans (Ex.new hp), S4.FR, S4.len, rfl, S4.pin, S4.noal, fun x t e => ?_, fun x y t z ne e1 e2 => ?_⟩⟩
        · rcases getX_one e with ⟨i, rfl, e'⟩ | ⟨rfl, rfl⟩
          · obtain ⟨j1, j2, j3⟩ := S4.at e'
            refine ⟨valX_inl.mpr j1, j2.stay (Ex.refl _) fun a ha => upd_ne fun z => ?_, j3⟩
            subst z
            obtain ⟨o, ho⟩ := j2.foot a ha
            rw [hp] at ho; cases ho
          · refine ⟨rfl, ⟨hpq, upd_same, by rw [upd_ne (Ne.symm hpq)]; exact hx⟩, fun a ha => ?_⟩
            have : a = p ∨ a = q := by simpa using (show a ∈ [p, q] from ha)
            rcases this with rfl | rfl
            · exact ⟨S4.FH.free hp, S4.RH.free hp⟩
            · exact fq
        · have off : ∀ (i : Nat) (t : Sl), δ2[i]? = some (some t) → ∀ a ∈ (cs (.inl i)).feet, a ∉ (Cn.d2 p q).feet := fun i t et a ha hb => by
            have : a = p ∨ a = q := by simpa using (show a ∈ [p, q] from hb)
            rcases this with rfl | rfl
            · obtain ⟨o, ho⟩ := (S4.at et).2.1.foot a ha
              rw [hp] at ho; cases ho
            · exact ap i t et a ha (by simp [Cn.feet])
          rcases getX_one e1 with ⟨i, rfl, f1⟩ | ⟨rfl, rfl⟩
          · rcases getX_one e2 with ⟨j, rfl, f2⟩ | ⟨rfl, rfl⟩
            · exact S4.apart (.inl i) (.inl j) t z ne (getX_inl.mpr f1) (getX_inl.mpr f2)
            · exact off i t f1
          · rcases getX_one e2 with ⟨j, rfl, f2⟩ | ⟨rfl, rfl⟩
            · exact fun a ha hb => off j z f2 a hb ha
            · exact absurd rfl ne
      | _ => exact r2.elim
    · exact h2.elim
theorem room65 {k : Nat} {A : Around} (hr : Room k A) : A.units + 65 < cLine := by have := hr.un; omega
end DL

set_option Elab.async false
set_option linter.all false
set_option maxRecDepth 100000
set_option maxHeartbeats 4000000
/-! DLO: the body of the def that draws below a bound. -/
namespace DL
open PySem L2
section
variable (K : PySem.W.Frag)
def aL : TE := tOp (rIxL K) (tVar 0) (tC (.int 0))
def aS : TE := tOp (rIxL K) (tVar 0) (tC (.int 1))
def aFull : TT := tTest (tOp (rNeD K) (aL K) (tLst tNil))
def aZero : TT := tTest (tOp rEq (tOp (rIxL K) (aL K) (tUn (rU fun i => .int (-i)) (tC (.int 1)))) (tC (.int 0)))
def aPop : TE := tBM0 K "list" rPop (aL K)
def rInt : List V → Hp → VK → Prop := fun xs H Q => (∃ i, xs = [.int i] ∧ Q (.int i) H) ∨ ∃ k, xs = [.bl k] ∧ Q (.int (if k then 1 else 0)) H
def rAdd2 : R2 := rI0 fun i j => .int (i + j)
def rMul2 : R2 := rI CMul fun i j => .int (i * j)
def rMod2 : R2 := rI (fun _ j => 0 < j) fun i j => .int (i % j)
def rDiv2 : R2 := rI CDivN fun i j => .int (i.fdiv j)
def aBody : TS :=
  tSeq (tWhile (tAnd (aFull K) (aZero K)) (tDrop (aPop K)))
  (tSeq (tIfS (aFull K) (tSeq (tAsg (tCB rInt (tCons (aPop K) tNil)) (gName 2)) (tSeq (tDrop (tBM K "list" rAppend (aL K) (tCons (tOp rDiv2 (tVar 2) (tVar 1)) tNil))) (tRet (tOp rMod2 (tVar 2) (tVar 1))))) tNext)
  (tSeq (tAsg (tOp rMod2 (tCB rInt (tCons (tOp rAdd2 (tOp rMul2 (aS K) (tC (.int 40693))) (tC (.int 71))) tNil)) (tC (.int 2147483647))) (gSub (tVar 0) (tC (.int 1)) rSetL))
  (tRet (tOp rMod2 (tCB rInt (tCons (tOp rDiv2 (aS K) (tC (.int 64))) tNil)) (tVar 1)))))
end
/-- a draw below the bound in slot 1 -/
def t_any : DTS := fun E δ => ∃ (d : Deal) (b v : Int) (d' : Deal), δ[0]? = some (some (.deal d)) ∧ δ[1]? = some (some (.fz (.int b))) ∧ oAny d b = some (v, d') ∧ E.rt (.fz (.int v)) (δ.set 0 (some (.deal d')))
theorem shaped_ints (ns : List Int) : SeqAt.shaped (.list (ns.map .int)) = true := by
  have h : ∀ ns : List Int, PyData.canLayAll0 (ns.map .int) = true ∧ PyData.depthAll (ns.map .int) = 0 := fun ns => by
    induction ns with
    | nil => exact ⟨rfl, rfl⟩
    | cons a l ih => exact ⟨by simp [PyData.canLayAll0, PyData.canLay0, ih.1], by simp [PyData.depthAll, PyData.depth, ih.2]⟩
  obtain ⟨h1, h2⟩ := h ns
  unfold SeqAt.shaped
  simp [PyData.canLay0, PyData.depth, h1, h2]
theorem dp_ints {K : PySem.W.Frag} {H : Hp} : ∀ ns : List Int, DpAll K H (ns.map V.int) (ns.map PyData.int)
  | [] => .nil
  | n :: ns => .cons (.int n) (dp_ints ns)
theorem eqv_nil (ns : List Int) : PyData.eqv (.list (ns.map .int)) (.list []) = ns.isEmpty := by
  cases ns with
  | nil => simp [PyData.eqv, PyData.eqvAll]
  | cons a l => simp [PyData.eqv, PyData.eqvAll]
/-- where the source stands -/
structure AnyAt (σ0 σ : St) (H0 H : Hp) (p q : Addr) (b : Int) (ns : List Int) (s : Int) : Prop where
  v0 : σ[0]? = some (some (.ref p))
  v1 : σ[1]? = some (some (.int b))
  hp : H p = some (.lst [.ref q, .int s])
  hq : H q = some (.lst (ns.map V.int))
  ne : p ≠ q
  ok : DealOk ns s
  old : ∀ a, a ≠ p → a ≠ q → ∀ o, H0 a = some o → H a = some o
section
variable {K : PySem.W.Frag} {σ0 σ : St} {H0 H : Hp} {p q : Addr} {b : Int} {ns : List Int} {s : Int}
theorem AnyAt.lay (A : AnyAt σ0 σ H0 H p q b ns s) {r : Addr} (hr : H r = none) {ys : List V} : AnyAt σ0 σ H0 (upd H r (.lst ys)) p q b ns s where
  v0 := A.v0
  v1 := A.v1
  hp := by rw [upd_ne fun z => by subst z; rw [A.hp] at hr; cases hr]; exact A.hp
  hq := by rw [upd_ne fun z => by subst z; rw [A.hq] at hr; cases hr]; exact A.hq
  ne := A.ne
  ok := A.ok
  old := fun a h1 h2 o e => by rw [upd_ne fun z => by subst z; rw [A.old _ h1 h2 o e] at hr; cases hr]; exact A.old a h1 h2 o e
theorem AnyAt.putQ (A : AnyAt σ0 σ H0 H p q b ns s) {ms : List Int} (h : DealOk ms s) : AnyAt σ0 σ H0 (upd H q (.lst (ms.map V.int))) p q b ms s where
  v0 := A.v0
  v1 := A.v1
  hp := by rw [upd_ne A.ne]; exact A.hp
  hq := upd_same
  ne := A.ne
  ok := h
  old := fun a h1 h2 o e => by rw [upd_ne h2]; exact A.old a h1 h2 o e
theorem AnyAt.putP (A : AnyAt σ0 σ H0 H p q b ns s) {t : Int} (h : DealOk ns t) : AnyAt σ0 σ H0 (upd H p (.lst [.ref q, .int t])) p q b ns t where
  v0 := A.v0
  v1 := A.v1
  hp := upd_same
  hq := by rw [upd_ne fun z => A.ne z.symm]; exact A.hq
  ne := A.ne
  ok := h
  old := fun a h1 h2 o e => by rw [upd_ne h1]; exact A.old a h1 h2 o e
theorem AnyAt.set2 (A : AnyAt σ0 σ H0 H p q b ns s) {o : Option V} : AnyAt σ0 (σ.set 2 o) H0 H p q b ns s where
  v0 := by rw [List.getElem?_set_ne (by decide)]; exact A.v0
  v1 := by rw [List.getElem?_set_ne (by decide)]; exact A.v1
  hp := A.hp
  hq := A.hq
  ne := A.ne
  ok := A.ok
  old := A.old
theorem AnyAt.aL (A : AnyAt σ0 σ H0 H p q b ns s) {Q : VK} (h : Q (.ref q) H) : aL K σ H Q := ⟨_, A.v0, p, _, 0, .ref q, rfl, rfl, SqL.of A.hp, rfl, h⟩
theorem AnyAt.aS (A : AnyAt σ0 σ H0 H p q b ns s) {Q : VK} (h : Q (.int s) H) : aS K σ H Q := ⟨_, A.v0, p, _, 1, .int s, rfl, rfl, SqL.of A.hp, rfl, h⟩
theorem AnyAt.aFull (A : AnyAt σ0 σ H0 H p q b ns s) {Q : Bool → Hp → Prop} (h : ∀ H', AnyAt σ0 σ H0 H' p q b ns s → Q (!ns.isEmpty) H') : aFull K σ H Q :=
  A.aL (Q := fun x H1 => tLst tNil σ H1 fun y H2 => rNeD K x y H2 fun z H' => ∃ k, z = .bl k ∧ Q k H') ⟨Nat.zero_le _, fun r hr => by
    have A' := A.lay hr (ys := [])
    exact ⟨_, _, .lst (SqL.of A'.hq) (dp_ints ns), .lst (SqL.of upd_same) .nil, shaped_ints ns, shaped_ints [], _, by rw [eqv_nil], h _ A'⟩⟩
theorem AnyAt.aZero (A : AnyAt σ0 σ H0 H p q b ns s) {Q : Bool → Hp → Prop} (hne : ns ≠ []) (h : Q (decide (ns.getLast hne = 0)) H) : aZero K σ H Q := by
  have hl : 0 < ns.length := List.length_pos_iff.mpr hne
  have e : atI (ns.map V.int) (-1) = some (V.int (ns.getLast hne)) := by
    unfold atI ixN
    rw [if_neg (by decide), if_pos (by rw [List.length_map]; omega)]
    show (ns.map V.int)[(-1 + ((ns.map V.int).length : Int)).toNat]? = _
    have : (-1 + ((ns.map V.int).length : Int)).toNat = ns.length - 1 := by rw [List.length_map]; omega
    rw [this, List.getElem?_map, ← List.getLast?_eq_getElem?, List.getLast?_eq_getLast hne]
    rfl
  exact A.aL (Q := fun x H1 => tUn (rU fun i => V.int (-i)) (tC (.int 1)) σ H1 fun y H2 => rIxL K x y H2 fun z H3 => tC (.int 0) σ H3 fun u H4 => rEq z u H4 fun r H' => ∃ k, r = .bl k ∧ Q k H')
    ⟨1, rfl, q, _, -1, _, rfl, rfl, SqL.of A.hq, e, rfl, _, rfl, by rw [show decide (V.int (ns.getLast hne) = V.int 0) = decide (ns.getLast hne = 0) by simp]; exact h⟩
theorem dealOk_dropLast (h : DealOk ns s) : DealOk ns.dropLast s := ⟨fun c hc => h.1 c (List.dropLast_subset _ hc), by rw [List.length_dropLast]; have := h.2.1; omega, h.2.2⟩
theorem AnyAt.aPop (A : AnyAt σ0 σ H0 H p q b ns s) {Q : VK} (hne : ns ≠ []) (h : AnyAt σ0 σ H0 (upd H q (.lst (ns.dropLast.map V.int))) p q b ns.dropLast s → Q (.int (ns.getLast hne)) (upd H q (.lst (ns.dropLast.map V.int)))) : aPop K σ H Q := by
  refine A.aL (Q := fun x H1 => tyV K "list" x H1 ∧ rPop x [] H1 Q) ⟨.inl ⟨rfl, _, SqL.of A.hq⟩, q, _, .int (ns.getLast hne), rfl, rfl, A.hq, ?_, ?_⟩
  · rw [List.length_map, List.getElem?_map, ← List.getLast?_eq_getElem?, List.getLast?_eq_getLast hne]; rfl
  · rw [← List.map_dropLast]
    exact h (A.putQ (dealOk_dropLast A.ok))
theorem dealOk_push {v w : Int} (hne : ns ≠ []) (h : DealOk ns s) (hw : 0 ≤ w) : DealOk (ns.dropLast ++ [w]) s := ⟨fun c hc => by
    rcases List.mem_append.mp hc with q | q
    · exact h.1 c (List.dropLast_subset _ q)
    · rw [List.mem_singleton.mp q]; exact hw, by
    have := h.2.1
    have := List.length_pos_iff.mpr hne
    rw [List.length_append, List.length_dropLast, List.length_singleton]; omega, h.2.2⟩
/-- THE BODY -/
theorem any_body {Pn : List (Nat × V)} {D : Ends} {σ : St} {H : Hp} (hl : 2 < σ.length) (h : liftS K Pn t_any D σ H) : aBody K D σ H := by
  obtain ⟨F, R, δ, E, ⟨F1, cs, S⟩, ⟨d, b, v, d', hd, hb, hv, ht⟩, _, _, _, k4⟩ := h
  obtain ⟨hb0, hb1, hvr⟩ := oAny_some hv
  have hv1 : v = (anyR d b hb0).1 := congrArg Prod.fst hvr
  have hd1 : d' = (anyR d b hb0).2 := congrArg Prod.snd hvr
  obtain ⟨p, q, hc, e0, ne, hp, hq⟩ := S.dealAt hd
  obtain ⟨x, ex, rx⟩ := S.fzv hb
  cases (show x = .int b from rx)
  have A0 : AnyAt σ σ H H p q b d.cs d.b := ⟨e0, ex, hp, hq, ne, d.ok, fun a _ _ o e => e⟩
  have fin : ∀ (σ' : St) (H' : Hp) (ns' : List Int) (s' : Int) (v' : Int), AnyAt σ σ' H H' p q b ns' s' → v' = v → d'.cs = ns' → d'.b = s' → D.rt (.int v') H' := fun σ' H' ns' s' v' A h5 h6 h7 => by
    subst h5 h6 h7
    have S1 := S.deal (d := d') hd hc A.old A.hp A.hq
    exact k4 σ (.int v') H' _ (.fz (.int v')) (S1.resFz (d := .int v') rfl) ht
  have divok : ∀ i : Int, CDivN i b := fun i => ⟨by omega, by omega⟩
  refine ⟨fun m σ' H' => σ' = σ ∧ ∃ ns' s', m = ns'.length ∧ (s' = d.b ∧ dropZ ns' = dropZ d.cs) ∧ AnyAt σ σ H H' p q b ns' s', ⟨_, rfl, d.cs, d.b, rfl, ⟨rfl, rfl⟩, A0⟩, ?_⟩
  rintro m σ' H1 ⟨rfl, ns1, s1, rfl, ⟨rfl, hz⟩, A1⟩
  have after : ∀ (ns1 : List Int) (H1 : Hp), AnyAt σ' σ' H H1 p q b ns1 d.b → ns1 = dropZ d.cs → tSeq (tIfS (aFull K) (tSeq (tAsg (tCB rInt (tCons (aPop K) tNil)) (gName 2)) (tSeq (tDrop (tBM K "list" rAppend (aL K) (tCons (tOp rDiv2 (tVar 2) (tVar 1)) tNil))) (tRet (tOp rMod2 (tVar 2) (tVar 1))))) tNext)
      (tSeq (tAsg (tOp rMod2 (tCB rInt (tCons (tOp rAdd2 (tOp rMul2 (aS K) (tC (.int 40693))) (tC (.int 71))) tNil)) (tC (.int 2147483647))) (gSub (tVar 0) (tC (.int 1)) rSetL))
      (tRet (tOp rMod2 (tCB rInt (tCons (tOp rDiv2 (aS K) (tC (.int 64))) tNil)) (tVar 1)))) D σ' H1 := fun ns1 H1 A1 hns => by
    refine A1.aFull fun H2 A2 => ?_
    by_cases he : ns1 = []
    · subst he
      rw [if_neg (by simp)]
      have hs := A2.ok.2.2
      obtain ⟨n1, n2, n3⟩ := anyR_none (d := d) (hb := hb0) hns.symm
      refine A2.aS (Q := fun x H1 => rMul2 x (.int 40693) H1 fun x H1 => rAdd2 x (.int 71) H1 fun x H1 => rInt [x] H1 fun x H1 => rMod2 x (.int 2147483647) H1 fun x H1 => gSub (tVar 0) (tC (.int 1)) rSetL x σ' H1 _)
        ⟨_, _, rfl, rfl, .inr ⟨by decide, by decide⟩, _, _, rfl, rfl, .inl ⟨_, rfl, _, _, rfl, rfl, (by decide : (0 : Int) < 2147483647), _, A2.v0, p, [.ref q, .int d.b], 1, 1, rfl, rfl, A2.hp, rfl, ?_⟩⟩
      show tRet (tOp rMod2 (tCB rInt (tCons (tOp rDiv2 (aS K) (tC (.int 64))) tNil)) (tVar 1)) D σ' (upd H2 p (.lst [.ref q, .int ((d.b * 40693 + 71) % 2147483647)]))
      have A3 := A2.putP (t := (d.b * 40693 + 71) % 2147483647) ⟨A2.ok.1, A2.ok.2.1, Int.emod_nonneg _ (by decide), Int.emod_lt_of_pos _ (by decide)⟩
      refine A3.aS (Q := fun x H1 => rDiv2 x (.int 64) H1 fun x H1 => rInt [x] H1 fun x H1 => tVar 1 σ' H1 fun y H2 => rMod2 x y H2 D.rt)
        ⟨_, _, rfl, rfl, ⟨by decide, by decide⟩, .inl ⟨_, rfl, _, A3.v1, _, _, rfl, rfl, hb0, ?_⟩⟩
      refine fin _ _ _ _ _ A3 ?_ (by rw [hd1, n2]) (by rw [hd1, n3])
      rw [hv1, n1, Int.fdiv_eq_ediv_of_nonneg _ (by decide)]
    · rw [if_pos (by simpa using he)]
      have hl2 : dropZ d.cs = ns1.dropLast ++ [ns1.getLast he] := by rw [List.dropLast_concat_getLast, hns]
      obtain ⟨n1, n2, n3⟩ := anyR_some (d := d) (hb := hb0) hl2
      refine A2.aPop (Q := fun x H1 => rInt [x] H1 fun x H1 => gName 2 x σ' H1 _) he fun A3 => .inl ⟨_, rfl, ?_⟩
      have A4 : AnyAt σ' (σ'.set 2 (some (.int (ns1.getLast he)))) H _ p q b _ d.b := A3.set2
      have e2 : (σ'.set 2 (some (V.int (ns1.getLast he))))[2]? = some (some (.int (ns1.getLast he))) := List.getElem?_set_self hl
      have hv : 0 ≤ ns1.getLast he := A2.ok.1 _ (List.getLast_mem he)
      have hw : 0 ≤ (ns1.getLast he).fdiv b := by rw [Int.fdiv_eq_ediv_of_nonneg _ (by omega)]; exact Int.ediv_nonneg hv (by omega)
      refine A4.aL (Q := fun x H1 => tyV K "list" x H1 ∧ tCons (tOp rDiv2 (tVar 2) (tVar 1)) tNil _ H1 fun xs H2 => rAppend x xs H2 _)
        ⟨.inl ⟨rfl, _, SqL.of A4.hq⟩, _, e2, _, A4.v1, _, _, rfl, rfl, divok _, q, _, _, rfl, rfl, A4.hq, ?_, ?_⟩
      · have := A4.ok.2.1
        rw [List.length_map]
        exact Nat.lt_of_le_of_lt this (by decide)
      have A5 := A4.putQ (ms := ns1.dropLast ++ [(ns1.getLast he).fdiv b]) (dealOk_push (v := ns1.getLast he) he A2.ok hw)
      rw [List.map_append] at A5
      refine ⟨_, e2, _, A4.v1, _, _, rfl, rfl, hb0, ?_⟩
      refine fin _ _ _ _ _ A5 (by rw [hv1, n1]) ?_ (by rw [hd1, n3])
      rw [hd1, n2, Int.fdiv_eq_ediv_of_nonneg _ (by omega)]
  refine A1.aFull fun H2 A2 => ?_
  by_cases he : ns1 = []
  · subst he
    rw [if_neg (by simp)]
    show ite (false = true) _ _
    rw [if_neg (by decide)]
    exact after _ _ A2 (by rw [← hz]; rfl)
  · rw [if_pos (by simpa using he)]
    refine A2.aZero he ?_
    have hsn := dropZ_snoc ns1.dropLast (ns1.getLast he)
    rw [List.dropLast_concat_getLast] at hsn
    by_cases h0 : ns1.getLast he = 0
    · rw [decide_eq_true h0]
      show ite (true = true) _ _
      rw [if_pos rfl]
      rw [if_pos h0] at hsn
      refine ⟨fun σ'' H' => σ'' = σ' ∧ ∃ ns' s', ns'.length < ns1.length ∧ (s' = d.b ∧ dropZ ns' = dropZ d.cs) ∧ AnyAt σ' σ' H H' p q b ns' s', fun σ'' H' ⟨e, ns', s', hlt, hh, A⟩ => ⟨_, hlt, e, ns', s', rfl, hh, A⟩, ?_⟩
      refine A2.aPop (Q := fun _ H1 => _) he fun A3 => ⟨rfl, _, d.b, ?_, ⟨rfl, by rw [← hsn, hz]⟩, A3⟩
      have := List.length_pos_iff.mpr he
      rw [List.length_dropLast]; omega
    · rw [decide_eq_false h0]
      show ite (false = true) _ _
      rw [if_neg (by decide)]
      rw [if_neg h0] at hsn
      exact after _ _ A2 (by rw [← hz, hsn])
end
theorem sem_law_any : ∀ δ W, δ.length = 2 → S_law_any δ W → t_any { nx := endD 1 W (.fz .non), rt := endD 1 W } (startD 3 δ) := by
  intro δ W _ h
  unfold S_law_any at h
  obtain ⟨d, b, v, d', rfl, hv, k⟩ := h
  exact ⟨d, b, v, d', rfl, rfl, hv, trivial, [.deal d'], rfl, rfl, k⟩
end DL

set_option Elab.async false
set_option linter.all false
set_option maxRecDepth 100000
set_option maxHeartbeats 4000000
/-! DLP: the defs that all laws share, over data. -/
namespace DL
open PySem L2
theorem flat_ints (ys : List Int) : (ys.map Dv.int).all flatD = true := by simp [flatD]
theorem use_any {d d' : Deal} {b v : Int} {W : Sl → List Sl → Prop} (h : oAny d b = some (v, d')) (k : W (.fz (.int v)) [.deal d']) : S_law_any [.deal d, .fz (.int b)] W := by
  unfold S_law_any; exact ⟨d, b, v, d', rfl, h, k⟩
/-- one of some -/
def oOf {α : Type} (d : Deal) (xs : List α) : Option (α × Deal) := (oAny d xs.length).bind fun r => (atI xs r.1).map fun x => (x, r.2)
@[irreducible] def S_law_of : FS := fun δ W => ∃ (d : Deal) (ds : List Dv) (x : Dv) (d' : Deal), δ = [.deal d, .fz (.lst ds)] ∧ oOf d ds = some (x, d') ∧ W (.fz x) [.deal d']
theorem mono_law_of : FMono S_law_of := by unfold S_law_of; exact fun δ W W' h ⟨d, b, v, d', e1, e2, k⟩ => ⟨d, b, v, d', e1, e2, h _ _ k⟩
theorem len_law_of : ∀ δ W, S_law_of δ W → δ.length = 2 := by unfold S_law_of; exact fun δ W ⟨d, b, v, d', e1, e2, k⟩ => by rw [e1]; rfl
theorem use_of {d d' : Deal} {ds : List Dv} {x : Dv} {W : Sl → List Sl → Prop} (h : oOf d ds = some (x, d')) (k : W (.fz x) [.deal d']) : S_law_of [.deal d, .fz (.lst ds)] W := by
  unfold S_law_of; exact ⟨d, ds, x, d', rfl, h, k⟩
def t_law_of : DTS := (dRet (dBin ixF (dVar 1) (dCallM S_law_any (dCons (dVar 0) (dCons (dB lenF (dCons (dVar 1) dNil)) dNil)))))
theorem atI_of {α : Type} {xs : List α} {v : Int} (h0 : 0 ≤ v) (h1 : v < xs.length) : ∃ x ∈ xs, atI xs v = some x := by
  have hv : v.toNat < xs.length := by omega
  refine ⟨xs[v.toNat], List.getElem_mem hv, ?_⟩
  unfold atI ixN
  rw [if_pos h0, if_pos h1]
  exact List.getElem?_eq_getElem hv
theorem sem_law_of : ∀ δ W, δ.length = 2 → S_law_of δ W → t_law_of { nx := endD 1 W (.fz .non), rt := endD 1 W } (startD 2 δ) := by
  intro δ W _ h
  unfold S_law_of at h
  obtain ⟨d, ds, x, d', rfl, h1, k⟩ := h
  obtain ⟨⟨v, d2⟩, h2, h3⟩ := Option.bind_eq_some_iff.mp h1
  obtain ⟨y, h4, h5⟩ := Option.map_eq_some_iff.mp h3
  cases h5
  change t_law_of _ [some (.deal d), some (.fz (.lst ds))]
  repeat ((conv => whnf); show _ ∧ _; refine ⟨by first | rfl | trivial | decide | exact Nat.le_of_ble_eq_true rfl | exact .inl ⟨rfl, rfl⟩ | exact .inl ⟨rfl, flat_ints _⟩ | exact ⟨eqOk_lst (eqOk_ints _ _), eqOk_nil⟩, ?_⟩)
  conv => whnf
  refine use_any h2 ?_
  repeat ((conv => whnf); show _ ∧ _; refine ⟨by first | rfl | trivial | decide | exact Nat.le_of_ble_eq_true rfl | exact .inl ⟨rfl, rfl⟩ | exact .inl ⟨rfl, flat_ints _⟩ | exact ⟨eqOk_lst (eqOk_ints _ _), eqOk_nil⟩, ?_⟩)
  conv => whnf
  exact ⟨_, h4, trivial, [.deal _], rfl, rfl, k⟩
theorem eqOks_iff {n : Nat} : ∀ {ds : List Dv}, eqOks n ds = true ↔ ∀ d ∈ ds, eqOk n d = true
  | [] => by simp [eqOks]
  | d :: ds => by simp [eqOks, eqOks_iff (n := n) (ds := ds)]
theorem eqB_nil (ds : List Dv) : eqB (.lst ds) (.lst []) = ds.isEmpty := by
  cases ds <;> simp [eqB, toP, toPs, PyData.eqv, PyData.eqvAll]
theorem eqB_int (i j : Int) : eqB (.int i) (.int j) = (i == j) := by simp [eqB, toP, PyData.eqv]
theorem eqB_bl (i j : Bool) : eqB (.bl i) (.bl j) = (i == j) := by simp [eqB, toP, PyData.eqv]
theorem eqOk_lst {ds : List Dv} (h : eqOks 59 ds = true) : eqOk 60 (.lst ds) = true := by simp [eqOk, h]
theorem eqOk_ints (n : Nat) (ns : List Int) : eqOks n (ns.map .int) = true := eqOks_iff.mpr fun d hd => by
  obtain ⟨i, _, rfl⟩ := List.mem_map.mp hd
  simp [eqOk]
theorem eqOk_int {n : Nat} {i : Int} : eqOk n (.int i) = true := by simp [eqOk]
theorem eqOk_bl {n : Nat} {i : Bool} : eqOk n (.bl i) = true := by simp [eqOk]
theorem eqOk_non {n : Nat} : eqOk n .non = true := by simp [eqOk]
theorem eqOk_nil {n : Nat} : eqOk (n + 1) (.lst []) = true := by simp [eqOk, eqOks]
theorem erase_perm {α : Type} : ∀ (l : List α) (i : Nat) (h : i < l.length), (l[i] :: l.eraseIdx i).Perm l
  | a :: l, 0, _ => List.Perm.refl _
  | a :: l, i + 1, h => by
    have := erase_perm l i (by simpa using h)
    simp only [List.getElem_cons_succ, List.eraseIdx_cons_succ]
    exact (List.Perm.swap _ _ _).trans (List.Perm.cons _ this)
/-- all of some, in any order -/
def oMixN {α : Type} : Nat → Deal → List α → List α → Option (List α × Deal)
  | _, d, [], found => some (found, d)
  | 0, _, _ :: _, _ => none
  | n + 1, d, x :: l, found => (oAny d (x :: l).length).bind fun r => ((x :: l)[r.1.toNat]?).bind fun y => oMixN n r.2 ((x :: l).eraseIdx r.1.toNat) (found ++ [y])
def oMixed {α : Type} (d : Deal) (xs : List α) : Option (List α × Deal) := if xs.length ≤ 100000 then oMixN xs.length d xs [] else none
@[irreducible] def S_law_mixed : FS := fun δ W => ∃ (d : Deal) (ds es : List Dv) (d' : Deal), δ = [.deal d, .fz (.lst ds)] ∧ eqOks 59 ds = true ∧ oMixed d ds = some (es, d') ∧ W (.ml es) [.deal d']
theorem mono_law_mixed : FMono S_law_mixed := by unfold S_law_mixed; exact fun δ W W' h ⟨d, b, v, d', e1, e2, e3, k⟩ => ⟨d, b, v, d', e1, e2, e3, h _ _ k⟩
theorem len_law_mixed : ∀ δ W, S_law_mixed δ W → δ.length = 2 := by unfold S_law_mixed; exact fun δ W ⟨d, b, v, d', e1, e2, e3, k⟩ => by rw [e1]; rfl
theorem use_mixed {d d' : Deal} {ds es : List Dv} {W : Sl → List Sl → Prop} (h1 : eqOks 59 ds = true) (h : oMixed d ds = some (es, d')) (k : W (.ml es) [.deal d']) : S_law_mixed [.deal d, .fz (.lst ds)] W := by
  unfold S_law_mixed; exact ⟨d, ds, es, d', rfl, h1, h, k⟩
def t_law_mixed : DTS := (dSeq (dPar 2 3 (dCons (dB listF (dCons (dVar 1) dNil)) (dCons (dLst dNil) dNil)))
  (dSeq (dWhile (dTest (dBin neF (dVar 2) (dLst dNil)))
  (dDrop (dMt appendM (dVar 3) (dCons (dMt popAtM (dVar 2) (dCons (dCallM S_law_any (dCons (dVar 0) (dCons (dB lenF (dCons (dVar 2) dNil)) dNil))) dNil)) dNil))))
  (dRet (dVar 3))))
theorem eqB_nil' {α : Type} (x : Dv) (l : List Dv) : eqB (.lst (x :: l)) (.lst []) = false := by rw [eqB_nil]; rfl
theorem sem_law_mixed : ∀ δ W, δ.length = 2 → S_law_mixed δ W → t_law_mixed { nx := endD 1 W (.fz .non), rt := endD 1 W } (startD 4 δ) := by
  intro δ W _ h
  unfold S_law_mixed at h
  obtain ⟨d, ds, es, d', rfl, h2, h3, k⟩ := h
  unfold oMixed at h3
  split at h3
  · rename_i h1
    change t_law_mixed _ [some (.deal d), some (.fz (.lst ds)), none, none]
    repeat ((conv => whnf); show _ ∧ _; refine ⟨by first | rfl | trivial | decide | exact Nat.le_of_ble_eq_true rfl | exact .inl ⟨rfl, rfl⟩ | exact .inl ⟨rfl, flat_ints _⟩ | exact ⟨eqOk_lst (eqOk_ints _ _), eqOk_nil⟩, ?_⟩)
    conv => whnf
    refine ⟨fun m δ => ∃ (left found : List Dv) (dd : Deal), m = left.length ∧ (eqOks 59 left = true ∧ found.length + left.length = ds.length ∧ ∃ n, oMixN n dd left found = some (es, d')) ∧ δ = [some (.deal dd), some (.fz (.lst ds)), some (.ml left), some (.ml found)], ⟨_, ds, [], d, rfl, ⟨h2, by simp, _, h3⟩, rfl⟩, ?_⟩
    rintro m _ ⟨left, found, dd, rfl, ⟨he, hl, n, hm⟩, rfl⟩
    repeat ((conv => whnf); show _ ∧ _; refine ⟨by first | rfl | trivial | decide | exact Nat.le_of_ble_eq_true rfl | exact .inl ⟨rfl, rfl⟩ | exact .inl ⟨rfl, flat_ints _⟩ | exact ⟨eqOk_lst (eqOk_ints _ _), eqOk_nil⟩, ?_⟩)
    conv => whnf
    cases left with
    | nil =>
      rw [eqB_nil]
      have : some (found, dd) = some (es, d') := by cases n <;> exact hm
      cases this
      repeat ((conv => whnf); show _ ∧ _; refine ⟨by first | rfl | trivial | decide | exact Nat.le_of_ble_eq_true rfl | exact .inl ⟨rfl, rfl⟩ | exact .inl ⟨rfl, flat_ints _⟩ | exact ⟨eqOk_lst (eqOk_ints _ _), eqOk_nil⟩, ?_⟩)
      conv => whnf
      exact ⟨[.deal _], rfl, rfl, k⟩
    | cons x l =>
      rw [eqB_nil]
      cases n with
      | zero => cases hm
      | succ n =>
        obtain ⟨⟨v, d2⟩, q1, q2⟩ := Option.bind_eq_some_iff.mp hm
        obtain ⟨y, q3, q4⟩ := Option.bind_eq_some_iff.mp q2
        change (x :: l)[v.toNat]? = some y at q3
        change oMixN n d2 ((x :: l).eraseIdx v.toNat) (found ++ [y]) = some (es, d') at q4
        have hb : 0 ≤ v ∧ v < ((x :: l).length : Int) := by
          obtain ⟨hb, _, e⟩ := oAny_some q1
          rw [show v = (anyR dd _ hb).1 from congrArg Prod.fst e]
          exact anyR_bnd dd hb
        have hvl := (List.getElem?_eq_some_iff.mp q3).1
        repeat ((conv => whnf); show _ ∧ _; refine ⟨by first | rfl | trivial | decide | exact Nat.le_of_ble_eq_true rfl | exact .inl ⟨rfl, rfl⟩ | exact .inl ⟨rfl, flat_ints _⟩ | exact ⟨eqOk_lst (eqOk_ints _ _), eqOk_nil⟩, ?_⟩)
        conv => whnf
        refine use_any q1 ?_
        repeat ((conv => whnf); show _ ∧ _; refine ⟨by first | rfl | trivial | decide | exact Nat.le_of_ble_eq_true rfl | exact .inl ⟨rfl, rfl⟩ | exact .inl ⟨rfl, flat_ints _⟩ | exact ⟨eqOk_lst (eqOk_ints _ _), eqOk_nil⟩, ?_⟩)
        conv => whnf
        refine ⟨by rw [List.length_cons] at hb hl; omega, v.toNat, y, by rw [seqIndex_of hb.1 hb.2], q3, ?_, ?_⟩
        · have : found.length < 100000 := by rw [List.length_cons] at hl; omega
          exact Nat.lt_of_lt_of_le this (by decide)
        · refine ⟨_, ?_, _, _, _, rfl, ⟨?_, ?_, n, q4⟩, rfl⟩
          · rw [List.length_eraseIdx_of_lt hvl]; simp
          · exact eqOks_iff.mpr fun e he' => eqOks_iff.mp he e (List.mem_of_mem_eraseIdx he')
          · rw [List.length_eraseIdx_of_lt hvl, List.length_append, List.length_singleton]; rw [List.length_cons] at hl ⊢; omega
  · cases h3
/-! the source is laid out -/
@[irreducible] def S_law_draw : FS := spN (fun p : List Int × Int => [.fz (.scr p.1), .fz (.int p.2)]) (fun p => 0 ≤ p.2 ∧ p.2 < 1000) (fun _ r outs => ∃ d, r = .deal d ∧ outs = [])
theorem mono_law_draw : FMono S_law_draw := by unfold S_law_draw; exact spN_mono
theorem len_law_draw : ∀ δ W, S_law_draw δ W → δ.length = 2 := by unfold S_law_draw; exact spN_len fun _ => rfl
theorem use_draw {ns : List Int} {i : Int} {W : Sl → List Sl → Prop} (h0 : 0 ≤ i) (h1 : i < 1000) (k : ∀ d, W (.deal d) []) : S_law_draw [.fz (.scr ns), .fz (.int i)] W := by
  unfold S_law_draw; exact ⟨(ns, i), rfl, ⟨h0, h1⟩, fun r outs ⟨d, e1, e2⟩ => by subst e1; subst e2; exact k d⟩
def t_law_draw : DTS := (dSeq (dSet 2 (dLC (dSeqI (dSl (dVar 0) dNoPart (dPart (dC (.int 48))))) (dName 4) (dTests []) (dB absF (dCons (dB intF (dCons (dVar 4) dNil)) dNil)) [4]))
  (dSeq (dSet 3 (dBin addF (dC (.int 7919)) (dBin mulF (dC (.int 104729)) (dVar 1))))
  (dSeq (dFor (dSeqI (dVar 2)) (dName 4)
  (dSet 3 (dBin modF (dB intF (dCons (dBin addF (dBin addF (dBin mulF (dVar 3) (dC (.int 48271))) (dBin modF (dVar 4) (dC (.int 2147483549)))) (dC (.int 11))) dNil)) (dC (.int 2147483647)))))
  (dRet (dDeal (dRev (dLC (dSeqI (dVar 2)) (dName 4) (dTest (dBin geF (dVar 4) (dBin powF (dC (.int 10)) (dC (.int 18))))) (dVar 4) [4])) (dVar 3))))))
theorem mulOk_r {i j : Int} (h : -(2 ^ 64) < j) (h' : j < 2 ^ 64) : MulOk i j := .inl (.inr ⟨h, h'⟩)
theorem mulOk_l {i j : Int} (h : -(2 ^ 64) < i) (h' : i < 2 ^ 64) : MulOk i j := .inl (.inl ⟨h, h'⟩)
theorem divOk_n {i j : Int} (h : 0 < j) (h' : j < 1073741824) : DivOk i j := .inl ⟨by omega, by omega⟩
theorem by_test {x : Bool} {A B : Prop} (h1 : x = true → A) (h0 : x = false → B) : @Decidable.rec (x = true) (fun _ => Prop) (fun _ => B) (fun _ => A) (instDecidableEqBool x true) := by
  cases x with
  | true => exact h1 rfl
  | false => exact h0 rfl
/-- on ints -/
def onInt {α : Type} (f : Int → Option α) : Dv → Option α
  | .int i => f i
  | _ => none
theorem fm_ints {α : Type} (cs : List Int) (f : Int → Option α) : (cs.map Dv.int).filterMap (onInt f) = cs.filterMap f := by
  rw [List.filterMap_map]; rfl
def pl (o : Option Sl) : Prop := o = none ∨ ∃ d, o = some (.fz d)
theorem sem_law_draw : ∀ δ W, δ.length = 2 → S_law_draw δ W → t_law_draw { nx := endD 0 W (.fz .non), rt := endD 0 W } (startD 5 δ) := by
  intro δ W _ h
  unfold S_law_draw at h
  obtain ⟨⟨ns, i⟩, rfl, ⟨h1, h2⟩, k⟩ := h
  change t_law_draw _ [some (.fz (.scr ns)), some (.fz (.int i)), none, none, none]
  repeat ((conv => whnf); show _ ∧ _; refine ⟨by first | rfl | trivial | decide | exact Nat.le_of_ble_eq_true rfl | exact .inl ⟨rfl, rfl⟩ | exact .inl ⟨rfl, flat_ints _⟩ | exact ⟨eqOk_lst (eqOk_ints _ _), eqOk_nil⟩, ?_⟩)
  conv => whnf
  have hcut : ∀ d ∈ cutD (ns.map .int) none (some 48), ∃ i, d = .int i := fun d hd => by
    unfold cutD at hd
    obtain ⟨j, _, rfl⟩ := List.mem_map.mp (List.mem_of_mem_drop (List.mem_of_mem_take hd))
    exact ⟨j, rfl⟩
  have hlen : (cutD (ns.map .int) none (some 48)).length ≤ 48 := by
    unfold cutD
    refine Nat.le_trans (List.length_take_le _ _) ?_
    show min 48 _ - 0 ≤ 48
    omega
  generalize cutD (ns.map .int) none (some 48) = items at hcut hlen
  refine lc_pure (onInt fun i => some (.int (if i < 0 then -i else i))) (fun v hv => ?_) (Nat.le_trans hlen (by decide)) ?_ ?_
  · cases List.mem_singleton.mp hv
    exact .inl rfl
  · intro d hd A B hA hB
    obtain ⟨j, rfl⟩ := hcut d hd
    repeat ((conv => whnf); show _ ∧ _; refine ⟨by first | rfl | trivial | decide | exact Nat.le_of_ble_eq_true rfl | exact .inl ⟨rfl, rfl⟩ | exact .inl ⟨rfl, flat_ints _⟩ | exact ⟨eqOk_lst (eqOk_ints _ _), eqOk_nil⟩, ?_⟩)
    conv => whnf
    exact hA _ rfl
  have hcs : ∃ cs : List Int, (items.filterMap (onInt fun i => some (Dv.int (if i < 0 then -i else i)))) = cs.map Dv.int ∧ (∀ c ∈ cs, 0 ≤ c) ∧ cs.length ≤ 48 := by
    have := List.length_filterMap_le (onInt fun i => some (Dv.int (if i < 0 then -i else i))) items
    generalize hz : (items.filterMap (onInt fun i => some (Dv.int (if i < 0 then -i else i)))) = z at this
    have hm : ∀ d ∈ z, ∃ i : Int, 0 ≤ i ∧ d = .int i := fun d hd => by
      rw [← hz] at hd
      obtain ⟨e, he, h⟩ := List.mem_filterMap.mp hd
      obtain ⟨j, rfl⟩ := hcut e he
      cases h
      exact ⟨_, by split <;> omega, rfl⟩
    have hl : z.length ≤ 48 := by omega
    clear hz this
    induction z with
    | nil => exact ⟨[], rfl, by simp, by decide⟩
    | cons d z ih =>
      obtain ⟨j, hj, rfl⟩ := hm d List.mem_cons_self
      obtain ⟨cs, rfl, h3, h4⟩ := ih (fun e he => hm e (List.mem_cons_of_mem _ he)) (by rw [List.length_cons] at hl; omega)
      exact ⟨j :: cs, rfl, fun c hc => by rcases List.mem_cons.mp hc with rfl | hc; exact hj; exact h3 c hc, by simpa using hl⟩
  obtain ⟨cs, hcs, hc0, hcl⟩ := hcs
  rw [hcs]
  repeat ((conv => whnf); show _ ∧ _; refine ⟨by first | rfl | trivial | decide | exact Nat.le_of_ble_eq_true rfl | exact .inl ⟨rfl, rfl⟩ | exact .inl ⟨rfl, flat_ints _⟩ | exact ⟨eqOk_lst (eqOk_ints _ _), eqOk_nil⟩, ?_⟩)
  conv => whnf
  refine ⟨mulOk_l (by decide) (by decide), fun k δ => ∃ (b : Int) (o : Option Sl), (0 ≤ b ∧ b < 2147483647) ∧ pl o ∧ δ = [some (.fz (.scr ns)), some (.fz (.int i)), some (.fz (.lst (cs.map .int))), some (.fz (.int b)), o], ⟨_, none, ⟨by have : 0 ≤ i := h1; omega, by have : i < 1000 := h2; omega⟩, .inl rfl, rfl⟩, ?_, ?_⟩
  · rintro k d _ hd ⟨b, o, hb, _, rfl⟩
    rw [List.getElem?_map] at hd
    obtain ⟨c, hc, rfl⟩ := Option.map_eq_some_iff.mp hd
    repeat ((conv => whnf); show _ ∧ _; refine ⟨by first | rfl | trivial | decide | exact Nat.le_of_ble_eq_true rfl | exact .inl ⟨rfl, rfl⟩ | exact .inl ⟨rfl, flat_ints _⟩ | exact ⟨eqOk_lst (eqOk_ints _ _), eqOk_nil⟩, ?_⟩)
    conv => whnf
    refine ⟨mulOk_r (by decide) (by decide), ?_⟩
    repeat ((conv => whnf); show _ ∧ _; refine ⟨by first | rfl | trivial | decide | exact Nat.le_of_ble_eq_true rfl | exact .inl ⟨rfl, rfl⟩ | exact .inl ⟨rfl, flat_ints _⟩ | exact ⟨eqOk_lst (eqOk_ints _ _), eqOk_nil⟩, ?_⟩)
    conv => whnf
    exact ⟨(b * 48271 + c % 2147483549 + 11) % 2147483647, some (.fz (.int c)), ⟨Int.emod_nonneg _ (by decide), Int.emod_lt_of_pos _ (by decide)⟩, .inr ⟨_, rfl⟩, rfl⟩
  · rintro _ ⟨b, o, hb, ho, rfl⟩
    repeat ((conv => whnf); show _ ∧ _; refine ⟨by first | rfl | trivial | decide | exact Nat.le_of_ble_eq_true rfl | exact .inl ⟨rfl, rfl⟩ | exact .inl ⟨rfl, flat_ints _⟩ | exact ⟨eqOk_lst (eqOk_ints _ _), eqOk_nil⟩, ?_⟩)
    conv => whnf
    refine lc_pure (onInt fun i => if (10 : Int) ^ 18 ≤ i then some (.int i) else none) (fun v hv => ?_) ?_ ?_ ?_
    · cases List.mem_singleton.mp hv
      exact ho.elim (fun e => by subst e; exact .inl rfl) fun ⟨d, e⟩ => by subst e; exact .inr ⟨d, rfl⟩
    · rw [List.length_map]; exact Nat.le_trans hcl (by decide)
    · intro d hd A B hA hB
      obtain ⟨j, hj, rfl⟩ := List.mem_map.mp hd
      repeat ((conv => whnf); show _ ∧ _; refine ⟨by first | rfl | trivial | decide | exact Nat.le_of_ble_eq_true rfl | exact .inl ⟨rfl, rfl⟩ | exact .inl ⟨rfl, flat_ints _⟩ | exact ⟨eqOk_lst (eqOk_ints _ _), eqOk_nil⟩, ?_⟩)
      conv => whnf
      refine by_test (fun h => ?_) fun h => ?_
      · repeat ((conv => whnf); show _ ∧ _; refine ⟨by first | rfl | trivial | decide | exact Nat.le_of_ble_eq_true rfl | exact .inl ⟨rfl, rfl⟩ | exact .inl ⟨rfl, flat_ints _⟩ | exact ⟨eqOk_lst (eqOk_ints _ _), eqOk_nil⟩, ?_⟩)
        conv => whnf
        exact hA _ (if_pos (of_decide_eq_true h))
      · repeat ((conv => whnf); show _ ∧ _; refine ⟨by first | rfl | trivial | decide | exact Nat.le_of_ble_eq_true rfl | exact .inl ⟨rfl, rfl⟩ | exact .inl ⟨rfl, flat_ints _⟩ | exact ⟨eqOk_lst (eqOk_ints _ _), eqOk_nil⟩, ?_⟩)
        conv => whnf
        exact hB (if_neg (of_decide_eq_false h))
    repeat ((conv => whnf); show _ ∧ _; refine ⟨by first | rfl | trivial | decide | exact Nat.le_of_ble_eq_true rfl | exact .inl ⟨rfl, rfl⟩ | exact .inl ⟨rfl, flat_ints _⟩ | exact ⟨eqOk_lst (eqOk_ints _ _), eqOk_nil⟩, ?_⟩)
    conv => whnf
    have hf : (cs.map Dv.int).filterMap (onInt fun i => if (10 : Int) ^ 18 ≤ i then some (.int i) else none) = (cs.filter fun i => decide ((10 : Int) ^ 18 ≤ i)).map Dv.int := by
      rw [fm_ints]
      clear hcs hc0 hcl hb
      induction cs with
      | nil => rfl
      | cons c cs ih =>
        rw [List.filterMap_cons, List.filter_cons]
        by_cases hc : (10 : Int) ^ 18 ≤ c
        · rw [if_pos hc, if_pos (by simpa using hc), List.map_cons, ih]
        · rw [if_neg hc, if_neg (by simpa using hc), ih]
    refine ⟨⟨(cs.filter fun i => decide ((10 : Int) ^ 18 ≤ i)).reverse, b, fun c hc => hc0 c (List.mem_filter.mp (List.mem_reverse.mp hc)).1, ?_, hb⟩, by rw [hf, ← List.map_reverse], rfl, trivial, [], rfl, rfl, k _ _ ⟨_, rfl, rfl⟩⟩
    rw [List.length_reverse]
    have := List.length_filter_le (fun i => decide ((10 : Int) ^ 18 ≤ i)) cs
    omega
/-! sameness -/
mutual
def shOk : Nat → Dv → Bool
  | _, .non => true
  | _, .bl _ => true
  | _, .int _ => true
  | _, .str s => PyData.strOk s
  | n, .tup ds => n != 0 && decide (ds.length ≤ sizeLine) && shOks (n - 1) ds
  | n, .lst ds => n != 0 && decide (ds.length ≤ sizeLine) && shOks (n - 1) ds
  | _, .dic _ _ => false
  | _, .scr _ => false
  | _, .ty _ => false
def shOks : Nat → List Dv → Bool
  | _, [] => true
  | n, d :: ds => shOk n d && shOks n ds
end
mutual
def sameD : Dv → Dv → Bool
  | .non, .non => true
  | .bl a, .bl b => a == b
  | .int i, .int j => i == j
  | .str x, .str y => x == y
  | .tup xs, .tup ys => sameDs xs ys
  | .lst xs, .lst ys => sameDs xs ys
  | _, _ => false
def sameDs : List Dv → List Dv → Bool
  | [], [] => true
  | x :: xs, y :: ys => sameD x y && sameDs xs ys
  | _, _ => false
end
mutual
theorem sameD_refl : ∀ (n : Nat) (d : Dv), shOk n d = true → sameD d d = true
  | _, .non, _ => rfl
  | _, .bl _, _ => by simp [sameD]
  | _, .int _, _ => by simp [sameD]
  | _, .str _, _ => by simp [sameD]
  | n, .tup ds, h => by
    have h' : (n ≠ 0 ∧ ds.length ≤ sizeLine) ∧ shOks (n - 1) ds = true := by simpa [shOk] using h
    simpa [sameD] using sameDs_refl (n - 1) ds h'.2
  | n, .lst ds, h => by
    have h' : (n ≠ 0 ∧ ds.length ≤ sizeLine) ∧ shOks (n - 1) ds = true := by simpa [shOk] using h
    simpa [sameD] using sameDs_refl (n - 1) ds h'.2
  | _, .dic _ _, h => absurd h (by simp [shOk])
  | _, .scr _, h => absurd h (by simp [shOk])
  | _, .ty _, h => absurd h (by simp [shOk])
theorem sameDs_refl : ∀ (n : Nat) (ds : List Dv), shOks n ds = true → sameDs ds ds = true
  | _, [], _ => rfl
  | n, d :: ds, h => by
    have h' : shOk n d = true ∧ shOks n ds = true := by simpa [shOks] using h
    simp [sameDs, sameD_refl n d h'.1, sameDs_refl n ds h'.2]
end
theorem shOks_iff {n : Nat} : ∀ {ds : List Dv}, shOks n ds = true ↔ ∀ d ∈ ds, shOk n d = true
  | [] => by simp [shOks]
  | d :: ds => by simp [shOks, shOks_iff (n := n) (ds := ds)]
def onPair {α : Type} (f : Dv → Dv → Option α) : Dv → Option α
  | .tup [x, y] => f x y
  | _ => none
theorem pair_int {d e : Dv} (h : onPair (fun x y => if sameD x y = true then none else some (.int 1)) e = some d) : eqOk 59 d = true := by
  unfold onPair at h
  split at h
  · rename_i x y
    cases hs : sameD x y <;> simp [hs] at h
    subst h; exact eqOk_int
  · cases h
theorem same_len : ∀ {xs ys : List Dv}, xs.length ≠ ys.length → sameDs xs ys = false
  | [], [], h => absurd rfl h
  | [], _ :: _, _ => rfl
  | _ :: _, [], _ => rfl
  | x :: xs, y :: ys, h => by simp [sameDs, same_len (xs := xs) (ys := ys) (by simpa using h)]
theorem same_zip : ∀ {xs ys : List Dv}, xs.length = ys.length → ((zipD xs ys).filterMap (onPair fun x y => if sameD x y = true then none else some (Dv.int 1))).isEmpty = sameDs xs ys
  | [], [], _ => rfl
  | x :: xs, y :: ys, h => by
    have ih := same_zip (xs := xs) (ys := ys) (by simpa using h)
    show ((Dv.tup [x, y] :: zipD xs ys).filterMap _).isEmpty = _
    rw [List.filterMap_cons]
    cases hs : sameD x y with
    | true => simp [onPair, hs, sameDs, ih]
    | false => simp [onPair, hs, sameDs]
def S_sm : Nat → FS
  | 0 => fun _ _ => False
  | n + 1 => spN (fun p : Dv × Dv => [.fz p.1, .fz p.2]) (fun p => shOk n p.1 = true ∧ shOk n p.2 = true) (fun p r outs => r = .fz (.bl (sameD p.1 p.2)) ∧ outs = [])
@[irreducible] def S_same (n : Nat) : FS := S_sm n
theorem mono_same {n : Nat} : FMono (S_same n) := by
  unfold S_same
  cases n with
  | zero => exact fun _ _ _ _ h => h
  | succ n => exact spN_mono
theorem len_same {n : Nat} : ∀ δ W, S_same n δ W → δ.length = 2 := by
  unfold S_same
  cases n with
  | zero => exact fun _ _ h => h.elim
  | succ n => exact spN_len fun _ => rfl
theorem use_same {n : Nat} {a b : Dv} {W : Sl → List Sl → Prop} (ha : shOk n a = true) (hb : shOk n b = true) (k : W (.fz (.bl (sameD a b))) []) : S_same (n + 1) [.fz a, .fz b] W := by
  unfold S_same
  exact ⟨(a, b), rfl, ⟨ha, hb⟩, fun r outs ⟨e1, e2⟩ => by subst e1; subst e2; exact k⟩
def t_law_same (S : FS) : DTS := (dSeq (dIf (dTru (dIsi2 "tuple" "list" (dVar 1)))
  (dSeq (dIf (dOr (dNot (dTru (dIsi2 "tuple" "list" (dVar 0)))) (dTest (dBin neF (dB isiF (dCons (dVar 0) (dCons (dC (.ty "tuple")) dNil))) (dB isiF (dCons (dVar 1) (dCons (dC (.ty "tuple")) dNil))))))
  (dRet (dC (.bl false)))
  dNext)
  (dRet (dAndV (dBin eqF (dB lenF (dCons (dVar 0) dNil)) (dB lenF (dCons (dVar 1) dNil))) (dBin eqF (dLC (dZip (dCons (dVar 0) (dCons (dVar 1) dNil))) (dUnp 2 (gsCons (dName 2) (gsCons (dName 3) gsNil))) (dNot (dTru (dCall S (dCons (dVar 2) (dCons (dVar 3) dNil))))) (dC (.int 1)) [2, 3]) (dLst dNil)))))
  dNext)
  (dSeq (dIf (dOr (dTest (dBin isF (dVar 1) (dC .non))) (dTru (dB isiF (dCons (dVar 1) (dCons (dC (.ty "bool")) dNil)))))
  (dRet (dAndV (dBin eqF (dBin isF (dVar 0) (dC .non)) (dBin isF (dVar 1) (dC .non))) (dAndV (dBin eqF (dB isiF (dCons (dVar 0) (dCons (dC (.ty "bool")) dNil))) (dB isiF (dCons (dVar 1) (dCons (dC (.ty "bool")) dNil)))) (dBin eqF (dVar 0) (dVar 1)))))
  dNext)
  (dSeq (dIf (dTru (dB isiF (dCons (dVar 1) (dCons (dC (.ty "int")) dNil))))
  (dRet (dAndV (dB isiF (dCons (dVar 0) (dCons (dC (.ty "int")) dNil))) (dAndV (dNotV (dB isiF (dCons (dVar 0) (dCons (dC (.ty "bool")) dNil)))) (dBin eqF (dVar 0) (dVar 1)))))
  dNext)
  (dRet (dAndV (dB isiF (dCons (dVar 0) (dCons (dC (.ty "str")) dNil))) (dBin eqF (dVar 0) (dVar 1)))))))
theorem sem_law_same (n : Nat) : ∀ δ W, δ.length = 2 → S_same (n + 1) δ W → t_law_same (S_same n) { nx := endD 0 W (.fz .non), rt := endD 0 W } (startD 4 δ) := by
  intro δ W _ h
  unfold S_same at h
  obtain ⟨⟨a, b⟩, rfl, ⟨h1, h2⟩, k⟩ := h
  change t_law_same _ _ [some (.fz a), some (.fz b), none, none]
  cases b with
  | dic => simp [shOk] at h2
  | scr => simp [shOk] at h2
  | ty => simp [shOk] at h2
  | non =>
    cases a with
    | dic => simp [shOk] at h1
    | scr => simp [shOk] at h1
    | ty => simp [shOk] at h1
    | _ =>
      repeat ((conv => whnf); show _ ∧ _; refine ⟨by first | rfl | trivial | decide | exact Nat.le_of_ble_eq_true rfl | exact .inl ⟨rfl, rfl⟩ | exact .inl ⟨rfl, flat_ints _⟩ | exact ⟨eqOk_lst (eqOk_ints _ _), eqOk_nil⟩, ?_⟩)
      conv => whnf
      exact ⟨[], rfl, rfl, k _ _ ⟨by simp [sameD, eqB, toP, PyData.eqv, isNoneD, isA], rfl⟩⟩
  | bl c =>
    cases a with
    | dic => simp [shOk] at h1
    | scr => simp [shOk] at h1
    | ty => simp [shOk] at h1
    | _ =>
      repeat ((conv => whnf); show _ ∧ _; refine ⟨by first | rfl | trivial | decide | exact Nat.le_of_ble_eq_true rfl | exact .inl ⟨rfl, rfl⟩ | exact .inl ⟨rfl, flat_ints _⟩ | exact ⟨eqOk_lst (eqOk_ints _ _), eqOk_nil⟩, ?_⟩)
      conv => whnf
      exact ⟨[], rfl, rfl, k _ _ ⟨by simp [sameD, eqB, toP, PyData.eqv, isNoneD, isA], rfl⟩⟩
  | int c =>
    cases a with
    | dic => simp [shOk] at h1
    | scr => simp [shOk] at h1
    | ty => simp [shOk] at h1
    | _ =>
      repeat ((conv => whnf); show _ ∧ _; refine ⟨by first | rfl | trivial | decide | exact Nat.le_of_ble_eq_true rfl | exact .inl ⟨rfl, rfl⟩ | exact .inl ⟨rfl, flat_ints _⟩ | exact ⟨eqOk_lst (eqOk_ints _ _), eqOk_nil⟩, ?_⟩)
      conv => whnf
      exact ⟨[], rfl, rfl, k _ _ ⟨by simp [sameD, eqB, toP, PyData.eqv, isNoneD, isA], rfl⟩⟩
  | str c =>
    cases a with
    | dic => simp [shOk] at h1
    | scr => simp [shOk] at h1
    | ty => simp [shOk] at h1
    | _ =>
      repeat ((conv => whnf); show _ ∧ _; refine ⟨by first | rfl | trivial | decide | exact Nat.le_of_ble_eq_true rfl | exact .inl ⟨rfl, rfl⟩ | exact .inl ⟨rfl, flat_ints _⟩ | exact ⟨eqOk_lst (eqOk_ints _ _), eqOk_nil⟩, ?_⟩)
      conv => whnf
      exact ⟨[], rfl, rfl, k _ _ ⟨by simp [sameD, eqB, toP, PyData.eqv, isNoneD, isA], rfl⟩⟩
  | tup ys =>
    cases a with
    | dic => simp [shOk] at h1
    | scr => simp [shOk] at h1
    | ty => simp [shOk] at h1
    | tup xs =>
      have g1 : (n ≠ 0 ∧ xs.length ≤ sizeLine) ∧ shOks (n - 1) xs = true := by simpa [shOk] using h1
      have g2 : (n ≠ 0 ∧ ys.length ≤ sizeLine) ∧ shOks (n - 1) ys = true := by simpa [shOk] using h2
      repeat ((conv => whnf); show _ ∧ _; refine ⟨by first | rfl | trivial | decide | exact Nat.le_of_ble_eq_true rfl | exact .inl ⟨rfl, rfl⟩ | exact .inl ⟨rfl, flat_ints _⟩ | exact ⟨eqOk_lst (eqOk_ints _ _), eqOk_nil⟩, ?_⟩)
      conv => whnf
      refine by_test (fun h => ?_) fun h => ?_
      · have hl : xs.length = ys.length := by rw [eqB_int] at h; have h : (xs.length : Int) = ys.length := (by simpa using h); omega
        repeat ((conv => whnf); show _ ∧ _; refine ⟨by first | rfl | trivial | decide | exact Nat.le_of_ble_eq_true rfl | exact .inl ⟨rfl, rfl⟩ | exact .inl ⟨rfl, flat_ints _⟩ | exact ⟨eqOk_lst (eqOk_ints _ _), eqOk_nil⟩, ?_⟩)
        conv => whnf
        refine lc_pure (onPair fun x y => if sameD x y = true then none else some (.int 1)) (fun v hv => ?_) ?_ ?_ ?_
        · rcases List.mem_cons.mp hv with rfl | hv
          · exact .inl rfl
          · cases List.mem_singleton.mp hv; exact .inl rfl
        · rw [zipD, List.length_map, List.length_zip]; omega
        · intro d hd A B hA hB
          obtain ⟨⟨x, y⟩, hxy, rfl⟩ := List.mem_map.mp hd
          have hx := shOks_iff.mp g1.2 x (List.of_mem_zip hxy).1
          have hy := shOks_iff.mp g2.2 y (List.of_mem_zip hxy).2
          repeat ((conv => whnf); show _ ∧ _; refine ⟨by first | rfl | trivial | decide | exact Nat.le_of_ble_eq_true rfl | exact .inl ⟨rfl, rfl⟩ | exact .inl ⟨rfl, flat_ints _⟩ | exact ⟨eqOk_lst (eqOk_ints _ _), eqOk_nil⟩, ?_⟩)
          conv => whnf
          obtain ⟨m, rfl⟩ : ∃ m, n = m + 1 := ⟨n - 1, by omega⟩
          refine use_same hx hy ?_
          repeat ((conv => whnf); show _ ∧ _; refine ⟨by first | rfl | trivial | decide | exact Nat.le_of_ble_eq_true rfl | exact .inl ⟨rfl, rfl⟩ | exact .inl ⟨rfl, flat_ints _⟩ | exact ⟨eqOk_lst (eqOk_ints _ _), eqOk_nil⟩, ?_⟩)
          conv => whnf
          cases hs : sameD x y with
          | true =>
            repeat ((conv => whnf); show _ ∧ _; refine ⟨by first | rfl | trivial | decide | exact Nat.le_of_ble_eq_true rfl | exact .inl ⟨rfl, rfl⟩ | exact .inl ⟨rfl, flat_ints _⟩ | exact ⟨eqOk_lst (eqOk_ints _ _), eqOk_nil⟩, ?_⟩)
            conv => whnf
            exact hB (by simp [onPair, hs])
          | false =>
            repeat ((conv => whnf); show _ ∧ _; refine ⟨by first | rfl | trivial | decide | exact Nat.le_of_ble_eq_true rfl | exact .inl ⟨rfl, rfl⟩ | exact .inl ⟨rfl, flat_ints _⟩ | exact ⟨eqOk_lst (eqOk_ints _ _), eqOk_nil⟩, ?_⟩)
            conv => whnf
            exact hA _ (by simp [onPair, hs])
        repeat ((conv => whnf); show _ ∧ _; refine ⟨by first | rfl | trivial | decide | exact Nat.le_of_ble_eq_true rfl | exact .inl ⟨rfl, rfl⟩ | exact .inl ⟨rfl, flat_ints _⟩ | exact ⟨eqOk_lst (eqOk_ints _ _), eqOk_nil⟩, ?_⟩)
        conv => whnf
        refine ⟨⟨eqOk_lst (eqOks_iff.mpr fun d hd => ?_), eqOk_nil⟩, ?_⟩
        · obtain ⟨e, _, he⟩ := List.mem_filterMap.mp hd
          exact pair_int he
        · rw [eqB_nil, same_zip hl]
          exact ⟨trivial, [], rfl, rfl, k _ _ ⟨by simp [sameD], rfl⟩⟩
      · repeat ((conv => whnf); show _ ∧ _; refine ⟨by first | rfl | trivial | decide | exact Nat.le_of_ble_eq_true rfl | exact .inl ⟨rfl, rfl⟩ | exact .inl ⟨rfl, flat_ints _⟩ | exact ⟨eqOk_lst (eqOk_ints _ _), eqOk_nil⟩, ?_⟩)
        conv => whnf
        refine ⟨[], rfl, rfl, k _ _ ⟨?_, rfl⟩⟩
        have hl : xs.length ≠ ys.length := by rw [eqB_int] at h; have h : (xs.length : Int) ≠ ys.length := (by simpa using h); omega
        rw [h]
        simp [sameD, same_len hl]
    | _ =>
      repeat ((conv => whnf); show _ ∧ _; refine ⟨by first | rfl | trivial | decide | exact Nat.le_of_ble_eq_true rfl | exact .inl ⟨rfl, rfl⟩ | exact .inl ⟨rfl, flat_ints _⟩ | exact ⟨eqOk_lst (eqOk_ints _ _), eqOk_nil⟩, ?_⟩)
      conv => whnf
      exact ⟨[], rfl, rfl, k _ _ ⟨by simp [sameD], rfl⟩⟩
  | lst ys =>
    cases a with
    | dic => simp [shOk] at h1
    | scr => simp [shOk] at h1
    | ty => simp [shOk] at h1
    | lst xs =>
      have g1 : (n ≠ 0 ∧ xs.length ≤ sizeLine) ∧ shOks (n - 1) xs = true := by simpa [shOk] using h1
      have g2 : (n ≠ 0 ∧ ys.length ≤ sizeLine) ∧ shOks (n - 1) ys = true := by simpa [shOk] using h2
      repeat ((conv => whnf); show _ ∧ _; refine ⟨by first | rfl | trivial | decide | exact Nat.le_of_ble_eq_true rfl | exact .inl ⟨rfl, rfl⟩ | exact .inl ⟨rfl, flat_ints _⟩ | exact ⟨eqOk_lst (eqOk_ints _ _), eqOk_nil⟩, ?_⟩)
      conv => whnf
      refine by_test (fun h => ?_) fun h => ?_
      · have hl : xs.length = ys.length := by rw [eqB_int] at h; have h : (xs.length : Int) = ys.length := (by simpa using h); omega
        repeat ((conv => whnf); show _ ∧ _; refine ⟨by first | rfl | trivial | decide | exact Nat.le_of_ble_eq_true rfl | exact .inl ⟨rfl, rfl⟩ | exact .inl ⟨rfl, flat_ints _⟩ | exact ⟨eqOk_lst (eqOk_ints _ _), eqOk_nil⟩, ?_⟩)
        conv => whnf
        refine lc_pure (onPair fun x y => if sameD x y = true then none else some (.int 1)) (fun v hv => ?_) ?_ ?_ ?_
        · rcases List.mem_cons.mp hv with rfl | hv
          · exact .inl rfl
          · cases List.mem_singleton.mp hv; exact .inl rfl
        · rw [zipD, List.length_map, List.length_zip]; omega
        · intro d hd A B hA hB
          obtain ⟨⟨x, y⟩, hxy, rfl⟩ := List.mem_map.mp hd
          have hx := shOks_iff.mp g1.2 x (List.of_mem_zip hxy).1
          have hy := shOks_iff.mp g2.2 y (List.of_mem_zip hxy).2
          repeat ((conv => whnf); show _ ∧ _; refine ⟨by first | rfl | trivial | decide | exact Nat.le_of_ble_eq_true rfl | exact .inl ⟨rfl, rfl⟩ | exact .inl ⟨rfl, flat_ints _⟩ | exact ⟨eqOk_lst (eqOk_ints _ _), eqOk_nil⟩, ?_⟩)
          conv => whnf
          obtain ⟨m, rfl⟩ : ∃ m, n = m + 1 := ⟨n - 1, by omega⟩
          refine use_same hx hy ?_
          repeat ((conv => whnf); show _ ∧ _; refine ⟨by first | rfl | trivial | decide | exact Nat.le_of_ble_eq_true rfl | exact .inl ⟨rfl, rfl⟩ | exact .inl ⟨rfl, flat_ints _⟩ | exact ⟨eqOk_lst (eqOk_ints _ _), eqOk_nil⟩, ?_⟩)
          conv => whnf
          cases hs : sameD x y with
          | true =>
            repeat ((conv => whnf); show _ ∧ _; refine ⟨by first | rfl | trivial | decide | exact Nat.le_of_ble_eq_true rfl | exact .inl ⟨rfl, rfl⟩ | exact .inl ⟨rfl, flat_ints _⟩ | exact ⟨eqOk_lst (eqOk_ints _ _), eqOk_nil⟩, ?_⟩)
            conv => whnf
            exact hB (by simp [onPair, hs])
          | false =>
            repeat ((conv => whnf); show _ ∧ _; refine ⟨by first | rfl | trivial | decide | exact Nat.le_of_ble_eq_true rfl | exact .inl ⟨rfl, rfl⟩ | exact .inl ⟨rfl, flat_ints _⟩ | exact ⟨eqOk_lst (eqOk_ints _ _), eqOk_nil⟩, ?_⟩)
            conv => whnf
            exact hA _ (by simp [onPair, hs])
        repeat ((conv => whnf); show _ ∧ _; refine ⟨by first | rfl | trivial | decide | exact Nat.le_of_ble_eq_true rfl | exact .inl ⟨rfl, rfl⟩ | exact .inl ⟨rfl, flat_ints _⟩ | exact ⟨eqOk_lst (eqOk_ints _ _), eqOk_nil⟩, ?_⟩)
        conv => whnf
        refine ⟨⟨eqOk_lst (eqOks_iff.mpr fun d hd => ?_), eqOk_nil⟩, ?_⟩
        · obtain ⟨e, _, he⟩ := List.mem_filterMap.mp hd
          exact pair_int he
        · rw [eqB_nil, same_zip hl]
          exact ⟨trivial, [], rfl, rfl, k _ _ ⟨by simp [sameD], rfl⟩⟩
      · repeat ((conv => whnf); show _ ∧ _; refine ⟨by first | rfl | trivial | decide | exact Nat.le_of_ble_eq_true rfl | exact .inl ⟨rfl, rfl⟩ | exact .inl ⟨rfl, flat_ints _⟩ | exact ⟨eqOk_lst (eqOk_ints _ _), eqOk_nil⟩, ?_⟩)
        conv => whnf
        refine ⟨[], rfl, rfl, k _ _ ⟨?_, rfl⟩⟩
        have hl : xs.length ≠ ys.length := by rw [eqB_int] at h; have h : (xs.length : Int) ≠ ys.length := (by simpa using h); omega
        rw [h]
        simp [sameD, same_len hl]
    | _ =>
      repeat ((conv => whnf); show _ ∧ _; refine ⟨by first | rfl | trivial | decide | exact Nat.le_of_ble_eq_true rfl | exact .inl ⟨rfl, rfl⟩ | exact .inl ⟨rfl, flat_ints _⟩ | exact ⟨eqOk_lst (eqOk_ints _ _), eqOk_nil⟩, ?_⟩)
      conv => whnf
      exact ⟨[], rfl, rfl, k _ _ ⟨by simp [sameD], rfl⟩⟩
theorem inB_ints (x : Int) (ys : List Int) : inB (.int x) (ys.map .int) = decide (x ∈ ys) := by
  unfold inB
  induction ys with
  | nil => rfl
  | cons y ys ih =>
    rw [List.map_cons, List.any_cons, ih, eqB_int]
    by_cases h : x = y
    · subst h; simp
    · simp [h, Ne.symm h, List.mem_cons]
theorem take_at {α : Type} {xs : List α} {i : Nat} {x : α} (h : xs[i]? = some x) : xs.take (i + 1) = xs.take i ++ [x] := by rw [List.take_succ, h]; rfl
theorem same0 {P : Program} {w : World} {K : PySem.W.Frag} {mg : Str → Option Value} {base : Heap} {f : Addr} {fd : FuncData} {ps : List Str} : FnOk P w K mg base CX0 0 f fd ps (spOf K 0 2 (S_same 0)) :=
  have no : ∀ {vs H Q E}, spOf K 0 2 (S_same 0) vs H Q E → False := fun {vs H Q E} h => by
    obtain ⟨_, _, _, _, _, _, _, hf, _⟩ := h
    unfold S_same at hf
    exact hf
  ⟨fun _ _ _ _ h => (no h).elim, fun _ _ _ _ _ _ _ _ _ _ _ _ _ h => (no h).elim⟩
end DL

set_option Elab.async false
set_option linter.all false
set_option maxRecDepth 100000
set_option maxHeartbeats 4000000
/-! DLQ: the law as a def over the script. -/
namespace DL
open PySem L2
/-- what is asked of the def `law`: at a list of at most 63 ints it answers true -/
def lawAsk (K : PySem.W.Frag) : Sp := fun us H Q _ => ∃ (p : Addr) (zs : List Int), (us = [V.ref p] ∧ zs.length ≤ 63) ∧ SqL K H p (zs.map V.int) ∧ ∀ H1, Q (V.bl true) H1
theorem law_sp {K : PySem.W.Frag} {S : FS} (hS : ∀ (ns : List Int) (W : Sl → List Sl → Prop), ns.length ≤ 63 → W (.fz (.bl true)) [] → S [.fz (.scr ns)] W) {vs : List V} {H : Hp} {Q : VK} {E : XK} (h : lawAsk K vs H Q E) : spOf K 0 1 S vs H Q E := by
  obtain ⟨a, ns, ⟨rfl, hl⟩, hs, k⟩ := h
  refine ⟨H, fun _ => none, [.fz (.scr ns)], fun r outs => r = .fz (.bl true) ∧ outs = [], rfl, ⟨H, fun _ => .v (.ref a), ⟨Ex.refl _, Ex.refl _, (fun _ _ e => nomatch e), fun _ _ _ => rfl, rfl, rfl, fun p hp => absurd hp (by simp), fun i s e => ?_, fun x s e => ?_, fun x y s t _ _ _ b hb => absurd hb (by simp [Cn.feet])⟩⟩, fun j s e _ => ?_, hS ns _ hl ⟨rfl, rfl⟩, fun v H1 r outs _ _ S1 hw => ?_⟩
  · match i, e with
    | 0, e => cases e; trivial
    | i + 1, e => exact absurd e (by simp)
  · obtain ⟨i, rfl, e'⟩ := getX_nil e
    match i, e' with
    | 0, e' => cases e'; exact ⟨rfl, ⟨a, rfl, hs⟩, fun b hb => absurd hb (by simp [Cn.feet])⟩
    | i + 1, e' => exact absurd e' (by simp)
  · match j, e with
    | 0, e => cases e; exact ⟨_, rfl⟩
    | j + 1, e => exact absurd e (by simp)
  · obtain ⟨rfl, rfl⟩ := hw
    obtain ⟨F2, cs, S2⟩ := S1
    have := S2.one_look (d := .bl true) rfl
    cases (show v = .bl true from this)
    exact k H1
theorem law_walk {l : PySem.W.OpenLaw} {q : Program} {loose : List Str} {XP : (Str → Option Value) → Heap → Prop} {YP : World → Heap → Prop} {d : DefRec} {K : Params → PySem.W.Frag} {k : Nat} (hk : Room k callerA) (hn : l.most = some 63) (hdf : d.params.defaults = [])
    (hY : ∀ (w : World) (h : Heap), YP w h → (K w.params).In h)
    (F : ∀ (w : World) (mg : Str → Option Value) (fa : Addr) (h : Heap), (K w.params).In h → h.Ns mainGlobals mg → mg d.name = some (.ref fa) →
      ∃ fd : FuncData, (∀ (s : Shared) (u : Value), BindsTo s fd ⟨[u], []⟩ [("script", u)]) ∧ ∀ base : Heap, (K w.params).In base → base.Ns mainGlobals mg → FnOk l.prog w (K w.params) mg base CX0 k fa fd ["script"] (lawAsk (K w.params))) :
    PySem.W.WalkO q loose XP YP l.row.toRowW d [] (fun f vs => PySem.call f vs) :=
  L2.walk_of (CX := fun _ => CX0) (x := "script") (n := 63) (sp := fun w => lawAsk (K w.params)) hn (by decide) hdf hk hY F (fun _ _ a ns hl _ hS => ⟨a, ns, ⟨rfl, hl⟩, hS, fun _ => rfl⟩) fun _ _ _ _ _ z => z
end DL

set_option Elab.async false
set_option linter.all false
set_option maxRecDepth 100000
set_option maxHeartbeats 4000000
/-! DLR: comprehensions of two clauses. -/
namespace DL
open PySem L2
open Classical in
/-- the same where the names' values may change meanwhile -/
theorem SimW.holdS {K : PySem.W.Frag} {c : Ctx} {σ : St} {H : Hp} {δ : DS} {vs : List V} {ss : List Sl} {F : Hp} {cs : Nat ⊕ Nat → Cn} (S : SimW K c σ H δ vs ss F cs) (hs : ∀ s ∈ ss, s.slot) :
    ∃ R' : Hp, Ex c.R R' ∧ SimW K ⟨F, R', c.P⟩ σ H δ [] [] F cs ∧ ∀ {F' : Hp} {σ2 : St} {H2 : Hp} {δ2 : DS} {vs2 : List V} {ss2 : List Sl}, Ex F F' → Sim K ⟨F', R', c.P⟩ σ2 H2 δ2 vs2 ss2 → Sim K ⟨F', c.R, c.P⟩ σ2 H2 δ2 (vs ++ vs2) (ss ++ ss2) := by
  let P : Addr → Prop := fun a => ∃ j s, ss[j]? = some s ∧ a ∈ (cs (.inr j)).feet
  let R : Hp := fun a => if P a then H a else c.R a
  have foot : ∀ a, P a → ∃ o, H a = some o := fun a ⟨j, s, e, ha⟩ => (S.here (.inr j) s e).2.1.foot a ha
  have Rin : ∀ {a}, P a → R a = H a := fun {a} h => if_pos h
  have Rout : ∀ {a}, ¬ P a → R a = c.R a := fun {a} h => if_neg h
  have cR : ∀ a, P a → c.R a = none ∧ F a = none := fun a ⟨j, s, e, ha⟩ => let ⟨q1, q2⟩ := (S.here (.inr j) s e).2.2 a ha; ⟨q2, q1⟩
  have leR : Ex c.R R := fun a o e => by
    by_cases h : P a
    · rw [(cR a h).1] at e; cases e
    · rw [Rout h]; exact e
  refine ⟨R, leR, ⟨Ex.refl _, S.FH, fun a o e => ?_, fun a o e => ?_, S.len, rfl, S.pin, S.noal, fun x s e => ?_, fun x y s t ne e1 e2 => ?_⟩, ?_⟩
  · by_cases h : P a
    · rw [← Rin h]; exact e
    · have e' : R a = some o := e
      rw [Rout h] at e'; exact S.RH _ _ e'
  · have h : ¬ P a := fun h => by rw [(cR a h).2] at e; cases e
    show R a = none
    rw [Rout h]; exact S.FR a o e
  · obtain ⟨i, hx, e'⟩ := getX_nil e
    subst hx
    have e2 := getX_inl (ss := ss).mpr e'
    obtain ⟨h1, h2, h3⟩ := S.here (.inl i) s e2
    refine ⟨h1, h2, fun a ha => ⟨(h3 a ha).1, ?_⟩⟩
    have h : ¬ P a := fun ⟨j, t, e3, hb⟩ => S.apart (.inl i) (.inr j) s t (by intro q; cases q) e2 e3 a ha hb
    show R a = none
    rw [Rout h]; exact (h3 a ha).2
  · obtain ⟨i, hx, e1'⟩ := getX_nil e1
    obtain ⟨j, hy, e2'⟩ := getX_nil e2
    subst hx hy
    exact S.apart _ _ s t ne (getX_inl.mpr e1') (getX_inl.mpr e2')
  · rintro F' σ2 H2 δ2 vs2 ss2 hF ⟨F2, cs2, T⟩
    have TF : Ex F F2 := hF.trans T.fF
    have TR : Ex R H2 := T.RH
    have keepH : ∀ a, P a → H2 a = H a := fun a h => by
      obtain ⟨o, e⟩ := foot a h
      rw [e]; exact TR a o ((Rin h).trans e)
    have keepF : ∀ a, P a → F2 a = none := fun a h => by
      obtain ⟨o, e⟩ := foot a h
      cases q : F2 a with
      | none => rfl
      | some u =>
        have this : R a = none := T.FR a u q
        rw [show R a = some o from (Rin h).trans e] at this; cases this
    let cc : Nat ⊕ Nat → Cn := fun x => match x with
      | .inl i => cs2 (.inl i)
      | .inr j => if j < ss.length then cs (.inr j) else cs2 (.inr (j - ss.length))
    have getr : ∀ j s, (ss ++ ss2)[j]? = some s → (j < ss.length ∧ ss[j]? = some s ∧ cc (.inr j) = cs (.inr j)) ∨ (ss.length ≤ j ∧ ss2[j - ss.length]? = some s ∧ cc (.inr j) = cs2 (.inr (j - ss.length))) := fun j s e => by
      by_cases h : j < ss.length
      · rw [List.getElem?_append_left h] at e
        exact .inl ⟨h, e, if_pos h⟩
      · rw [List.getElem?_append_right (by omega)] at e
        exact .inr ⟨by omega, e, if_neg h⟩
    refine ⟨F2, cc, ⟨T.fF, T.FH, leR.trans T.RH, fun a o e => leR.free (T.FR a o e), T.len, by rw [List.length_append, List.length_append, S.rlen, T.rlen], T.pin, T.noal, fun x s e => ?_, fun x y s t ne e1 e2 => ?_⟩⟩
    · cases x with
      | inl i =>
        have e' := getX_inl.mp e
        obtain ⟨h1, h2, h3⟩ := T.here (.inl i) s (getX_inl.mpr e')
        exact ⟨h1, h2, fun a ha => ⟨(h3 a ha).1, leR.free (h3 a ha).2⟩⟩
      | inr j =>
        rcases getr j s e with ⟨hj, e1, ec⟩ | ⟨hj, e1, ec⟩
        · obtain ⟨h1, h2, h3⟩ := S.here (.inr j) s e1
          rw [ec]
          refine ⟨?_, (h2.stay TF fun a ha => keepH a ⟨j, s, e1, ha⟩).sig (hs s (List.mem_of_getElem? e1)), fun a ha => ⟨keepF a ⟨j, s, e1, ha⟩, (h3 a ha).2⟩⟩
          show (vs ++ vs2)[j]? = _
          rw [List.getElem?_append_left (by rw [S.rlen]; exact hj)]
          exact h1
        · obtain ⟨h1, h2, h3⟩ := T.here (.inr (j - ss.length)) s e1
          rw [ec]
          refine ⟨?_, h2, fun a ha => ⟨(h3 a ha).1, leR.free (h3 a ha).2⟩⟩
          show (vs ++ vs2)[j]? = _
          rw [List.getElem?_append_right (by rw [S.rlen]; exact hj), S.rlen]
          exact h1
    · have mix : ∀ (i : Nat ⊕ Nat) (s : Sl) (j : Nat) (t : Sl), getX δ2 ss2 i = some s → ss[j]? = some t → ∀ a ∈ (cs2 i).feet, a ∉ (cs (.inr j)).feet := fun i s j t e1 e2 a ha hb => by
        have q := (T.here i s e1).2.2 a ha
        obtain ⟨o, e⟩ := foot a ⟨j, t, e2, hb⟩
        have : R a = none := q.2
        rw [Rin ⟨j, t, e2, hb⟩, e] at this; cases this
      cases x with
      | inl i =>
        have f1 : getX δ2 ss2 (.inl i) = some s := getX_inl.mpr (getX_inl.mp e1)
        cases y with
        | inl j => exact T.apart _ _ s t ne f1 (getX_inl.mpr (getX_inl.mp e2))
        | inr j =>
          rcases getr j t e2 with ⟨hj, e3, ec⟩ | ⟨hj, e3, ec⟩
          · rw [ec]; exact mix _ s j t f1 e3
          · rw [ec]; exact T.apart (.inl i) (.inr (j - ss.length)) s t (by intro q; cases q) f1 e3
      | inr i =>
        rcases getr i s e1 with ⟨hi, e3, ec⟩ | ⟨hi, e3, ec⟩
        · rw [ec]
          cases y with
          | inl j => exact fun a ha hb => mix _ t i s (getX_inl.mpr (getX_inl.mp e2)) e3 a hb ha
          | inr j =>
            rcases getr j t e2 with ⟨hj, e4, ed⟩ | ⟨hj, e4, ed⟩
            · rw [ed]; exact S.apart (.inr i) (.inr j) s t ne e3 e4
            · rw [ed]; exact fun a ha hb => mix (.inr (j - ss.length)) t i s e4 e3 a hb ha
        · rw [ec]
          cases y with
          | inl j => exact T.apart (.inr (i - ss.length)) (.inl j) s t (by intro q; cases q) e3 (getX_inl.mpr (getX_inl.mp e2))
          | inr j =>
            rcases getr j t e2 with ⟨hj, e4, ed⟩ | ⟨hj, e4, ed⟩
            · rw [ed]; exact mix (.inr (i - ss.length)) s j t e3 e4
            · rw [ed]
              refine T.apart (.inr (i - ss.length)) (.inr (j - ss.length)) s t (fun q => ne ?_) e3 e4
              have := Sum.inr.inj q
              have : i = j := by omega
              rw [this]
theorem Sim.pinned {K : PySem.W.Frag} {F R : Hp} {P : List (Nat × V)} {σ : St} {H : Hp} {δ : DS} {vs : List V} {ss : List Sl} (S : Sim K ⟨F, R, []⟩ σ H δ vs ss) (h : ∀ p ∈ P, σ[p.1]? = some (some p.2)) : Sim K ⟨F, R, P⟩ σ H δ vs ss := by
  obtain ⟨F2, cs, S⟩ := S
  exact ⟨F2, cs, ⟨S.fF, S.FH, S.RH, S.FR, S.len, S.rlen, h, S.noal, S.here, S.apart⟩⟩
theorem Sim.unpinned {K : PySem.W.Frag} {F R : Hp} {P : List (Nat × V)} {σ : St} {H : Hp} {δ : DS} {vs : List V} {ss : List Sl} (S : Sim K ⟨F, R, P⟩ σ H δ vs ss) : Sim K ⟨F, R, []⟩ σ H δ vs ss := by
  obtain ⟨F2, cs, S⟩ := S
  exact ⟨F2, cs, ⟨S.fF, S.FH, S.RH, S.FR, S.len, S.rlen, fun p hp => absurd hp (by simp), S.noal, S.here, S.apart⟩⟩
/-- the item behind the list goes into it -/
theorem Sim.into {K : PySem.W.Frag} {c : Ctx} {σ : St} {H : Hp} {δ : DS} {D : Addr} {v : V} {acc : List Dv} {e : Dv} (S : Sim K c σ H δ [.ref D, v] [.ml acc, .fz e]) : ∃ xs, H D = some (.lst xs) ∧ xs.length = acc.length ∧ Sim K c σ (upd H D (.lst (xs ++ [v]))) δ [.ref D] [.ml (acc ++ [e])] := by
  obtain ⟨F11, cs11, T11⟩ := S
  obtain ⟨r1, r2, r3⟩ := T11.here (.inr 0) (.ml acc) rfl
  obtain ⟨p1, p2, p3⟩ := T11.here (.inr 1) (.fz e) rfl
  have hc1 : cs11 (.inr 0) = .l D := by
    generalize cs11 (Sum.inr 0) = n at r1 r2
    cases n with
    | l p => have : V.ref D = V.ref p := by injection r1
             cases this; rfl
    | _ => exact r2.elim
  rw [hc1] at r2 r3
  obtain ⟨xs, hx, hr⟩ := r2
  have hv : Rep K F11 e v := by
    generalize cs11 (Sum.inr 1) = n at p1 p2
    cases n with
    | v z => have : v = z := by injection p1
             rw [this]; exact p2
    | _ => exact p2.elim
  have fD := r3 D (by simp [Cn.feet])
  refine ⟨xs, hx, (Reps.length hr).symm, ?_⟩
  have hr2 : Reps K F11 (acc ++ [e]) (xs ++ [v]) := hr.append (Reps.cons hv Reps.nil)
  let cc : Nat ⊕ Nat → Cn := fun x => match x with
    | .inl i => cs11 (.inl i)
    | .inr _ => .l D
  have offD : ∀ (j : Nat) (s : Sl), δ[j]? = some (some s) → ∀ a ∈ (cs11 (.inl j)).feet, a ≠ D := fun j s q a ha z => by
    subst z
    exact T11.apart (.inl j) (.inr 0) s (.ml acc) (by intro q; cases q) (getX_inl.mpr q) rfl a ha (by rw [hc1]; simp [Cn.feet])
  refine ⟨F11, cc, ⟨T11.fF, T11.FH.mut fD.1, T11.RH.mut fD.2, T11.FR, T11.len, rfl, T11.pin, T11.noal, fun x s q => ?_, fun x y s t ne q1 q2 => ?_⟩⟩
  · rcases getX_one q with ⟨j, rfl, q'⟩ | ⟨rfl, rfl⟩
    · obtain ⟨k1, k2, k3⟩ := T11.at q'
      exact ⟨valX_inl.mpr k1, k2.stay (Ex.refl _) fun a ha => upd_ne (offD j s q' a ha), k3⟩
    · exact ⟨rfl, ⟨_, upd_same, hr2⟩, fun a ha => by
        have : a = D := by simpa using (show a ∈ [D] from ha)
        subst this; exact fD⟩
  · rcases getX_one q1 with ⟨j, rfl, q1'⟩ | ⟨rfl, rfl⟩
    · rcases getX_one q2 with ⟨j', rfl, q2'⟩ | ⟨rfl, rfl⟩
      · exact T11.apart _ _ s t ne (getX_inl.mpr q1') (getX_inl.mpr q2')
      · intro a ha hb
        exact offD j s q1' a ha (by simpa using (show a ∈ [D] from hb))
    · rcases getX_one q2 with ⟨j', rfl, q2'⟩ | ⟨rfl, rfl⟩
      · intro a ha hb
        exact offD j' t q2' a hb (by simpa using (show a ∈ [D] from ha))
      · exact absurd rfl ne
/-! ### two clauses -/
@[irreducible] def LcB2 (g : DG) (tt : DTB) (wi1 : DTI) (g1 : DG) (tt1 : DTB) (te : DT) (vs vs1 : List Nat) (items : List Dv) (δ1 : DS) (Q : Sl → DS → Prop) : Prop := plainAt δ1 vs ∧ ∃ I : Nat → List Dv → DS → Prop, I 0 [] δ1 ∧
  (∀ i d acc δ2, items[i]? = some d → I i acc δ2 → plainAt δ2 vs ∧ g (.fz d) (wipeD δ2 vs) fun δ3 => tt δ3 fun b δ4 =>
    if b = true then wi1 δ4 fun items1 δ5 => ∃ J : Nat → List Dv → DS → Prop, J 0 acc δ5 ∧
      (∀ j e acc1 δ6, items1[j]? = some e → J j acc1 δ6 → plainAt δ6 vs1 ∧ g1 (.fz e) (wipeD δ6 vs1) fun δ7 => tt1 δ7 fun b1 δ8 =>
        if b1 = true then te δ8 fun s δ9 => match fzR s δ9 with
          | some (x, δ10) => acc1.length < sizeLine ∧ J (j + 1) (acc1 ++ [x]) (backD δ10 δ6 vs1)
          | none => False
        else J (j + 1) acc1 (backD δ8 δ6 vs1)) ∧
      ∀ acc1 δ6, J items1.length acc1 δ6 → I (i + 1) acc1 (backD δ6 δ2 vs)
    else I (i + 1) acc (backD δ4 δ2 vs)) ∧
  ∀ acc δ2, I items.length acc δ2 → Q (.ml acc) δ2
def dLC2 (wi : DTI) (g : DG) (tt : DTB) (wi1 : DTI) (g1 : DG) (tt1 : DTB) (te : DT) (vs vs1 : List Nat) : DT := fun δ Q => wi δ fun items δ1 => LcB2 g tt wi1 g1 tt1 te vs vs1 items δ1 Q
theorem lc2_sem {K : PySem.W.Frag} {wi wi1 : DTI} {g g1 : DG} {tt tt1 : DTB} {te : DT} {own vs1 ixs ixs1 : List Nat} (hix : ∀ i ∈ ixs, i ∈ own) (hix1 : ∀ i ∈ ixs1, i ∈ vs1) {σ : St} {H : Hp} {Q : VK} (h : liftE K (dLC2 wi g tt wi1 g1 tt1 te own vs1) σ H Q) :
    tLc2 (liftI K wi) (liftG K [] ixs g) (liftT K tt) (liftI K wi1) (liftG K [] ixs1 g1) (liftT K tt1) (liftE K te) own vs1 σ H Q := by
  obtain ⟨c, δ, W, S, ht, k⟩ := h
  refine ⟨c, δ, _, S, ht, fun J H1 δ1 items c' le S1 w hb D hD => ?_⟩
  unfold LcB2 at hb
  obtain ⟨hp1, I, i0, turn, fin⟩ := hb
  obtain ⟨F1, cs1, T1⟩ := S1
  have start : Sim K c' σ (upd H1 D (.lst [])) δ1 [.ref D] [.ml []] := T1.resL hD Reps.nil
  refine ⟨fun i m H => m = items.length - i ∧ i ≤ items.length ∧ ∃ acc δ, Sim K c' σ H δ [.ref D] [.ml acc] ∧ I i acc δ, ⟨items.length, by simp, Nat.zero_le _, [], δ1, start, i0⟩, ?_⟩
  rintro i m H ⟨rfl, hi, acc, δ2, S2, hI⟩
  obtain ⟨w1, w2, w3⟩ := w i c' σ H δ2 (Ex.refl _) S2.bare
  by_cases hlt : i < items.length
  · refine .inr ⟨w1 hlt, fun H => ∃ acc δ, Sim K c' σ H δ [.ref D] [.ml acc] ∧ I (i + 1) acc δ, fun H' q => ⟨_, by omega, rfl, hlt, q⟩, fun x H' y => ?_⟩
    obtain ⟨hp2, ht2⟩ := turn i _ acc δ2 (List.getElem?_eq_getElem hlt) hI
    obtain ⟨F2, cs2, T2⟩ := S2
    have hpin := T2.pin
    obtain ⟨c2, l2, ef2, T3, back⟩ := T2.hold
    have S3 : Sim K c2 σ H' δ2 [x] [.fz _] := (w i c2 σ H δ2 l2.F ⟨F2, cs2, T3⟩).2.2 x H' _ (List.getElem?_eq_getElem hlt) y
    have S4 : Sim K ⟨c'.F, c'.R, []⟩ σ H' δ2 [.ref D, x] [.ml acc, .fz _] := Sim.unpinned (P := c'.P) (back S3)
    obtain ⟨Fb, csb, Tb⟩ := S4
    obtain ⟨x', ex, rx⟩ := Tb.know.repR (j := 1) rfl
    cases ex
    obtain ⟨Fd, csd, Td⟩ := Tb.know.perm (pm := [0]) (by decide) (by simp)
    have Td : SimW K ⟨Fb, c'.R, []⟩ σ H' δ2 [.ref D] [.ml acc] Fd csd := Td
    obtain ⟨R3, lR, T3', back3⟩ := Td.know.holdS (by intro s hs; simp at hs; subst hs; trivial)
    obtain ⟨F4, cs4, T4⟩ := T3'.resFz (rx.mono Td.fF)
    have hF4 : Ex Fd F4 := T4.fF
    have T5 := T4.wipe own (by intro s hs; simp at hs; subst hs; trivial)
    refine ⟨F4, R3, wipeD δ2 own, _, _, ⟨F4, cs4, T5⟩, ht2, fun σ6 H6 δ6 but S6 h6 => ?_⟩
    have hw : L2.wipe σ6 own = L2.wipe σ own := But.wipe0 but hix
    have hw' : L2.wipe σ6 own = L2.wipe (L2.wipe σ own) own := by rw [hw]; exact (But.wipe0 (But.refl ixs _) hix).symm
    have home : ∀ {H7 : Hp} {δ7 : DS} {acc1 : List Dv}, Sim K ⟨Fd, c'.R, []⟩ σ6 H7 δ7 [.ref D] [.ml acc1] → Sim K c' σ H7 (backD δ7 δ2 own) [.ref D] [.ml acc1] := fun {H7 δ7 acc1} ⟨F7, cs7, T7⟩ => by
      have S8 := Td.bare.unwipe own hp2 T7 hw (by intro s hs; simp at hs; subst hs; trivial)
      exact Sim.pinned (P := c'.P) (S8.weak ⟨Tb.fF, Ex.refl _, rfl⟩) hpin
    refine ⟨by rw [hw]; try exact hw', ⟨F4, R3, []⟩, δ6, _, S6, h6, fun b H7 δ7 S7 h7 => ?_⟩
    cases b with
    | false => exact ⟨acc, _, home (back3 (Ex.refl _) (S7.weak ⟨hF4, Ex.refl _, rfl⟩)), h7⟩
    | true =>
      refine ⟨⟨F4, R3, []⟩, δ7, _, S7, h7, fun J1 H8 δ8 items1 c5 le5 S8 w5 ⟨J, j0, turn1, fin1⟩ => ?_⟩
      have hF5 : Ex Fd c5.F := hF4.trans le5.F
      have S9 : Sim K ⟨c5.F, c'.R, []⟩ σ6 H8 δ8 [.ref D] [.ml acc] := back3 hF5 (S8.weak ⟨Ex.refl _, le5.R, le5.P⟩)
      refine ⟨fun j k H => k = items1.length - j ∧ j ≤ items1.length ∧ ∃ acc δ, Sim K ⟨c5.F, c'.R, []⟩ σ6 H δ [.ref D] [.ml acc] ∧ J j acc δ, ⟨items1.length, by simp, Nat.zero_le _, acc, δ8, S9, j0⟩, ?_⟩
      rintro j k H ⟨rfl, hj, acc1, δ9, S10, hJ⟩
      obtain ⟨v1, v2, v3⟩ := w5 j ⟨c5.F, c'.R, []⟩ σ6 H δ9 (Ex.refl _) S10.bare
      by_cases hlt1 : j < items1.length
      · refine .inr ⟨v1 hlt1, fun H => ∃ acc δ, Sim K ⟨c5.F, c'.R, []⟩ σ6 H δ [.ref D] [.ml acc] ∧ J (j + 1) acc δ, fun H' q => ⟨_, by omega, rfl, hlt1, q⟩, fun x1 H9 y1 => ?_⟩
        obtain ⟨hp9, ht9⟩ := turn1 j _ acc1 δ9 (List.getElem?_eq_getElem hlt1) hJ
        obtain ⟨F10, cs10, T10⟩ := S10
        obtain ⟨c11, l11, ef11, T11, back11⟩ := T10.hold
        have S11 : Sim K c11 σ6 H9 δ9 [x1] [.fz _] := (w5 j c11 σ6 H δ9 l11.F ⟨F10, cs10, T11⟩).2.2 x1 H9 _ (List.getElem?_eq_getElem hlt1) y1
        obtain ⟨F12, cs12, T12⟩ := S11
        have T13 := T12.wipe vs1 (by intro s hs; simp at hs; subst hs; trivial)
        refine ⟨F12, c11.R, wipeD δ9 vs1, _, _, ⟨F12, cs12, T13⟩, ht9, fun σ14 H14 δ14 but1 S14 h14 => ?_⟩
        have hw1 : L2.wipe σ14 vs1 = L2.wipe σ6 vs1 := But.wipe0 but1 hix1
        have hw1' : L2.wipe σ14 vs1 = L2.wipe (L2.wipe σ6 vs1) vs1 := by rw [hw1]; exact (But.wipe0 (But.refl ixs1 _) hix1).symm
        refine ⟨by first | exact hw1 | (rw [hw1]; exact hw1'), ⟨F12, c11.R, []⟩, δ14, _, S14, h14, fun b H15 δ15 S15 h15 => ?_⟩
        cases b with
        | false =>
          obtain ⟨F15, cs15, T15⟩ := S15
          have S16 : Sim K c11 σ6 H15 (backD δ15 δ9 vs1) [] [] := T12.bare.unwipe vs1 hp9 T15 hw1 (by intro s hs; simp at hs)
          have S17 := back11 S16
          simp only [List.append_nil] at S17
          exact ⟨acc1, _, S17, h15⟩
        | true =>
          refine ⟨⟨F12, c11.R, []⟩, δ15, _, S15, h15, fun v H16 δ16 s S16 h16 => ?_⟩
          split at h16
          · rename_i e δ17 ef
            obtain ⟨F17, cs17, T17⟩ := S16.fz ef
            have S18 : Sim K c11 σ6 H16 (backD δ17 δ9 vs1) [v] [.fz e] := T12.bare.unwipe vs1 hp9 T17 hw1 (by intro s hs; simp at hs; subst hs; trivial)
            obtain ⟨xs, hx, hl, S19⟩ := Sim.into (back11 S18)
            exact ⟨xs, hx, by rw [hl]; exact h16.1, acc1 ++ [e], _, S19, h16.2⟩
          · exact h16.elim
      · have e : j = items1.length := by omega
        subst e
        exact .inl ⟨v2 rfl, acc1, _, home (S10.weak ⟨hF5, Ex.refl _, rfl⟩), fin1 acc1 δ9 hJ⟩
  · have e : i = items.length := by omega
    subst e
    exact .inl ⟨w2 rfl, k _ H δ2 _ (S2.weak le) (fin acc δ2 hI)⟩
section
variable {X : Cx}
theorem de_lc2 {elt tg iter tg1 iter1 : Expr} {ifs ifs1 : List Expr} {scope : Scope} {own : List (Str × Nat)} {vs1 ixs ixs1 : List Nat} {pos : Pos} {wi wi1 : DTI} {g g1 : DG} {tt tt1 : DTB} {te : DT} (hc : X.calm = true) (hN : X.N.Nodup) (hi : DI X tg iter wi) (ok : BlkOk X.N X.env.scope scope own) (hv : ∀ i ∈ vs1, i ∈ own.map (·.2))
    (hg : ∀ (s : Shared) (H : Hp) (C : Addr) (cl : List (Str × Addr)) (fp : List Addr), DTg (X.blk s H scope (compEnvC scope cl C X.env) fp) [] ixs tg g)
    (ht : ∀ (s : Shared) (H : Hp) (C : Addr) (cl : List (Str × Addr)) (fp : List Addr), PTs (X.blk s H scope (compEnvC scope cl C X.env) fp) ifs (liftT X.K tt))
    (hi1 : ∀ (s : Shared) (H : Hp) (C : Addr) (cl : List (Str × Addr)) (fp : List Addr), DI (X.blk s H scope (compEnvC scope cl C X.env) fp) tg1 iter1 wi1)
    (hg1 : ∀ (s : Shared) (H : Hp) (C : Addr) (cl : List (Str × Addr)) (fp : List Addr), DTg (X.blk s H scope (compEnvC scope cl C X.env) fp) [] ixs1 tg1 g1)
    (ht1 : ∀ (s : Shared) (H : Hp) (C : Addr) (cl : List (Str × Addr)) (fp : List Addr), PTs (X.blk s H scope (compEnvC scope cl C X.env) fp) ifs1 (liftT X.K tt1))
    (he : ∀ (s : Shared) (H : Hp) (C : Addr) (cl : List (Str × Addr)) (fp : List Addr), DE (X.blk s H scope (compEnvC scope cl C X.env) fp) elt te) (hix : ∀ i ∈ ixs, i ∈ own.map (·.2)) (hix1 : ∀ i ∈ ixs1, i ∈ vs1)
    (hs : ∀ x, foldedSetIterable iter X.env x = pure x := by intro _; rfl) (hs1 : ∀ env x, foldedSetIterable iter1 env x = pure x := by intro _ _; rfl) :
    DE X (.ListComp elt [⟨tg, iter, ifs, 0⟩, ⟨tg1, iter1, ifs1, 0⟩] scope pos) (dLC2 wi g tt wi1 g1 tt1 te (own.map (·.2)) vs1) :=
  PE.to (pe_lc2 (wi := liftI X.K wi) (g := liftG X.K [] ixs g) (tt := liftT X.K tt) (wi1 := liftI X.K wi1) (g1 := liftG X.K [] ixs1 g1) (tt1 := liftT X.K tt1) (te := liftE X.K te) hc hN hi ok hv hg ht hi1 hg1 ht1 he hs hs1) fun σ H Q _ h => lc2_sem hix hix1 h
end
end DL

set_option Elab.async false
set_option linter.all false
set_option maxRecDepth 100000
set_option maxHeartbeats 4000000
/-! DLS: dicts, stores, more methods over data. -/
namespace DL
open PySem L2
theorem zipA : ∀ l : List (Key × Dv), (ksA l).zip (vsA l) = l
  | [] => rfl
  | p :: l => by
    show (p.1, p.2) :: (ksA l).zip (vsA l) = _
    rw [zipA l]
section
variable {K : PySem.W.Frag} {c : Ctx} {σ : St} {H : Hp} {δ : DS} {vs : List V} {ss : List Sl} {F : Hp} {cs : Nat ⊕ Nat → Cn}
theorem SimW.resDA (S : SimW K c σ H δ vs ss F cs) {l : List (Key × Dv)} {m : List (Key × V)} {p : Addr} (hp : H p = none) (r : RA K F l m) : Sim K c σ (upd H p (.dK m)) δ [.ref p] [.md (ksA l) (vsA l)] := by
  have e := r.zip
  rw [e]
  exact S.resD hp (by rw [List.length_map, List.length_map, r.length]) r.vals
theorem SimW.ownD (S : SimW K c σ H δ vs ss F cs) {k : Nat} {ks : List Key} {ds : List Dv} (e : δ[k]? = some (some (.md ks ds))) : ∃ p m, cs (.inl k) = .l p ∧ σ[k]? = some (some (.ref p)) ∧ H p = some (.dK m) ∧ RA K F (ks.zip ds) m ∧ F p = none := by
  obtain ⟨h1, h2, h3⟩ := S.at e
  generalize cs (Sum.inl k) = n at h1 h2 h3
  cases n with
  | l p =>
    obtain ⟨xs, q1, q2, q3⟩ := h2
    exact ⟨p, _, rfl, h1, q1, RA.of q2 q3, (h3 p (by simp [Cn.feet])).1⟩
  | _ => exact h2.elim
theorem SimW.setD (S : SimW K c σ H δ vs ss F cs) {k : Nat} {ks : List Key} {ds : List Dv} {l : List (Key × Dv)} {p : Addr} {m : List (Key × V)} (e : δ[k]? = some (some (.md ks ds))) (hc : cs (.inl k) = .l p) (r : RA K F l m) : SimW K c σ (upd H p (.dK m)) (δ.set k (some (.md (ksA l) (vsA l)))) vs ss F cs := by
  have hv : Reps K F (vsA l) (m.map fun x => x.2) := r.vals
  have hz : m = (ksA l).zip (m.map fun x => x.2) := r.zip
  have hl : (ksA l).length = (m.map fun x => x.2).length := by show (l.map _).length = _; rw [List.length_map, List.length_map, r.length]
  refine S.mut e hc trivial ?_
  generalize m.map (fun x => x.2) = xs at hv hz hl
  subst hz
  exact ⟨xs, upd_same, hl, hv⟩
end
/-! ### new dicts -/
def pairD : Dv → Option (Key × Dv)
  | .tup [a, b] => (keyD a).map fun k => (k, b)
  | _ => none
def pairsD : List Dv → Option (List (Key × Dv))
  | [] => some []
  | d :: ds => match pairD d, pairsD ds with
    | some p, some r => some (p :: r)
    | _, _ => none
def dictF : FN := fun ds k => match ds with
  | [.lst ps] => match pairsD ps with
    | some l => k (.md (ksA (mergeA [] l)) (vsA (mergeA [] l)))
    | none => False
  | _ => False
theorem pairs_rep {K : PySem.W.Frag} {F H : Hp} (e : Ex F H) : ∀ {ds : List Dv} {xs : List V} {l : List (Key × Dv)}, Reps K F ds xs → pairsD ds = some l → ∃ (ps : List Addr) (kvs : List (Key × V)), xs = ps.map V.ref ∧ Paired (fun p kv => SqT K H p [kV kv.1, kv.2]) ps kvs ∧ RA K F l kvs
  | [], _, l, h, q => by
    cases q
    rw [show _ = [] from h]
    exact ⟨[], [], rfl, .nil, rfl⟩
  | d :: ds, _, l, h, q => by
    obtain ⟨v, r, rfl, h2, h3⟩ := h
    unfold pairsD at q
    split at q
    · rename_i p t e1 e2
      cases q
      obtain ⟨ps, kvs, rfl, pr, ra⟩ := pairs_rep e h3 e2
      unfold pairD at e1
      split at e1
      · rename_i a b
        cases hk : keyD a with
        | none => rw [hk] at e1; cases e1
        | some k =>
          rw [hk] at e1
          cases e1
          obtain ⟨ad, ws, rfl, sq, w, r1, rfl, ha, w2, r2, rfl, hb, hn⟩ := h2
          rw [show r2 = [] from hn] at sq
          rw [keyD_v (H := H) hk (ha.look e)] at sq
          exact ⟨ad :: ps, (k, w2) :: kvs, rfl, .cons (ex_t e sq) pr, w2, kvs, rfl, hb, ra⟩
      · cases e1
    · cases q
section
variable {X : Cx}
theorem cd_dict (hc : X.calm = true) : CallD X (.type "dict") dictF := CallR.to (call_dictP hc) fun xs H Q h => by
  obtain ⟨c, σ, δ, ss, ds, W, F, cs, S, e, hf, k⟩ := h.open
  unfold dictF at hf
  split at hf
  · rename_i ps
    split at hf
    · rename_i l el
      obtain ⟨v, rfl, a, vs, rfl, q1, q2⟩ := S.looks1 e
      obtain ⟨as, kvs, rfl, pr, ra⟩ := pairs_rep S.FH q2 el
      exact ⟨a, as, kvs, rfl, SqL.of q1, pr, fun p hp => k _ hf _ _ (S.resDA hp (RA.merge ra rfl))⟩
    · exact hf.elim
  · exact hf.elim
def dDNew : DT := fun δ Q => Q (.md [] []) δ
theorem de_dnew {pos : Pos} : DE X (.Dict [] [] pos) dDNew := PE.to pe_dnewK fun σ H Q _ ⟨c, δ, W, ⟨F, cs, S⟩, ht, k⟩ p hp =>
  k _ _ _ _ (S.resDA (l := []) hp rfl) ht
end
/-! ### stores -/
/-- o[i] = v: the place changed -/
def setM (o i v : Sl) (δ : DS) (Q : DS → Prop) : Prop := match o with
  | .al k => match view δ i with
    | some di => match fzR v δ with
      | some (d, δ1) => match δ1[k]? with
        | some (some (.ml ds)) => ∃ n j, di = .int n ∧ ixN ds.length n = some j ∧ force (δ1.set k (some (.ml (ds.set j d)))) Q
        | some (some (.md ks ds)) => ∃ q, keyD di = some q ∧ (ks.zip ds).length < sizeLine ∧ force (δ1.set k (some (.md (ksA (putA (ks.zip ds) q d)) (vsA (putA (ks.zip ds) q d))))) Q
        | _ => False
      | none => False
    | none => False
  | _ => False
def dSub (to ti : DT) : DG := fun s δ Q => to δ fun o δ1 => ti δ1 fun i δ2 => setM o i s δ2 Q
theorem PSet.or {X : Cx} {t u : TSet} (h : PSet X t) (h' : PSet X u) : PSet X fun o i v H Q => t o i v H Q ∨ u o i v H Q := fun pins s σ H o i v ov iv uu Q I ro ri rv q =>
  q.elim (h pins s σ H o i v ov iv uu Q I ro ri rv) (h' pins s σ H o i v ov iv uu Q I ro ri rv)
theorem dg_sub {X : Cx} {P : List (Nat × V)} {o i : Expr} {pos : Pos} {to ti : DT} (hu : X.A.units + 65 < cLine) (ho : DE X o to) (hi : DE X i ti) (ha : ∀ v, assign (.Subscript o i pos) X.env v = (do
      let ov ← holding [v] (eval o X.env)
      let iv ← holding [v, ov] (eval i X.env)
      standAt pos
      holding [v, ov, iv] (setItem ov iv v)
      release [v, ov, iv] []) := by intro _; rfl) : DTg X P [] (.Subscript o i pos) (dSub to ti) :=
  PG.to (pg_sub ho hi (PSet.or set_list (set_dict (by omega))) ha) fun v σ H Q _ ⟨F, R, δ, s, W, S, h, k⟩ => by
    obtain ⟨c1, l1, S1, back1⟩ := S.hold
    refine ⟨c1, δ, _, S1, h, fun o H1 δ1 so S2 h1 => ?_⟩
    have S3 := back1 S2
    obtain ⟨c2, l2, S4, back2⟩ := S3.hold
    refine ⟨c2, δ1, _, S4, h1, fun i H2 δ2 si S5 h2 => ?_⟩
    have S6 : Sim X.K ⟨F, R, P⟩ σ H2 δ2 [v, o, i] [s, so, si] := back2 S5
    unfold setM at h2
    split at h2
    · rename_i kk
      split at h2
      · rename_i di ei
        split at h2
        · rename_i d δ3 ef
          obtain ⟨F0, cs0, T0⟩ := S6
          obtain ⟨u, eu, lu⟩ := T0.look (j := 2) rfl ei
          cases eu
          obtain ⟨F1, cs1, T1⟩ := T0.fzAt (j := 0) rfl ef
          obtain ⟨v', ev, hv⟩ := T1.alv (j := 1) rfl
          cases ev
          obtain ⟨y, ey, ry⟩ := T1.repR (j := 0) rfl
          cases ey
          split at h2
          · rename_i ds ek
            obtain ⟨n, j, rfl, hj, hf⟩ := h2
            obtain ⟨p, xs, hc, hp, hH, r, hF⟩ := T1.own ek
            rw [hp] at hv; cases hv
            refine .inl ⟨p, xs, n, j, rfl, lu, hH, by rw [← r.length]; exact hj, k σ _ _ (But.refl _ _) ⟨F1, cs1, (T1.setL ek hc (r.set j ry)).bare⟩ (force_iff.mp hf)⟩
          · rename_i ks ds ek
            obtain ⟨q, hq, hl, hf⟩ := h2
            obtain ⟨p, m, hc, hp, hH, r, hF⟩ := T1.ownD ek
            rw [hp] at hv; cases hv
            have eq : i = kV q := keyD_v hq lu
            subst eq
            refine .inr ⟨p, _, rfl, DPut.k hH (by rw [r.length]; exact hl), k σ _ _ (But.refl _ _) ⟨F1, cs1, (T1.setD ek hc (RA.put ry r)).bare⟩ (force_iff.mp hf)⟩
          · exact h2.elim
        · exact h2.elim
      · exact h2.elim
    · exact h2.elim
/-! ### comprehensions of dicts -/
@[irreducible] def DcB (g : DG) (tt : DTB) (tk tv : DT) (vs : List Nat) (items : List Dv) (δ1 : DS) (Q : Sl → DS → Prop) : Prop := plainAt δ1 vs ∧ ∃ I : Nat → List (Key × Dv) → DS → Prop, I 0 [] δ1 ∧
  (∀ i d acc δ2, items[i]? = some d → I i acc δ2 → plainAt δ2 vs ∧ g (.fz d) (wipeD δ2 vs) fun δ3 => tt δ3 fun b δ4 =>
    if b = true then tk δ4 fun s δ5 => match view δ5 s with
      | some dk => ∃ q, keyD dk = some q ∧ tv δ5 fun u δ6 => match fzR u δ6 with
        | some (e, δ7) => acc.length < sizeLine ∧ I (i + 1) (putA acc q e) (backD δ7 δ2 vs)
        | none => False
      | none => False
    else I (i + 1) acc (backD δ4 δ2 vs)) ∧
  ∀ acc δ2, I items.length acc δ2 → Q (.md (ksA acc) (vsA acc)) δ2
def dDC (wi : DTI) (g : DG) (tt : DTB) (tk tv : DT) (vs : List Nat) : DT := fun δ Q => wi δ fun items δ1 => DcB g tt tk tv vs items δ1 Q
/-- the pair behind the dict goes into it -/
theorem Sim.intoD {K : PySem.W.Frag} {c : Ctx} {σ : St} {H : Hp} {δ : DS} {D : Addr} {v : V} {k : Key} {acc : List (Key × Dv)} {e : Dv} (S : Sim K c σ H δ [.ref D, v] [.md (ksA acc) (vsA acc), .fz e]) :
    ∃ m, H D = some (.dK m) ∧ m.length = acc.length ∧ Sim K c σ (upd H D (.dK (putK m k v))) δ [.ref D] [.md (ksA (putA acc k e)) (vsA (putA acc k e))] := by
  obtain ⟨F11, cs11, T11⟩ := S
  obtain ⟨r1, r2, r3⟩ := T11.here (.inr 0) (.md (ksA acc) (vsA acc)) rfl
  obtain ⟨p1, p2, p3⟩ := T11.here (.inr 1) (.fz e) rfl
  have hc1 : cs11 (.inr 0) = .l D := by
    generalize cs11 (Sum.inr 0) = n at r1 r2
    cases n with
    | l p => have : V.ref D = V.ref p := by injection r1
             cases this; rfl
    | _ => exact r2.elim
  rw [hc1] at r2 r3
  obtain ⟨xs, hx, hlen, hr⟩ := r2
  have hv : Rep K F11 e v := by
    generalize cs11 (Sum.inr 1) = n at p1 p2
    cases n with
    | v z => have : v = z := by injection p1
             rw [this]; exact p2
    | _ => exact p2.elim
  have fD := r3 D (by simp [Cn.feet])
  have ra0 : RA K F11 ((ksA acc).zip (vsA acc)) ((ksA acc).zip xs) := RA.of hlen hr
  rw [zipA] at ra0
  refine ⟨_, hx, ra0.length, ?_⟩
  have ra := RA.put (k := k) hv ra0
  have hold : Holds K σ F11 (upd H D (.dK (putK ((ksA acc).zip xs) k v))) (.md (ksA (putA acc k e)) (vsA (putA acc k e))) (.l D) := by
    generalize putK ((ksA acc).zip xs) k v = m at ra
    have hv : Reps K F11 (vsA (putA acc k e)) (m.map fun x => x.2) := ra.vals
    have hz : m = (ksA (putA acc k e)).zip (m.map fun x => x.2) := ra.zip
    have hl : (ksA (putA acc k e)).length = (m.map fun x => x.2).length := by
      have := ra.length
      show (List.map _ _).length = _
      rw [List.length_map, List.length_map, this]
    generalize m.map (fun x => x.2) = ys at hv hz hl
    subst hz
    exact ⟨ys, upd_same, hl, hv⟩
  let cc : Nat ⊕ Nat → Cn := fun x => match x with
    | .inl i => cs11 (.inl i)
    | .inr _ => .l D
  have offD : ∀ (j : Nat) (s : Sl), δ[j]? = some (some s) → ∀ a ∈ (cs11 (.inl j)).feet, a ≠ D := fun j s q a ha z => by
    subst z
    exact T11.apart (.inl j) (.inr 0) s (.md (ksA acc) (vsA acc)) (by intro q; cases q) (getX_inl.mpr q) rfl a ha (by rw [hc1]; simp [Cn.feet])
  refine ⟨F11, cc, ⟨T11.fF, T11.FH.mut fD.1, T11.RH.mut fD.2, T11.FR, T11.len, rfl, T11.pin, T11.noal, fun x s q => ?_, fun x y s t ne q1 q2 => ?_⟩⟩
  · rcases getX_one q with ⟨j, rfl, q'⟩ | ⟨rfl, rfl⟩
    · obtain ⟨k1, k2, k3⟩ := T11.at q'
      exact ⟨valX_inl.mpr k1, k2.stay (Ex.refl _) fun a ha => upd_ne (offD j s q' a ha), k3⟩
    · exact ⟨rfl, hold, fun a ha => by
        have : a = D := by simpa using (show a ∈ [D] from ha)
        subst this; exact fD⟩
  · rcases getX_one q1 with ⟨j, rfl, q1'⟩ | ⟨rfl, rfl⟩
    · rcases getX_one q2 with ⟨j', rfl, q2'⟩ | ⟨rfl, rfl⟩
      · exact T11.apart _ _ s t ne (getX_inl.mpr q1') (getX_inl.mpr q2')
      · intro a ha hb
        exact offD j s q1' a ha (by simpa using (show a ∈ [D] from hb))
    · rcases getX_one q2 with ⟨j', rfl, q2'⟩ | ⟨rfl, rfl⟩
      · intro a ha hb
        exact offD j' t q2' a hb (by simpa using (show a ∈ [D] from ha))
      · exact absurd rfl ne
theorem dc_sem {K : PySem.W.Frag} {wi : DTI} {g : DG} {tt : DTB} {tk tv : DT} {own ixs : List Nat} (hix : ∀ i ∈ ixs, i ∈ own) {σ : St} {H : Hp} {Q : VK} (h : liftE K (dDC wi g tt tk tv own) σ H Q) :
    tDc (liftI K wi) (liftG K [] ixs g) (liftT K tt) (liftE K tk) (liftE K tv) own σ H Q := by
  obtain ⟨c, δ, W, S, ht, k⟩ := h
  refine ⟨c, δ, _, S, ht, fun J H1 δ1 items c' le S1 w hb D hD => ?_⟩
  unfold DcB at hb
  obtain ⟨hp1, I, i0, turn, fin⟩ := hb
  obtain ⟨F1, cs1, T1⟩ := S1
  have start : Sim K c' σ (upd H1 D (.dK [])) δ1 [.ref D] [.md (ksA []) (vsA [])] := T1.resDA (l := []) hD rfl
  refine ⟨fun i m H => m = items.length - i ∧ i ≤ items.length ∧ ∃ acc δ, Sim K c' σ H δ [.ref D] [.md (ksA acc) (vsA acc)] ∧ I i acc δ, ⟨items.length, by simp, Nat.zero_le _, [], δ1, start, i0⟩, ?_⟩
  rintro i m H ⟨rfl, hi, acc, δ2, S2, hI⟩
  obtain ⟨w1, w2, w3⟩ := w i c' σ H δ2 (Ex.refl _) S2.bare
  by_cases hlt : i < items.length
  · refine .inr ⟨w1 hlt, fun H => ∃ acc δ, Sim K c' σ H δ [.ref D] [.md (ksA acc) (vsA acc)] ∧ I (i + 1) acc δ, fun H' q => ⟨_, by omega, rfl, hlt, q⟩, fun x H' y => ?_⟩
    obtain ⟨hp2, ht2⟩ := turn i _ acc δ2 (List.getElem?_eq_getElem hlt) hI
    obtain ⟨F2, cs2, T2⟩ := S2
    obtain ⟨c2, l2, ef2, T3, back⟩ := T2.hold
    have S3 : Sim K c2 σ H' δ2 [x] [.fz _] := (w i c2 σ H δ2 l2.F ⟨F2, cs2, T3⟩).2.2 x H' _ (List.getElem?_eq_getElem hlt) y
    obtain ⟨F3, cs3, T4⟩ := S3
    have T5 := T4.wipe own (by intro s hs; simp at hs; subst hs; trivial)
    refine ⟨F3, c2.R, wipeD δ2 own, _, _, ⟨F3, cs3, T5⟩, ht2, fun σ6 H6 δ6 but S6 h6 => ?_⟩
    have hw : L2.wipe σ6 own = L2.wipe σ own := But.wipe0 but hix
    have hw' : L2.wipe σ6 own = L2.wipe (L2.wipe σ own) own := by rw [hw]; exact (But.wipe0 (But.refl ixs _) hix).symm
    refine ⟨by rw [hw]; try exact hw', ⟨F3, c2.R, []⟩, δ6, _, S6, h6, fun b H7 δ7 S7 h7 => ?_⟩
    cases b with
    | false =>
      obtain ⟨F7, cs7, T7⟩ := S7
      have S8 : Sim K c2 σ H7 (backD δ7 δ2 own) [] [] := T4.bare.unwipe own hp2 T7 hw (by intro s hs; simp at hs)
      have S9 := back S8
      simp only [List.append_nil] at S9
      exact ⟨acc, _, S9, h7⟩
    | true =>
      refine ⟨⟨F3, c2.R, []⟩, δ7, _, S7, h7, fun yk H8 δ8 sk S8 h8 => ?_⟩
      split at h8
      · rename_i dk ek
        obtain ⟨q, hq, h8⟩ := h8
        obtain ⟨F8, cs8, T8⟩ := S8
        have ey : yk = kV q := keyD_v hq (T8.one_look ek)
        refine ⟨⟨F3, c2.R, []⟩, δ8, _, ⟨F8, cs8, T8.bare⟩, h8, fun v H9 δ9 s S9 h9 => ?_⟩
        split at h9
        · rename_i e δ10 ef
          obtain ⟨F10, cs10, T10⟩ := S9.fz ef
          have S10 : Sim K c2 σ H9 (backD δ10 δ2 own) [v] [.fz e] := T4.bare.unwipe own hp2 T10 hw (by intro s hs; simp at hs; subst hs; trivial)
          obtain ⟨m, hx, hl, S11⟩ := Sim.intoD (k := q) (back S10)
          exact ⟨m, q, ey, hx, by rw [hl]; exact h9.1, putA acc q e, _, S11, h9.2⟩
        · exact h9.elim
      · exact h8.elim
  · have e : i = items.length := by omega
    subst e
    exact .inl ⟨w2 rfl, k _ H δ2 _ (S2.weak le) (fin acc δ2 hI)⟩
theorem de_dc {X : Cx} {kx vx tg iter : Expr} {ifs : List Expr} {scope : Scope} {own : List (Str × Nat)} {ixs : List Nat} {pos : Pos} {wi : DTI} {g : DG} {tt : DTB} {tk tv : DT} (hc : X.calm = true) (hN : X.N.Nodup) (hi : DI X tg iter wi) (ok : BlkOk X.N X.env.scope scope own)
    (hg : ∀ (s : Shared) (H : Hp) (C : Addr) (cl : List (Str × Addr)) (fp : List Addr), DTg (X.blk s H scope (compEnvC scope cl C X.env) fp) [] ixs tg g) (ht : ∀ (s : Shared) (H : Hp) (C : Addr) (cl : List (Str × Addr)) (fp : List Addr), PTs (X.blk s H scope (compEnvC scope cl C X.env) fp) ifs (liftT X.K tt))
    (hk : ∀ (s : Shared) (H : Hp) (C : Addr) (cl : List (Str × Addr)) (fp : List Addr), DE (X.blk s H scope (compEnvC scope cl C X.env) fp) kx tk)
    (he : ∀ (s : Shared) (H : Hp) (C : Addr) (cl : List (Str × Addr)) (fp : List Addr), DE (X.blk s H scope (compEnvC scope cl C X.env) fp) vx tv) (hix : ∀ i ∈ ixs, i ∈ own.map (·.2)) (hs : ∀ x, foldedSetIterable iter X.env x = pure x := by intro _; rfl) :
    DE X (.DictComp kx vx [⟨tg, iter, ifs, 0⟩] scope pos) (dDC wi g tt tk tv (own.map (·.2))) :=
  PE.to (pe_dc (wi := liftI X.K wi) (g := liftG X.K [] ixs g) (tt := liftT X.K tt) (tk := liftE X.K tk) (tv := liftE X.K tv) hc hN hi ok hg ht hk he hs) fun σ H Q _ h => dc_sem hix h
/-! ### index, count -/
/-- a method of a list or of a tuple -/
def dMq (fL fT : FM) (to : DT) (ta : DTA) : DT := fun δ Q => to δ fun s δ1 => match view δ1 s with
  | some (.lst _) => ta δ1 fun ss δ2 => fL s ss δ2 Q
  | some (.tup _) => ta δ1 fun ss δ2 => fT s ss δ2 Q
  | _ => False
/-- the first place of an equal one -/
def idxD (x : Dv) : List Dv → Option Nat
  | [] => none
  | d :: ds => if eqB d x = true then some 0 else (idxD x ds).map (· + 1)
def indexL : FM := fun s ss δ Q => match ss with
  | [x] => match view δ x, view δ s with
    | some dx, some (.lst ds) => eqOk 60 dx = true ∧ eqOk 60 (.lst ds) = true ∧ ∃ j, idxD dx ds = some j ∧ Q (.fz (.int (j : Nat))) δ
    | _, _ => False
  | _ => False
def indexT : FM := fun s ss δ Q => match ss with
  | [x] => match view δ x, view δ s with
    | some dx, some (.tup ds) => eqOk 60 dx = true ∧ eqOk 60 (.tup ds) = true ∧ ∃ j, idxD dx ds = some j ∧ Q (.fz (.int (j : Nat))) δ
    | _, _ => False
  | _ => False
def countD (x : Dv) (ds : List Dv) : Nat := ds.countP fun d => eqB d x
def countL : FM := fun s ss δ Q => match ss with
  | [x] => match view δ x, view δ s with
    | some dx, some (.lst ds) => eqOk 60 dx = true ∧ eqOk 60 (.lst ds) = true ∧ Q (.fz (.int (countD dx ds : Nat))) δ
    | _, _ => False
  | _ => False
def countT : FM := fun s ss δ Q => match ss with
  | [x] => match view δ x, view δ s with
    | some dx, some (.tup ds) => eqOk 60 dx = true ∧ eqOk 60 (.tup ds) = true ∧ Q (.fz (.int (countD dx ds : Nat))) δ
    | _, _ => False
  | _ => False
theorem idx_at {x : Dv} : ∀ {ds : List Dv} {j : Nat}, idxD x ds = some j → (∃ z, (toPs ds)[j]? = some z ∧ PyData.eqv z (toP x) = true) ∧ ∀ (m : Nat) (z : PyData), m < j → (toPs ds)[m]? = some z → PyData.eqv z (toP x) = false
  | [], _, h => by cases h
  | d :: ds, j, h => by
    unfold idxD at h
    split at h
    · rename_i e
      cases h
      exact ⟨⟨_, rfl, e⟩, fun m z hm => absurd hm (by omega)⟩
    · rename_i e
      cases q : idxD x ds with
      | none => rw [q] at h; cases h
      | some i =>
        rw [q] at h
        cases h
        obtain ⟨⟨z, h1, h2⟩, h3⟩ := idx_at q
        refine ⟨⟨z, h1, h2⟩, fun m z hm hz => ?_⟩
        cases m with
        | zero =>
          cases hz
          exact eq_false_of_ne_true e
        | succ m =>
          have hm' : m + 1 < i + 1 := hm
          exact h3 m z (by omega) hz
theorem count_at (x : Dv) : ∀ ds : List Dv, ((toPs ds).countP fun z => PyData.eqv z (toP x)) = countD x ds
  | [] => rfl
  | d :: ds => by
    show ((toP d :: toPs ds).countP _) = ((d :: ds).countP _)
    rw [List.countP_cons, List.countP_cons, count_at x ds]
    rfl
section
variable {X : Cx} {o e : Expr} {to : DT} {ta : DTA} {apos cpos : Pos}
theorem mq_lift {K : PySem.W.Frag} {fL fT : FM} {rL rT : V → List V → Hp → VK → Prop} {σ : St} {H : Hp} {Q : VK}
    (hl : ∀ (c : Ctx) (v : V) (vs : List V) (H : Hp) (δ : DS) (s : Sl) (ss : List Sl) (W : Sl → DS → Prop) (Q : VK), Sim K c σ H δ (v :: vs) (s :: ss) → fL s ss δ W → (∀ z H' δ' r, Sim K c σ H' δ' [z] [r] → W r δ' → Q z H') → rL v vs H Q)
    (ht : ∀ (c : Ctx) (v : V) (vs : List V) (H : Hp) (δ : DS) (s : Sl) (ss : List Sl) (W : Sl → DS → Prop) (Q : VK), Sim K c σ H δ (v :: vs) (s :: ss) → fT s ss δ W → (∀ z H' δ' r, Sim K c σ H' δ' [z] [r] → W r δ' → Q z H') → rT v vs H Q)
    (h : liftE K (dMq fL fT to ta) σ H Q) : tSqM K rL rT (liftE K to) (liftA K ta) σ H Q := by
  obtain ⟨c, δ, W, S, hh, k⟩ := h
  refine ⟨c, δ, _, S, hh, fun v H1 δ1 s S1 h1 => ?_⟩
  split at h1
  · rename_i ds e
    refine .inl ⟨isL_ty S1 (by unfold isL; rw [e]; trivial), ?_⟩
    obtain ⟨c', l, S2, back⟩ := S1.hold
    exact ⟨c', δ1, _, S2, h1, fun vs H2 δ2 ss S3 h2 => hl c v vs H2 δ2 s ss W Q (back S3) h2 fun z H' δ' r S' hw => k z H' δ' r S' hw⟩
  · rename_i ds e
    obtain ⟨F, cs, T1⟩ := S1
    obtain ⟨a, ys, rfl, q1, q2⟩ := T1.one_look e
    refine .inr ⟨⟨a, ys, rfl, ex_d T1.FH q1⟩, ?_⟩
    have S1' : Sim K c σ H1 δ1 [.ref a] [s] := ⟨F, cs, T1⟩
    obtain ⟨c', l, S2, back⟩ := S1'.hold
    exact ⟨c', δ1, _, S2, h1, fun vs H2 δ2 ss S3 h2 => ht c (.ref a) vs H2 δ2 s ss W Q (back S3) h2 fun z H' δ' r S' hw => k z H' δ' r S' hw⟩
  · exact h1.elim
theorem two_at {K : PySem.W.Frag} {c : Ctx} {σ : St} {H : Hp} {δ : DS} {v : V} {vs : List V} {s x : Sl} {F : Hp} {cs : Nat ⊕ Nat → Cn} (S : SimW K c σ H δ (v :: vs) [s, x] F cs) {d e : Dv} (h : view δ s = some d) (h' : view δ x = some e) : ∃ y, vs = [y] ∧ Look K F H d v ∧ Look K F H e y := by
  obtain ⟨w, q, l⟩ := S.look (j := 0) rfl h
  obtain ⟨w', q', l'⟩ := S.look (j := 1) rfl h'
  cases q
  have := S.rlen
  match vs, this, q' with
  | [y], _, q' =>
    have e1 : y = w' := Option.some.inj q'
    subst e1
    exact ⟨y, rfl, l, l'⟩
theorem indexL_ok {K : PySem.W.Frag} {σ : St} (c : Ctx) (v : V) (vs : List V) (H : Hp) (δ : DS) (s : Sl) (ss : List Sl) (W : Sl → DS → Prop) (Q : VK) (S : Sim K c σ H δ (v :: vs) (s :: ss)) (h : indexL s ss δ W) (k : ∀ z H' δ' r, Sim K c σ H' δ' [z] [r] → W r δ' → Q z H') : rIndexD K v vs H Q := by
  unfold indexL at h
  split at h
  · split at h
    · rename_i dx ds e1 e2
      obtain ⟨o1, o2, j, hj, hw⟩ := h
      obtain ⟨F, cs, S⟩ := S
      obtain ⟨y, rfl, l1, l2⟩ := two_at S e2 e1
      obtain ⟨⟨z, h1, h2⟩, h3⟩ := idx_at hj
      obtain ⟨a, xs, rfl, q1, q2⟩ := id l1
      exact ⟨a, y, _, _, j, z, rfl, rfl, Look.dp S.FH o2 l1, Look.dp S.FH o1 l2, shaped_of o2, shaped_of o1, h1, h2, h3, k _ _ _ _ (S.resFz (d := .int (j : Nat)) rfl) hw⟩
    · exact h.elim
  · exact h.elim
theorem indexT_ok {K : PySem.W.Frag} {σ : St} (c : Ctx) (v : V) (vs : List V) (H : Hp) (δ : DS) (s : Sl) (ss : List Sl) (W : Sl → DS → Prop) (Q : VK) (S : Sim K c σ H δ (v :: vs) (s :: ss)) (h : indexT s ss δ W) (k : ∀ z H' δ' r, Sim K c σ H' δ' [z] [r] → W r δ' → Q z H') : rIndexT K v vs H Q := by
  unfold indexT at h
  split at h
  · split at h
    · rename_i dx ds e1 e2
      obtain ⟨o1, o2, j, hj, hw⟩ := h
      obtain ⟨F, cs, S⟩ := S
      obtain ⟨y, rfl, l1, l2⟩ := two_at S e2 e1
      obtain ⟨⟨z, h1, h2⟩, h3⟩ := idx_at hj
      obtain ⟨a, xs, rfl, q1, q2⟩ := id l1
      exact ⟨a, y, _, _, j, z, rfl, rfl, Look.dp S.FH o2 l1, Look.dp S.FH o1 l2, shaped_of o2, shaped_of o1, h1, h2, h3, k _ _ _ _ (S.resFz (d := .int (j : Nat)) rfl) hw⟩
    · exact h.elim
  · exact h.elim
theorem countL_ok {K : PySem.W.Frag} {σ : St} (c : Ctx) (v : V) (vs : List V) (H : Hp) (δ : DS) (s : Sl) (ss : List Sl) (W : Sl → DS → Prop) (Q : VK) (S : Sim K c σ H δ (v :: vs) (s :: ss)) (h : countL s ss δ W) (k : ∀ z H' δ' r, Sim K c σ H' δ' [z] [r] → W r δ' → Q z H') : rCountL K v vs H Q := by
  unfold countL at h
  split at h
  · split at h
    · rename_i dx ds e1 e2
      obtain ⟨o1, o2, hw⟩ := h
      obtain ⟨F, cs, S⟩ := S
      obtain ⟨y, rfl, l1, l2⟩ := two_at S e2 e1
      obtain ⟨a, xs, rfl, q1, q2⟩ := id l1
      refine ⟨a, y, _, _, rfl, rfl, Look.dp S.FH o2 l1, Look.dp S.FH o1 l2, shaped_of o2, shaped_of o1, ?_⟩
      rw [count_at]
      exact k _ _ _ _ (S.resFz (d := .int (countD dx ds : Nat)) rfl) hw
    · exact h.elim
  · exact h.elim
theorem countT_ok {K : PySem.W.Frag} {σ : St} (c : Ctx) (v : V) (vs : List V) (H : Hp) (δ : DS) (s : Sl) (ss : List Sl) (W : Sl → DS → Prop) (Q : VK) (S : Sim K c σ H δ (v :: vs) (s :: ss)) (h : countT s ss δ W) (k : ∀ z H' δ' r, Sim K c σ H' δ' [z] [r] → W r δ' → Q z H') : rCountT K v vs H Q := by
  unfold countT at h
  split at h
  · split at h
    · rename_i dx ds e1 e2
      obtain ⟨o1, o2, hw⟩ := h
      obtain ⟨F, cs, S⟩ := S
      obtain ⟨y, rfl, l1, l2⟩ := two_at S e2 e1
      obtain ⟨a, xs, rfl, q1, q2⟩ := id l1
      refine ⟨a, y, _, _, rfl, rfl, Look.dp S.FH o2 l1, Look.dp S.FH o1 l2, shaped_of o2, shaped_of o1, ?_⟩
      rw [count_at]
      exact k _ _ _ _ (S.resFz (d := .int (countD dx ds : Nat)) rfl) hw
    · exact h.elim
  · exact h.elim
theorem de_index (hu : X.A.units + 65 < cLine) (ho : DE X o to) (ha : DA X [e] ta) (hbase : attributeBase o "index" X.env (eval o X.env) = eval o X.env := by rfl)
    (hfew : ((backTo cpos (starEach [e] X.env)).all (fun x => !x.1) && (backToKw cpos (keywordEach [] X.env)).all (fun x => x.1.isSome)
      && decide ([e].length + ([] : List Keyword).length + (if ([] : List Keyword).isEmpty then 0 else 1) < 30)) = true := by rfl)
    (hline : (apos.endLine == cpos.line) = true := by rfl) (hs : starEach [e] X.env = (false, eval e X.env) :: starEach [] X.env := by rfl) (hplain : (backTo cpos (starEach [] X.env)).any (·.1) = false := by rfl) :
    DE X (.Call (.Attribute o "index" apos) [e] [] cpos) (dMq indexL indexT to ta) :=
  PE.to (pe_sqm PySem.F.slot_list_index PySem.F.type_list_index (mt_indexD hu) PySem.F.slot_tuple_index PySem.F.type_tuple_index (mt_indexT hu) ho ha hbase hfew hline hs hplain) fun σ H Q _ h => mq_lift indexL_ok indexT_ok h
theorem de_count (hu : X.A.units + 65 < cLine) (ho : DE X o to) (ha : DA X [e] ta) (hbase : attributeBase o "count" X.env (eval o X.env) = eval o X.env := by rfl)
    (hfew : ((backTo cpos (starEach [e] X.env)).all (fun x => !x.1) && (backToKw cpos (keywordEach [] X.env)).all (fun x => x.1.isSome)
      && decide ([e].length + ([] : List Keyword).length + (if ([] : List Keyword).isEmpty then 0 else 1) < 30)) = true := by rfl)
    (hline : (apos.endLine == cpos.line) = true := by rfl) (hs : starEach [e] X.env = (false, eval e X.env) :: starEach [] X.env := by rfl) (hplain : (backTo cpos (starEach [] X.env)).any (·.1) = false := by rfl) :
    DE X (.Call (.Attribute o "count" apos) [e] [] cpos) (dMq countL countT to ta) :=
  PE.to (pe_sqm PySem.F.slot_list_count PySem.F.type_list_count (mt_countL hu) PySem.F.slot_tuple_count PySem.F.type_tuple_count (mt_countT hu) ho ha hbase hfew hline hs hplain) fun σ H Q _ h => mq_lift countL_ok countT_ok h
end
end DL

set_option Elab.async false
set_option linter.all false
set_option maxRecDepth 100000
set_option maxHeartbeats 4000000
/-! DLX: len(set(..)), a tuple times an int, sorted. -/
namespace DL
open PySem L2 PyProof.Rows
/-- each once -/
def dd : List Int → List Int
  | [] => []
  | x :: xs => x :: (dd xs).filter fun y => decide (y ≠ x)
theorem dd_mem (x : Int) : ∀ l : List Int, x ∈ dd l ↔ x ∈ l
  | [] => Iff.rfl
  | y :: l => by
    unfold dd
    rw [List.mem_cons, List.mem_cons, List.mem_filter, dd_mem x l]
    by_cases e : x = y
    · simp [e]
    · simp [e]
theorem dd_nodup : ∀ l : List Int, (dd l).Nodup
  | [] => List.nodup_nil
  | y :: l => by
    unfold dd
    exact List.nodup_cons.mpr ⟨by simp, (dd_nodup l).filter _⟩
theorem dd_of_nodup {l : List Int} (h : l.Nodup) : dd l = l := by
  induction l with
  | nil => rfl
  | cons x xs ih =>
    obtain ⟨h1, h2⟩ := List.nodup_cons.mp h
    unfold dd
    rw [ih h2, List.filter_eq_self.mpr]
    intro y hy
    have : y ≠ x := fun e => h1 (by rw [← e]; exact hy)
    simpa using this
theorem sub_length {α : Type} [DecidableEq α] : ∀ {a b : List α}, a.Nodup → (∀ x ∈ a, x ∈ b) → a.length ≤ b.length
  | [], _, _, _ => Nat.zero_le _
  | x :: a, b, h, hs => by
    obtain ⟨h1, h2⟩ := List.nodup_cons.mp h
    have hx := hs x List.mem_cons_self
    have ih := sub_length (a := a) (b := b.erase x) h2 fun y hy => by
      have ne : y ≠ x := fun e => h1 (by rw [← e]; exact hy)
      exact (List.mem_erase_of_ne ne).mpr (hs y (List.mem_cons_of_mem _ hy))
    have hl := List.length_erase_of_mem hx
    have hp := List.length_pos_of_mem hx
    rw [List.length_cons]; omega
theorem same_length {α : Type} [DecidableEq α] {a b : List α} (ha : a.Nodup) (hb : b.Nodup) (h : ∀ x, x ∈ a ↔ x ∈ b) : a.length = b.length :=
  Nat.le_antisymm (sub_length ha fun x hx => (h x).mp hx) (sub_length hb fun x hx => (h x).mpr hx)
theorem dedup_nodup : ∀ (ns acc : List Int), acc.Nodup → (ns.foldl step_dedup acc).Nodup ∧ ∀ x, x ∈ ns.foldl step_dedup acc ↔ x ∈ acc ∨ x ∈ ns
  | [], acc, h => ⟨h, fun x => by simp⟩
  | n :: ns, acc, h => by
    have h2 : (step_dedup acc n).Nodup ∧ ∀ x, x ∈ step_dedup acc n ↔ x ∈ acc ∨ x = n := by
      unfold step_dedup
      by_cases q : acc.any (· == n) = true
      · rw [if_pos q]
        obtain ⟨y, hy, e⟩ := List.any_eq_true.mp q
        have e : y = n := by simpa using e
        exact ⟨h, fun x => ⟨.inl, fun z => z.elim id fun z => by rw [z, ← e]; exact hy⟩⟩
      · rw [if_neg q]
        have hn : n ∉ acc := fun z => q (List.any_eq_true.mpr ⟨n, z, by simp⟩)
        exact ⟨List.nodup_append.mpr ⟨h, by simp, fun x hx y hy e => hn (by simp at hy; rw [← hy, ← e]; exact hx)⟩, fun x => by simp⟩
    obtain ⟨i1, i2⟩ := dedup_nodup ns _ h2.1
    refine ⟨i1, fun x => ?_⟩
    rw [List.foldl_cons, i2, h2.2, List.mem_cons]
    constructor
    · rintro ((a | a) | a)
      · exact .inl a
      · exact .inr (.inl a)
      · exact .inr (.inr a)
    · rintro (a | a | a)
      · exact .inl (.inl a)
      · exact .inl (.inr a)
      · exact .inr a
theorem firstMet_list (ns : List Int) : firstMet (fun i => ns.getD i 0) ns.length = ns.foldl step_dedup [] := by
  unfold firstMet
  congr 1
  refine List.ext_getElem (by simp) fun i h1 h2 => ?_
  simp only [List.getElem_map, List.getElem_range]
  simp at h1
  simp [h1]
end DL
namespace L2
open PySem PySem.Spec PyProof.Rows
def tLenSetD (K : PySem.W.Frag) (ta : TE) : TE := fun σ H Q => ta σ H fun x H1 => ∃ (l : Addr) (ns : List Int), x = .ref l ∧ (SqL K H1 l (ns.map V.int) ∨ SqT K H1 l (ns.map V.int)) ∧ ns.length ≤ 4000 ∧ Q (.int ((DL.dd ns).length : Nat)) H1
theorem pe_lenSetD {X : Cx} {a : Expr} {ta : TE} {p p2 q pos : Pos} (hg : Gl X "len") (hm : X.mg "len" = none) (hg2 : Gl X "set") (hm2 : X.mg "set" = none) (ha : PE X a ta) (hc : X.calm = true := by rfl)
    (na : starEach [a] X.env = (false, eval a X.env) :: starEach [] X.env := by rfl) : PE X (.Call (.Name "len" p) [.Call (.Name "set" p2) [a] [] q] [] pos) (tLenSetD X.K ta) := by
  refine ⟨fun pins s σ H Q I h => ?_⟩
  refine Call_ (ld_blt I hg hm boot_len ?_)
  refine PyProof.Rows.callWith_builtin1 (PyProof.Rows.args_cons ?_ rfl) rfl rfl
  refine Call_ (ld_blt I hg2 hm2 boot_set ?_)
  refine PyProof.Rows.callWith_type1 (PyProof.Rows.args_cons (thn (ha.run pins s σ H _ I h) fun v s1 ⟨x, H1, I1, r1, q1⟩ => PyProof.Rows.args_nil ?_) na) na rfl
  obtain ⟨l, ns, rfl, hq, hl, q1⟩ := q1
  cases r1
  have sb : ns.length + 1 < scanBound := by unfold scanBound; omega
  rcases hq with hq | hq
  · obtain ⟨its, r, pl, hz⟩ := I1.list hq
    have hlen : its.toArray.size = ns.length := by rw [List.size_toArray, ← r.length, List.length_map]
    refine call_set_list (I1.ok.hd hc) pl.isList (by simpa using RZ.intsAre_vals r) (by rw [hlen]; exact sb) fun h' tk hS hk => ?_
    refine PyProof.Rows.args_nil ?_
    rw [hlen, DL.firstMet_list] at hS
    obtain ⟨o, es, ep, t, ho, hex, hd, _, _, _, hf, hn⟩ := hS
    have e : (ns.foldl step_dedup []).length = (DL.dd ns).length := DL.same_length (DL.dedup_nodup ns [] List.nodup_nil).1 (DL.dd_nodup ns) fun x => by rw [(DL.dedup_nodup ns [] List.nodup_nil).2, DL.dd_mem]; simp
    have hle : (DL.dd ns).length ≤ ns.length := DL.sub_length (DL.dd_nodup ns) fun x hx => (DL.dd_mem x ns).mp hx
    have I2 : Inv X pins σ H1 { s1 with heap := h', toks := tk } := I1.kept fun b o e => hk b o (Heap.lt_size e) e
    exact call_len_set ho hex hd hf (by rw [hn, e] <;> omega) ⟨.int ((DL.dd ns).length : Nat), H1, I2.tok _, ⟨_, by rw [hn, e]⟩, q1⟩
  · obtain ⟨its, rv, pt, hz⟩ := I1.tuple hq
    have hi : IntsAre its.toArray.toList ns := ints_of_vals rv
    refine call_set_tupI ns (I1.ok.hd hc) (show s1.heap.IsTuple l its.toArray from pt) hi sb fun h' tk c R1 hcn k => ?_
    refine PyProof.Rows.args_nil ?_
    obtain ⟨o, es, ep, t, ho, hex, hdt, g, nd, hm2, hb, hf, hn, hr, hl2⟩ := R1
    have e : es.size = (DL.dd ns).length := by
      have := DL.same_length nd (DL.dd_nodup ns) fun x => by rw [DL.dd_mem, ← hm2 x]; simp
      rw [← this]; simp
    have hle : (DL.dd ns).length ≤ ns.length := DL.sub_length (DL.dd_nodup ns) fun x hx => (DL.dd_mem x ns).mp hx
    have I2 : Inv X pins σ H1 { s1 with heap := h', toks := tk } := I1.kept k
    exact call_len_set ho hex hdt hf (by rw [e] <;> omega) ⟨.int ((DL.dd ns).length : Nat), H1, I2.tok _, ⟨_, by rw [e]⟩, q1⟩
end L2

namespace DL
open PySem L2
section
variable {X : Cx}
def dLenSet (t : DT) : DT := fun δ Q => t δ fun s δ1 => match view δ1 s with
  | some (.lst ds) => match asInts ds with
    | some ns => ns.length ≤ 4000 ∧ Q (.fz (.int ((dd ns).length : Nat))) δ1
    | none => False
  | some (.tup ds) => match asInts ds with
    | some ns => ns.length ≤ 4000 ∧ Q (.fz (.int ((dd ns).length : Nat))) δ1
    | none => False
  | _ => False
theorem de_lenSet {a : Expr} {t : DT} {p p2 q pos : Pos} (hg : Gl X "len") (hm : X.mg "len" = none) (hg2 : Gl X "set") (hm2 : X.mg "set" = none) (ha : DE X a t) (hc : X.calm = true := by rfl)
    (na : starEach [a] X.env = (false, eval a X.env) :: starEach [] X.env := by rfl) : DE X (.Call (.Name "len" p) [.Call (.Name "set" p2) [a] [] q] [] pos) (dLenSet t) :=
  PE.to (pe_lenSetD hg hm hg2 hm2 ha hc na) fun σ H Q _ ⟨c, δ, W, S, ht, k⟩ => ⟨c, δ, _, S, ht, fun v H1 δ1 s S1 h => by
    obtain ⟨F, cs, T⟩ := S1
    split at h
    · rename_i ds e
      split at h
      · rename_i ns en
        obtain ⟨a, xs, rfl, q1, q2⟩ := T.one_look e
        rw [asInts_eq en, Reps.ints] at q2
        exact ⟨a, ns, rfl, .inl (by rw [← q2]; exact SqL.of q1), h.1, k _ _ _ _ (T.bare.resFz (d := .int ((dd ns).length : Nat)) rfl) h.2⟩
      · exact h.elim
    · rename_i ds e
      split at h
      · rename_i ns en
        obtain ⟨a, xs, rfl, q1, q2⟩ := T.one_look e
        rw [asInts_eq en, Reps.ints] at q2
        exact ⟨a, ns, rfl, .inr (by rw [← q2]; exact ex_t T.FH q1), h.1, k _ _ _ _ (T.bare.resFz (d := .int ((dd ns).length : Nat)) rfl) h.2⟩
      · exact h.elim
    · exact h.elim⟩
end
end DL

set_option Elab.async false
set_option linter.all false
set_option maxRecDepth 100000
set_option maxHeartbeats 4000000
/-! DLY: sorted. -/
namespace L2
open PySem PySem.Spec PyProof.Rows
/-- sorted(xs), xs a list of pairs of ints, of any kind of tuples -/
def rSortedPD (K : PySem.W.Frag) : List V → Hp → VK → Prop := fun vs H Q => ∃ (a : Addr) (zs : List (V × (Int × Int))), vs = [V.ref a] ∧ SqL K H a (zs.map (·.1)) ∧ (∀ z ∈ zs, ∃ t, z.1 = V.ref t ∧ SqT K H t [.int z.2.1, .int z.2.2]) ∧
  ∀ (ws : List (V × (Int × Int))) (p : Addr), ws.Perm zs → (ws.map (·.2)).Pairwise (fun x y => SrtO.lexB y x = false) → H p = none → Q (.ref p) (upd H p (.lst (ws.map (·.1))))
open Classical in
theorem cr_sortedPD {X : Cx} : CallR X (.builtin "sorted") (rSortedPD X.K) := by
  intro pins s σ H vs us Q I r h
  obtain ⟨a, zs, rfl, hs, hx, q⟩ := h
  let k : V → Int × Int := fun x => ((zs.find? fun z => decide (z.1 = x)).map (·.2)).getD (0, 0)
  have uniq : ∀ z ∈ zs, ∀ z' ∈ zs, z.1 = z'.1 → z.2 = z'.2 := fun z hz z' hz' e => by
    obtain ⟨t, e1, h1⟩ := hx z hz
    obtain ⟨t', e2, h2⟩ := hx z' hz'
    rw [e1, e2] at e
    cases e
    have := I.tuple_inj h1 h2
    obtain ⟨_, i, j⟩ := z
    obtain ⟨_, i', j'⟩ := z'
    have e3 : [V.int i, V.int j] = [V.int i', V.int j'] := this
    injection e3 with e4 e5
    injection e5 with e5 _
    injection e4 with e4
    injection e5 with e5
    rw [e4, e5]
  have kz : ∀ z ∈ zs, k z.1 = z.2 := fun z hz => by
    show ((zs.find? fun z' => decide (z'.1 = z.1)).map (·.2)).getD (0, 0) = z.2
    cases e : zs.find? fun z' => decide (z'.1 = z.1) with
    | none =>
      have := List.find?_eq_none.mp e z hz
      simp at this
    | some w =>
      have h1 := List.find?_some e
      have h2 := List.mem_of_find?_eq_some e
      exact uniq w h2 z hz (by simpa using h1)
  have hx' : ∀ x ∈ zs.map (·.1), ∃ t, x = V.ref t ∧ SqT X.K H t [.int (k x).1, .int (k x).2] := fun x hm => by
    obtain ⟨z, hz, rfl⟩ := List.mem_map.mp hm
    rw [kz z hz]
    exact hx z hz
  obtain ⟨its, rv, hl, hz⟩ := I.list hs
  obtain ⟨u, rfl, ru⟩ := vals1 r
  obtain rfl : u = Value.ref a := ru
  obtain ⟨e1, e2⟩ := refs_back rv fun x m => by
    obtain ⟨t, e, _⟩ := hx' x m
    exact ⟨t, e⟩
  refine SrtO.sorted_pairsO (k := fun u => k (backV u)) hl.isList (by rw [← rv.length]; exact hz) (fun v hv => ?_) fun h' d out h1 h2 kp hd hn => ?_
  · obtain ⟨t, rfl⟩ := e2 v hv
    have hm : V.ref t ∈ zs.map (·.1) := by rw [e1]; exact List.mem_map.mpr ⟨_, hv, rfl⟩
    obtain ⟨t', e, ht⟩ := hx' _ hm
    cases e
    obtain ⟨its2, r2, ⟨o, ho, hc, n, hd⟩, _⟩ := I.tuple ht
    obtain ⟨u1, u2, rfl, ri, rj⟩ := vals2 r2
    obtain ⟨t1, rfl⟩ := ri
    obtain ⟨t2, rfl⟩ := rj
    exact ⟨t, o, t1, t2, n, rfl, ho, hc, hd⟩
  · have h3 : ∀ u ∈ out, ∃ a, u = Value.ref a := fun u hu => e2 u (h2.perm.mem_iff.mp hu)
    obtain ⟨n, hn⟩ := hn
    have hp : (out.map backV).Perm (zs.map (·.1)) := by rw [e1]; exact h2.perm.map _
    let ws : List (V × (Int × Int)) := (out.map backV).map fun y => (y, k y)
    have w1 : ws.map (·.1) = out.map backV := by
      show ((out.map backV).map fun y => (y, k y)).map (·.1) = _
      rw [List.map_map]
      exact (List.map_congr_left fun y _ => rfl).trans (List.map_id _)
    have w2 : ws.Perm zs := by
      refine (hp.map fun y => (y, k y)).trans (List.Perm.of_eq ?_)
      rw [List.map_map]
      refine (List.map_congr_left fun z hz => ?_).trans (List.map_id _)
      show (z.1, k z.1) = z
      rw [kz z hz]
    have w3 : (ws.map (·.2)).Pairwise (fun x y => SrtO.lexB y x = false) := by
      have e : ws.map (·.2) = out.map fun u => k (backV u) := by
        show ((out.map backV).map fun y => (y, k y)).map (·.2) = _
        rw [List.map_map, List.map_map]
        exact List.map_congr_left fun y _ => rfl
      rw [e, List.pairwise_map]
      exact h1
    refine ⟨.ref d, upd H d (.lst (out.map backV)), I.laid (t' := s.toks) kp hd ⟨?_, out, n, vals_back h3, hn⟩, rfl, ?_⟩
    · rw [hp.length_eq]; exact hz
    · rw [← w1]
      exact q ws d w2 w3 (I.hok.fresh hd)
end L2
namespace DL
open PySem L2
/-! ### in order -/
section
variable {α : Type}
def ins (le : α → α → Bool) (x : α) : List α → List α
  | [] => [x]
  | y :: ys => if le x y = true then x :: y :: ys else y :: ins le x ys
def srt (le : α → α → Bool) : List α → List α
  | [] => []
  | x :: xs => ins le x (srt le xs)
theorem ins_perm (le : α → α → Bool) (x : α) : ∀ l : List α, (ins le x l).Perm (x :: l)
  | [] => List.Perm.refl _
  | y :: ys => by
    unfold ins
    split
    · exact List.Perm.refl _
    · exact ((ins_perm le x ys).cons y).trans (List.Perm.swap x y ys)
theorem srt_perm (le : α → α → Bool) : ∀ l : List α, (srt le l).Perm l
  | [] => List.Perm.refl _
  | x :: xs => (ins_perm le x _).trans ((srt_perm le xs).cons x)
structure LeOk (le : α → α → Bool) : Prop where
  tot : ∀ x y, le x y = false → le y x = true
  tr : ∀ x y z, le x y = true → le y z = true → le x z = true
  anti : ∀ x y, le x y = true → le y x = true → x = y
theorem ins_pw {le : α → α → Bool} (O : LeOk le) (x : α) : ∀ {l : List α}, (l.Pairwise fun a b => le a b = true) → (ins le x l).Pairwise fun a b => le a b = true
  | [], _ => List.pairwise_singleton _ _
  | y :: ys, h => by
    obtain ⟨h1, h2⟩ := List.pairwise_cons.mp h
    unfold ins
    split
    · rename_i q
      refine List.pairwise_cons.mpr ⟨fun z hz => ?_, h⟩
      rcases List.mem_cons.mp hz with e | hz
      · rw [e]; exact q
      · exact O.tr _ _ _ q (h1 z hz)
    · rename_i q
      have q := O.tot _ _ (eq_false_of_ne_true q)
      refine List.pairwise_cons.mpr ⟨fun z hz => ?_, ins_pw O x h2⟩
      rcases List.mem_cons.mp ((ins_perm le x ys).mem_iff.mp hz) with e | hz
      · rw [e]; exact q
      · exact h1 z hz
theorem srt_pw {le : α → α → Bool} (O : LeOk le) : ∀ l : List α, (srt le l).Pairwise fun a b => le a b = true
  | [] => List.Pairwise.nil
  | x :: xs => ins_pw O x (srt_pw O xs)
theorem pw_uniq {le : α → α → Bool} (O : LeOk le) : ∀ {l m : List α}, (l.Pairwise fun a b => le a b = true) → (m.Pairwise fun a b => le a b = true) → l.Perm m → l = m
  | [], m, _, _, p => (List.Perm.eq_nil p.symm).symm
  | x :: l, [], _, _, p => absurd p.length_eq (by simp)
  | x :: l, y :: m, h, k, p => by
    obtain ⟨h1, h2⟩ := List.pairwise_cons.mp h
    obtain ⟨k1, k2⟩ := List.pairwise_cons.mp k
    have e : x = y := by
      rcases List.mem_cons.mp (p.mem_iff.mp List.mem_cons_self) with e | hx
      · exact e
      · rcases List.mem_cons.mp (p.mem_iff.mpr (List.mem_cons_self (a := y) (l := m))) with e | hy
        · exact e.symm
        · exact O.anti _ _ (h1 y hy) (k1 x hx)
    subst e
    rw [pw_uniq O h2 k2 p.cons_inv]
theorem srt_uniq {le : α → α → Bool} (O : LeOk le) {l m : List α} (h : m.Pairwise fun a b => le a b = true) (p : m.Perm l) : m = srt le l := pw_uniq O h (srt_pw O l) (p.trans (srt_perm le l).symm)
end
def leI (i j : Int) : Bool := decide (i ≤ j)
def leP (p q : Int × Int) : Bool := !SrtO.lexB q p
theorem leI_ok : LeOk leI := ⟨fun x y h => by unfold leI at h ⊢; simp at h ⊢; omega, fun x y z h k => by unfold leI at h k ⊢; simp at h k ⊢; omega, fun x y h k => by unfold leI at h k; simp at h k; omega⟩
theorem leP_iff {p q : Int × Int} : leP p q = true ↔ p.1 < q.1 ∨ (p.1 = q.1 ∧ p.2 ≤ q.2) := by
  unfold leP
  rw [Bool.not_eq_true', SrtO.lexB_no]
  constructor
  · intro h
    by_cases a : p.1 < q.1
    · exact .inl a
    · by_cases b : p.1 = q.1
      · exact .inr ⟨b, by omega⟩
      · exact absurd (.inl (by omega)) h
  · rintro (h | h) (k | k) <;> omega
theorem leP_ok : LeOk leP := by
  refine ⟨fun x y h => ?_, fun x y z h k => ?_, fun x y h k => ?_⟩
  · have h : ¬ leP x y = true := by rw [h]; decide
    rw [leP_iff] at h ⊢
    omega
  · rw [leP_iff] at h k ⊢
    omega
  · rw [leP_iff] at h k
    exact Prod.ext (by omega) (by omega)
def asPairs : List Dv → Option (List (Int × Int))
  | [] => some []
  | .tup [.int a, .int b] :: ds => match asPairs ds with
    | some ps => some ((a, b) :: ps)
    | none => none
  | _ => none
def pD (p : Int × Int) : Dv := .tup [.int p.1, .int p.2]
theorem asPairs_map : ∀ ps : List (Int × Int), asPairs (ps.map pD) = some ps
  | [] => rfl
  | p :: ps => by
    show (match asPairs (ps.map pD) with | some ps => some ((p.1, p.2) :: ps) | none => none) = _
    rw [asPairs_map ps]
theorem asPairs_eq : ∀ {ds : List Dv} {ps : List (Int × Int)}, asPairs ds = some ps → ds = ps.map pD
  | [], ps, h => by cases h; rfl
  | d :: ds, ps, h => by
    unfold asPairs at h
    split at h
    · rename_i e; cases e
    · rename_i a b ds' e
      cases e
      split at h
      · rename_i qs eq
        cases h
        rw [List.map_cons, asPairs_eq eq]; rfl
      · cases h
    · cases h
def sortedF : FN := fun ds k => match ds with
  | [.lst xs] => match asInts xs with
    | some ns => k (.ml ((srt leI ns).map .int))
    | none => match asPairs xs with
      | some ps => k (.ml ((srt leP ps).map pD))
      | none => False
  | _ => False
theorem reps_pairs {K : PySem.W.Frag} {F : Hp} : ∀ {ps : List (Int × Int)} {xs : List V}, Reps K F (ps.map pD) xs → ∃ zs : List (V × (Int × Int)), xs = zs.map (·.1) ∧ ps = zs.map (·.2) ∧ ∀ z ∈ zs, Rep K F (pD z.2) z.1
  | [], _, h => ⟨[], by rw [show _ = [] from h]; rfl, rfl, by simp⟩
  | p :: ps, _, h => by
    obtain ⟨v, r, rfl, h2, h3⟩ := h
    obtain ⟨zs, rfl, rfl, hz⟩ := reps_pairs h3
    exact ⟨(v, p) :: zs, rfl, rfl, fun z hm => by
      rcases List.mem_cons.mp hm with e | hm
      · subst e; exact h2
      · exact hz z hm⟩
theorem pairs_reps {K : PySem.W.Frag} {F : Hp} : ∀ {zs : List (V × (Int × Int))}, (∀ z ∈ zs, Rep K F (pD z.2) z.1) → Reps K F ((zs.map (·.2)).map pD) (zs.map (·.1))
  | [], _ => rfl
  | z :: zs, h => Reps.cons (h z List.mem_cons_self) (pairs_reps fun y hy => h y (List.mem_cons_of_mem _ hy))
theorem cd_sorted {X : Cx} : CallD X (.builtin "sorted") sortedF := CallR.to (CallR.or cr_sortedI cr_sortedPD) fun xs H Q h => by
  obtain ⟨c, σ, δ, ss, ds, W, F, cs, S, e, hf, k⟩ := h.open
  unfold sortedF at hf
  split at hf
  · split at hf
    · rename_i ns en
      obtain ⟨v, rfl, a, vs, rfl, q1, q2⟩ := S.looks1 e
      rw [asInts_eq en, Reps.ints] at q2
      refine .inl ⟨a, ns, rfl, by rw [← q2]; exact SqL.of q1, fun ns' p hp hw hH => ?_⟩
      have : ns' = srt leI ns := srt_uniq leI_ok (hw.imp fun h => by unfold leI; simpa using h) hp
      subst this
      exact k _ hf _ _ (S.resL hH ((Reps.ints _).mpr rfl))
    · split at hf
      · rename_i ps en
        obtain ⟨v, rfl, a, vs, rfl, q1, q2⟩ := S.looks1 e
        rw [asPairs_eq en] at q2
        obtain ⟨zs, rfl, rfl, hz⟩ := reps_pairs q2
        refine .inr ⟨a, zs, rfl, SqL.of q1, fun z hm => ?_, fun ws p hp hw hH => ?_⟩
        · obtain ⟨t, vs', e1, h1, h2⟩ := hz z hm
          obtain ⟨v1, r1, rfl, i1, v2, r2, rfl, i2, hn⟩ := h2
          rw [show r2 = [] from hn, show v1 = V.int z.2.1 from i1, show v2 = V.int z.2.2 from i2] at h1
          exact ⟨t, e1, ex_t S.FH h1⟩
        · have e2 : ws.map (·.2) = srt leP (zs.map (·.2)) := srt_uniq leP_ok (hw.imp fun h => by unfold leP; rw [h]; rfl) (hp.map _)
          refine k _ hf _ _ (S.resL hH ?_)
          rw [← e2]
          exact pairs_reps fun z hm => hz z (hp.mem_iff.mp hm)
      · exact hf.elim
  · exact hf.elim
end DL

set_option Elab.async false
set_option linter.all false
set_option maxRecDepth 100000
set_option maxHeartbeats 4000000
/-! DLW: extend, remove; get and pop of dicts. -/
namespace DL
open PySem L2
section
variable {X : Cx} {o e f : Expr} {es : List Expr} {to ti tx : DT} {ta : DTA} {apos cpos : Pos}
def extendM : FM := fun s ss δ Q => match s, ss with
  | .al k, [x] => match view δ x, δ[k]? with
    | some (.lst es), some (some (.ml ds)) => ds.length + es.length ≤ sizeLine ∧ force (δ.set k (some (.ml (ds ++ es)))) (Q (.fz .non))
    | _, _ => False
  | _, _ => False
theorem extendM_ok {K : PySem.W.Frag} {σ : St} (c : Ctx) (v : V) (vs : List V) (H : Hp) (δ : DS) (s : Sl) (ss : List Sl) (W : Sl → DS → Prop) (Q : VK) (S : Sim K c σ H δ (v :: vs) (s :: ss)) (h : extendM s ss δ W) (k : ∀ z H' δ' r, Sim K c σ H' δ' [z] [r] → W r δ' → Q z H') : rExtend v vs H Q := by
  unfold extendM at h
  split at h
  · rename_i kk x
    split at h
    · rename_i es ds ex ek
      obtain ⟨F, cs, S1⟩ := S
      obtain ⟨p, xs, hc, hp, hH, r, hF⟩ := S1.own ek
      obtain ⟨v', ev, hv⟩ := S1.alv (j := 0) rfl
      obtain ⟨u, eu, lu⟩ := S1.look (j := 1) rfl ex
      obtain ⟨b, zs, eb, q1, q2⟩ := lu
      have hvs : vs = [u] := by
        have := S1.rlen
        match vs, this, eu with
        | [w], _, eu => exact congrArg (fun z => [z]) (Option.some.inj eu)
      cases ev
      rw [hp] at hv; cases hv
      refine ⟨p, b, xs, zs, rfl, by rw [hvs, eb], hH, q1, by rw [← r.length, ← q2.length]; exact h.1, k _ _ _ _ ?_ (force_iff.mp h.2)⟩
      exact (S1.setL ek hc (r.append q2)).resFz rfl
    · exact h.elim
  · exact h.elim
theorem de_extend (ho : DE X o to) (ha : DA X (e :: es) ta) (hbase : attributeBase o "extend" X.env (eval o X.env) = eval o X.env := by rfl)
    (hfew : ((backTo cpos (starEach (e :: es) X.env)).all (fun x => !x.1) && (backToKw cpos (keywordEach [] X.env)).all (fun x => x.1.isSome)
      && decide ((e :: es).length + ([] : List Keyword).length + (if ([] : List Keyword).isEmpty then 0 else 1) < 30)) = true := by rfl)
    (hline : (apos.endLine == cpos.line) = true := by rfl) (hs : starEach (e :: es) X.env = (false, eval e X.env) :: starEach es X.env := by rfl) (hplain : (backTo cpos (starEach es X.env)).any (·.1) = false := by rfl) :
    DE X (.Call (.Attribute o "extend" apos) (e :: es) [] cpos) (dMt extendM to ta) :=
  de_bm PySem.F.slot_list_extend PySem.F.type_list_extend mt_extend (fun σ => extendM_ok) ho ha hbase hfew hline hs hplain
def removeM : FM := fun s ss δ Q => match s, ss with
  | .al k, [x] => match view δ x, δ[k]? with
    | some (.int i), some (some (.ml ds)) => match asInts ds with
      | some ns => i ∈ ns ∧ force (δ.set k (some (.ml ((ns.erase i).map .int)))) (Q (.fz .non))
      | none => False
    | _, _ => False
  | _, _ => False
theorem removeM_ok {K : PySem.W.Frag} {σ : St} (c : Ctx) (v : V) (vs : List V) (H : Hp) (δ : DS) (s : Sl) (ss : List Sl) (W : Sl → DS → Prop) (Q : VK) (S : Sim K c σ H δ (v :: vs) (s :: ss)) (h : removeM s ss δ W) (k : ∀ z H' δ' r, Sim K c σ H' δ' [z] [r] → W r δ' → Q z H') : rRemI v vs H Q := by
  unfold removeM at h
  split at h
  · rename_i kk x
    split at h
    · rename_i i ds ex ek
      split at h
      · rename_i ns en
        obtain ⟨F, cs, S1⟩ := S
        obtain ⟨p, xs, hc, hp, hH, r, hF⟩ := S1.own ek
        obtain ⟨v', ev, hv⟩ := S1.alv (j := 0) rfl
        obtain ⟨u, eu, lu⟩ := S1.look (j := 1) rfl ex
        have hvs : vs = [.int i] := by
          have := S1.rlen
          match vs, this, eu with
          | [w], _, eu =>
            have : w = u := Option.some.inj eu
            rw [this, show u = V.int i from lu]
        cases ev
        rw [hp] at hv; cases hv
        have rx : xs = ns.map V.int := by rw [asInts_eq en, Reps.ints] at r; exact r
        obtain ⟨j, j1, j2, j3, j4⟩ := first_at h.1
        refine ⟨p, ns, i, j, rfl, hvs, by rw [← rx]; exact hH, j2, fun m hm => j3 m hm, ?_⟩
        rw [j4]
        exact k _ _ _ _ ((S1.setL ek hc ((Reps.ints (ns.erase i)).mpr rfl)).resFz (d := .non) rfl) (force_iff.mp h.2)
      · exact h.elim
    · exact h.elim
  · exact h.elim
theorem de_remove (ho : DE X o to) (ha : DA X (e :: es) ta) (hbase : attributeBase o "remove" X.env (eval o X.env) = eval o X.env := by rfl)
    (hfew : ((backTo cpos (starEach (e :: es) X.env)).all (fun x => !x.1) && (backToKw cpos (keywordEach [] X.env)).all (fun x => x.1.isSome)
      && decide ((e :: es).length + ([] : List Keyword).length + (if ([] : List Keyword).isEmpty then 0 else 1) < 30)) = true := by rfl)
    (hline : (apos.endLine == cpos.line) = true := by rfl) (hs : starEach (e :: es) X.env = (false, eval e X.env) :: starEach es X.env := by rfl) (hplain : (backTo cpos (starEach es X.env)).any (·.1) = false := by rfl) :
    DE X (.Call (.Attribute o "remove" apos) (e :: es) [] cpos) (dMt removeM to ta) :=
  de_bm PySem.F.slot_list_remove PySem.F.type_list_remove mt_remove (fun σ => removeM_ok) ho ha hbase hfew hline hs hplain
/-! ### dicts -/
def isDc (δ : DS) (s : Sl) : Prop := match view δ s with
  | some (.dic _ _) => True
  | _ => False
theorem isDc_at {K : PySem.W.Frag} {c : Ctx} {σ : St} {H : Hp} {δ : DS} {v : V} {s : Sl} (S : Sim K c σ H δ [v] [s]) (h : isDc δ s) : ∃ a, v = .ref a ∧ IsD H a := by
  obtain ⟨F, cs, S⟩ := S
  unfold isDc at h
  split at h
  · rename_i ks ds e
    obtain ⟨a, xs, rfl, q1, _⟩ := S.one_look e
    exact ⟨a, rfl, .inl ⟨_, .inl q1⟩⟩
  · exact h.elim
def dGet2 (to ti tx : DT) : DT := fun δ Q => to δ fun s δ1 => isDc δ1 s ∧ ti δ1 fun y δ2 => tx δ2 fun z δ3 => match view δ3 s, view δ3 y with
  | some (.dic ks ds), some dy => ∃ q, keyD dy = some q ∧ match valA (ks.zip ds) q with
    | some d => Q (.fz d) δ3
    | none => match fzR z δ3 with
      | some (d, δ4) => Q (.fz d) δ4
      | none => False
  | _, _ => False
theorem de_get2 (hu : X.A.units + 65 < cLine) (ho : DE X o to) (he : DE X e ti) (hf : DE X f tx) (hbase : attributeBase o "get" X.env (eval o X.env) = eval o X.env := by rfl)
    (few : ((backTo cpos (starEach [e, f] X.env)).all (fun x => !x.1) && (backToKw cpos (keywordEach [] X.env)).all (fun x => x.1.isSome)
    && decide (([e, f] : List Expr).length + ([] : List Keyword).length + (if ([] : List Keyword).isEmpty then 0 else 1) < 30)) = true := by rfl) (line : (apos.endLine == cpos.line) = true := by rfl)
    (trees : backTo cpos (starEach [e, f] X.env) = [(false, eval e X.env), (false, eval f X.env)] := by rfl) : DE X (.Call (.Attribute o "get" apos) [e, f] [] cpos) (dGet2 to ti tx) :=
  PE.to (pe_dget2 (by omega) ho he hf ⟨hbase, few, line, trees⟩) fun σ H Q _ ⟨c, δ, W, S, ht, k⟩ => ⟨c, δ, _, S, ht, fun v H1 δ1 s S1 ⟨hd, h1⟩ => by
    obtain ⟨a, rfl, isd⟩ := isDc_at S1 hd
    obtain ⟨c1, l1, S2, back1⟩ := S1.hold
    refine ⟨a, rfl, isd, c1, δ1, _, S2, h1, fun y H2 δ2 sy S3 h2 => ?_⟩
    have S4 := back1 S3
    obtain ⟨c2, l2, S5, back2⟩ := S4.hold
    refine ⟨c2, δ2, _, S5, h2, fun z H3 δ3 sz S6 h3 => ?_⟩
    have S7 : Sim X.K c σ H3 δ3 [.ref a, y, z] [s, sy, sz] := back2 S6
    obtain ⟨F, cs, T⟩ := S7
    split at h3
    · rename_i ks ds dy e1 e2
      obtain ⟨q, hq, h3⟩ := h3
      obtain ⟨v1, ev1, lv⟩ := T.look (j := 0) rfl e1
      obtain ⟨v2, ev2, ly⟩ := T.look (j := 1) rfl e2
      cases ev1; cases ev2
      obtain ⟨b, xs, eb, q1, q2, q3⟩ := lv
      cases eb
      have ra := RA.of q2 q3
      refine ⟨_, by rw [keyD_v hq ly]; exact DGet.k q1, ?_⟩
      split at h3
      · rename_i d ed
        obtain ⟨x, ex, rx⟩ := (ra.val q).1 d ed
        rw [ex]
        exact k _ _ _ _ (T.bare.resFz rx) h3
      · rename_i ed
        rw [(ra.val q).2 ed]
        have P : Sim X.K c σ H3 δ3 [z] [sz] := T.perm (pm := [2]) (by decide) (by simp)
        split at h3
        · rename_i d δ4 ef
          exact k z _ _ _ (P.fz ef) h3
        · exact h3.elim
    · exact h3.elim⟩
def dPop1 (to ti : DT) : DT := fun δ Q => to δ fun s δ1 => isDc δ1 s ∧ ti δ1 fun y δ2 => match s, view δ2 y with
  | .al k, some dy => match δ2[k]? with
    | some (some (.md ks ds)) => ∃ q d, keyD dy = some q ∧ valA (ks.zip ds) q = some d ∧ force (δ2.set k (some (.md (ksA (dropA (ks.zip ds) q)) (vsA (dropA (ks.zip ds) q))))) (Q (.fz d))
    | _ => False
  | _, _ => False
theorem de_pop1 (ho : DE X o to) (he : DE X e ti) (hbase : attributeBase o "pop" X.env (eval o X.env) = eval o X.env := by rfl)
    (few : ((backTo cpos (starEach [e] X.env)).all (fun x => !x.1) && (backToKw cpos (keywordEach [] X.env)).all (fun x => x.1.isSome)
    && decide (([e] : List Expr).length + ([] : List Keyword).length + (if ([] : List Keyword).isEmpty then 0 else 1) < 30)) = true := by rfl) (line : (apos.endLine == cpos.line) = true := by rfl)
    (trees : backTo cpos (starEach [e] X.env) = [(false, eval e X.env)] := by rfl) : DE X (.Call (.Attribute o "pop" apos) [e] [] cpos) (dPop1 to ti) :=
  PE.to (pe_dpop1 ho he ⟨hbase, few, line, trees⟩) fun σ H Q _ ⟨c, δ, W, S, ht, k⟩ => ⟨c, δ, _, S, ht, fun v H1 δ1 s S1 ⟨hd, h1⟩ => by
    obtain ⟨a, rfl, isd⟩ := isDc_at S1 hd
    obtain ⟨c1, l1, S2, back1⟩ := S1.hold
    refine ⟨a, rfl, isd, c1, δ1, _, S2, h1, fun y H2 δ2 sy S3 h2 => ?_⟩
    have S4 : Sim X.K c σ H2 δ2 [.ref a, y] [s, sy] := back1 S3
    obtain ⟨F, cs, T⟩ := S4
    cases s with
    | al kk =>
      generalize ey : view δ2 sy = oy at h2
      cases oy with
      | some dy =>
        dsimp only at h2
        split at h2
        · rename_i ks ds ek
          obtain ⟨q, d, hq, hv, hw⟩ := h2
          obtain ⟨v2, ev2, ly⟩ := T.look (j := 1) rfl ey
          cases ev2
          obtain ⟨p, m, hc, hp, hH, r, hF⟩ := T.ownD ek
          obtain ⟨v', ev, hv'⟩ := T.alv (j := 0) rfl
          cases ev
          rw [hp] at hv'; cases hv'
          obtain ⟨x, ex, rx⟩ := (r.val q).1 d hv
          exact ⟨m, q, x, hH, keyD_v hq ly, ex, k _ _ _ _ ((T.setD ek hc (RA.drop r)).resFz rx) (force_iff.mp hw)⟩
        · exact h2.elim
      | none => exact h2.elim
    | _ => exact h2.elim⟩
end
end DL

set_option Elab.async false
set_option linter.all false
set_option maxRecDepth 100000
set_option maxHeartbeats 4000000
/-! DLV: zip of three. -/
namespace DL
open PySem PySem.Spec PyProof.Rows L2
def Itz3 (K : PySem.W.Frag) (c1 c2 c3 : Src) : It :=
  ⟨fun i H => ∃ (xs ys zs : List V) (x y z : V), SrcAt K H c1 xs ∧ SrcAt K H c2 ys ∧ SrcAt K H c3 zs ∧ xs[i]? = some x ∧ ys[i]? = some y ∧ zs[i]? = some z,
    fun i H v H' => ∃ T x y z u, v = .ref T ∧ H T = none ∧ TupU u [x, y, z] ∧ H' = upd H T u ∧ (∀ xs, SrcAt K H c1 xs → xs[i]? = some x) ∧ (∀ ys, SrcAt K H c2 ys → ys[i]? = some y) ∧ ∀ zs, SrcAt K H c3 zs → zs[i]? = some z,
    fun i H => ∃ xs ys zs : List V, SrcAt K H c1 xs ∧ SrcAt K H c2 ys ∧ SrcAt K H c3 zs ∧ i = min (min xs.length ys.length) zs.length⟩
theorem turn_zip3 {P : Program} {w : World} {K : PySem.W.Frag} {elts : List Expr} {kk : Nat} {tpos : Pos} {c1 c2 c3 : Src} {z TI TO i1 i2 i3 : Addr} (D : ZipSep3 z TI TO i1 i2 i3 [i1, c1.ad] [i2, c2.ad] [i3, c3.ad]) :
    Turn P w K (.Tuple elts kk tpos) (Itz3 K c1 c2 c3) [z, TI, TO, i1, i2, i3] z (fun i h => IsZip h z TI TO .none ∧ IsTupOf3 h TI (.ref i1) (.ref i2) (.ref i3) ∧ (∃ x y u, IsTupOf3 h TO x y u) ∧ SrcIt h i1 c1 i ∧ SrcIt h i2 c2 i ∧ SrcIt h i3 c3 i) where
  mem := by simp
  obj := fun i h st c hc => by
    obtain ⟨hz, hTI, ⟨x, y, u, hTO⟩, h1, h2, h3⟩ := st
    have e' : c = z ∨ c = TI ∨ c = TO ∨ c = i1 ∨ c = i2 ∨ c = i3 := by simpa using hc
    rcases e' with q | q | q | q | q | q
    · rw [q]; exact ⟨_, hz, fun v q => nomatch q⟩
    · rw [q]; exact ⟨_, hTI, fun v q => nomatch q⟩
    · rw [q]; exact ⟨_, hTO, fun v q => nomatch q⟩
    · rw [q]; obtain ⟨o, ho, _, hd⟩ := src_it_obj h1; exact ⟨o, ho, hd⟩
    · rw [q]; obtain ⟨o, ho, _, hd⟩ := src_it_obj h2; exact ⟨o, ho, hd⟩
    · rw [q]; obtain ⟨o, ho, _, hd⟩ := src_it_obj h3; exact ⟨o, ho, hd⟩
  keep := fun i h h' st k => by
    obtain ⟨hz, hTI, ⟨x, y, u, hTO⟩, h1, h2, h3⟩ := st
    exact ⟨k z (by simp) _ hz, k TI (by simp) _ hTI, ⟨x, y, u, k TO (by simp) _ hTO⟩, src_it_keep h1 fun o q => k i1 (by simp) o q, src_it_keep h2 fun o q => k i2 (by simp) o q, src_it_keep h3 fun o q => k i3 (by simp) o q⟩
  item := by
    intro X hP hw hK hc i pins s σ H E I hf st hg
    subst hP hw hK
    obtain ⟨hz, hTI, ⟨x0, y0, u0, hTO⟩, h1, h2, h3⟩ := st
    obtain ⟨xs, ys, zs, x, y, zz, hqx, hqy, hqz, hx, hy, hzz⟩ := hg
    obtain ⟨its, rv, p, _⟩ := Inv.src I hqx
    obtain ⟨its2, rv2, p2, _⟩ := Inv.src I hqy
    obtain ⟨its3, rv3, p3, _⟩ := Inv.src I hqz
    obtain ⟨u, hu, ru⟩ := rv.get hx
    obtain ⟨u2, hu2, ru2⟩ := rv2.get hy
    obtain ⟨u3, hu3, ru3⟩ := rv3.get hzz
    have hzl : z < s.heap.objs.size := Heap.lt_size hz
    have l1 : i < its.toArray.size := by have := (List.getElem?_eq_some_iff.mp hu).1; simpa using this
    have l2 : i < its2.toArray.size := by have := (List.getElem?_eq_some_iff.mp hu2).1; simpa using this
    have l3 : i < its3.toArray.size := by have := (List.getElem?_eq_some_iff.mp hu3).1; simpa using this
    refine wpAny_pyNext_zipD3_item D (src_draws (A := X.A.in1) (I.ok.hd hc) i1 c1 its.toArray (src_ne h1 p)) (src_draws (A := X.A.in1) (I.ok.hd hc) i2 c2 its2.toArray (src_ne h2 p2)) (src_draws (A := X.A.in1) (I.ok.hd hc) i3 c3 its3.toArray (src_ne h3 p3)) hz hTI hTO ⟨h1, p⟩ ⟨h2, p2⟩ ⟨h3, p3⟩ l1 l2 l3 fun v1 v2 v3 h' tk hP1 hP2 hP3 z' TO' s1' s2' s3' hT hsz hk => ?_
    have e1 : v1 = u := by
      have : its[i]? = some v1 := by simpa using hP1
      rw [hu] at this; exact (Option.some.inj this).symm
    have e2 : v2 = u2 := by
      have : its2[i]? = some v2 := by simpa using hP2
      rw [hu2] at this; exact (Option.some.inj this).symm
    have e3 : v3 = u3 := by
      have : its3[i]? = some v3 := by simpa using hP3
      rw [hu3] at this; exact (Option.some.inj this).symm
    subst e1 e2 e3
    refine ⟨_, rfl, wpAny_letOwnedTupleGo_zip (s := { s with heap := h', toks := tk }) z' fun h'' z'' sb => ?_⟩
    have hT2 : h''.get? s.heap.objs.size = some { cls := .type "tuple", data := .seq #[v1, v2, v3] } := (sb.2 _ (Nat.ne_of_gt hzl)).trans hT
    have new : ObjOk X.prog X.w (upd H s.heap.objs.size (.frz { cls := .type "tuple", data := .seq #[v1, v2, v3] } (.tup [x, y, zz]))) h'' s.heap.objs.size (.frz { cls := .type "tuple", data := .seq #[v1, v2, v3] } (.tup [x, y, zz])) :=
      ⟨hT2, by show 3 ≤ sizeLine; decide, [v1, v2, v3], .cons ru (.cons ru2 (.cons ru3 .nil)), ⟨_, hT2, rfl, _, rfl⟩⟩
    have I1 : Inv X pins σ (upd H s.heap.objs.size (.frz { cls := .type "tuple", data := .seq #[v1, v2, v3] } (.tup [x, y, zz]))) { s with heap := h'', toks := tk } :=
      I.turnedNew (ch := [z, TI, TO, i1, i2, i3]) (fun c o hb q => (sb.2 c (fun q' => hb (by simp [q']))).trans (hk c o (fun q' => hb (by simp [q'])) (fun q' => hb (by simp [q'])) (fun q' => hb (by simp [q'])) (fun q' => hb (by simp [q'])) (fun q' => hb (by simp [q'])) q)) hf (Nat.le_refl _) new
    refine ⟨.ref s.heap.objs.size, _, I1, rfl, ⟨_, x, y, zz, _, rfl, I.hok.fresh (Nat.le_refl _), ⟨_, rfl, rfl, rfl⟩, rfl, fun l hl => by rw [Inv.src_inj I hl hqx]; exact hx, fun l hl => by rw [Inv.src_inj I hl hqy]; exact hy, fun l hl => by rw [Inv.src_inj I hl hqz]; exact hzz⟩, ⟨z'', ?_, ⟨v1, v2, v3, ?_⟩, ?_, ?_, ?_⟩, fun c hcm => ?_⟩
    · exact (sb.2 _ D.TIz).trans (hk _ _ D.TIz D.TITO D.TIi1 D.TIi2 D.TIi3 hTI)
    · exact (sb.2 _ D.TOz).trans TO'
    · exact src_it_keep s1'.1 fun o q => (sb.2 _ (Ne.symm D.zi1)).trans q
    · exact src_it_keep s2'.1 fun o q => (sb.2 _ (Ne.symm D.zi2)).trans q
    · exact src_it_keep s3'.1 fun o q => (sb.2 _ (Ne.symm D.zi3)).trans q
    · have hlt : c < s.heap.objs.size := by
        have e' : c = z ∨ c = TI ∨ c = TO ∨ c = i1 ∨ c = i2 ∨ c = i3 := by simpa using hcm
        rcases e' with q | q | q | q | q | q
        · rw [q]; exact hzl
        · rw [q]; exact Heap.lt_size hTI
        · rw [q]; exact Heap.lt_size hTO
        · rw [q]; obtain ⟨_, e1, _⟩ := src_it_obj h1; exact Heap.lt_size e1
        · rw [q]; obtain ⟨_, e2, _⟩ := src_it_obj h2; exact Heap.lt_size e2
        · rw [q]; obtain ⟨_, e2, _⟩ := src_it_obj h3; exact Heap.lt_size e2
      rw [upd_ne (Nat.ne_of_lt hlt)]
      exact (hf c hcm).1
  done := by
    intro X hP hw hK hc i pins s σ H E I hf st hg
    subst hP hw hK
    obtain ⟨hz, hTI, ⟨x0, y0, u0, hTO⟩, h1, h2, h3⟩ := st
    obtain ⟨xs, ys, zs, hqx, hqy, hqz, hend⟩ := hg
    obtain ⟨its, rv, p, _⟩ := Inv.src I hqx
    obtain ⟨its2, rv2, p2, _⟩ := Inv.src I hqy
    obtain ⟨its3, rv3, p3, _⟩ := Inv.src I hqz
    have l1 := rv.length
    have l2 := rv2.length
    have l3 := rv3.length
    refine wpAny_pyNext_zipD3_end D (src_draws (A := X.A.in1) (I.ok.hd hc) i1 c1 its.toArray (src_ne h1 p)) (src_draws (A := X.A.in1) (I.ok.hd hc) i2 c2 its2.toArray (src_ne h2 p2)) (src_draws (A := X.A.in1) (I.ok.hd hc) i3 c3 its3.toArray (src_ne h3 p3)) hz hTI hTO ⟨h1, p⟩ ⟨h2, p2⟩ ⟨h3, p3⟩ (by simp; omega) (by simp; omega) (by simp; omega) (by simp; omega) fun h' tk hk => ⟨rfl, I.turnedL (ch := [z, TI, TO, i1, i2, i3]) (fun c o hb q =>
      hk c o (fun q' => hb (by simp [q'])) (fun q' => hb (by simp [q'])) (fun q' => hb (by simp [q'])) (fun q' => hb (by simp [q'])) (fun q' => hb (by simp [q'])) q) hf⟩
  self := fun A i s Q E st h => wpAny_pyIter_zip st.1 h
def iZip3 (K : PySem.W.Frag) (ta : TA) : TI := fun σ H R => ta σ H fun vs H1 => ∃ c1 c2 c3 xs ys zs, vs = [.ref c1.ad, .ref c2.ad, .ref c3.ad] ∧ SrcAt K H1 c1 xs ∧ SrcAt K H1 c2 ys ∧ SrcAt K H1 c3 zs ∧ R (Itz3 K c1 c2 c3) H1
theorem pi_zip3 {X : Cx} {e e2 e3 : Expr} {ta : TA} {p pos tpos : Pos} {elts : List Expr} {kk : Nat} (hg : Gl X "zip") (hm : X.mg "zip" = none) (ha : PA X [e, e2, e3] ta)
    (hs : starEach [e, e2, e3] X.env = (false, eval e X.env) :: starEach [e2, e3] X.env := by rfl) (hpl : (backTo pos (starEach [e2, e3] X.env)).any (·.1) = false := by rfl) :
    PI X (.Tuple elts kk tpos) (.Call (.Name "zip" p) [e, e2, e3] [] pos) (iZip3 X.K ta) := by
  refine ⟨fun pins s σ H R I h => ?_⟩
  refine Call_ (ld_blt I hg hm PyProof.Rows.boot_zip (PyProof.Rows.callWith_type1 (thn (ha.run pos pins s σ H _ I h) fun us s1 ⟨vs, H1, I1, r1, q1⟩ => ?_) hs hpl))
  obtain ⟨c1, c2, c3, xs, ys, zs, ex, hqx, hqy, hqz, q⟩ := q1
  subst ex
  cases r1 with
  | cons r rr =>
    cases rr with
    | cons r' rr =>
      cases rr with
      | cons r'' rr =>
        cases rr
        cases r
        cases r'
        cases r''
        have fresh6 : ∀ c, c ∈ [s1.heap.objs.size + 5, s1.heap.objs.size + 3, s1.heap.objs.size + 4, s1.heap.objs.size, s1.heap.objs.size + 1, s1.heap.objs.size + 2] → FpOk X pins H1 c := fun c hcm => by
          have e' : c = s1.heap.objs.size + 5 ∨ c = s1.heap.objs.size + 3 ∨ c = s1.heap.objs.size + 4 ∨ c = s1.heap.objs.size ∨ c = s1.heap.objs.size + 1 ∨ c = s1.heap.objs.size + 2 := by simpa using hcm
          have hle : s1.heap.objs.size ≤ c := by
            rcases e' with z | z | z | z | z | z
            · rw [z]; exact Nat.le_add_right _ _
            · rw [z]; exact Nat.le_add_right _ _
            · rw [z]; exact Nat.le_add_right _ _
            · rw [z]; exact Nat.le_refl _
            · rw [z]; exact Nat.le_add_right _ _
            · rw [z]; exact Nat.le_add_right _ _
          exact I1.fpOk hle (I1.hok.fresh hle)
        obtain ⟨its, rv, p1, _⟩ := Inv.src I1 hqx
        obtain ⟨its2, rv2, p2, _⟩ := Inv.src I1 hqy
        obtain ⟨its3, rv3, p3, _⟩ := Inv.src I1 hqz
        obtain ⟨o1, B1, b1⟩ := src_begins c1 its.toArray
        obtain ⟨o2, B2, b2⟩ := src_begins c2 its2.toArray
        obtain ⟨o3, B3, b3⟩ := src_begins c3 its3.toArray
        refine zip_begins3 B1 B2 B3 p1 p2 p3 fun h' hz hTI hTO h1 h2 h3 hsz hk => wpAny_pyIter_zip hz ?_
        have I2 : Inv X pins σ H1 { s1 with heap := h' } := I1.kept (t' := s1.toks) hk
        obtain ⟨ob1, hb1, _⟩ := src_ob_obj p1
        obtain ⟨ob2, hb2, _⟩ := src_ob_obj p2
        obtain ⟨ob3, hb3, _⟩ := src_ob_obj p3
        have sep : ZipSep3 (s1.heap.objs.size + 5) (s1.heap.objs.size + 3) (s1.heap.objs.size + 4) s1.heap.objs.size (s1.heap.objs.size + 1) (s1.heap.objs.size + 2) [s1.heap.objs.size, c1.ad] [s1.heap.objs.size + 1, c2.ad] [s1.heap.objs.size + 2, c3.ad] :=
          zip_sep3 (fp1 := [c1.ad]) (fp2 := [c2.ad]) (fp3 := [c3.ad]) (fun b hb => one_lt (Heap.lt_size hb1) hb) (fun b hb => one_lt (Heap.lt_size hb2) hb) (fun b hb => one_lt (Heap.lt_size hb3) hb)
        exact ⟨s1.heap.objs.size + 5, [s1.heap.objs.size + 5, s1.heap.objs.size + 3, s1.heap.objs.size + 4, s1.heap.objs.size, s1.heap.objs.size + 1, s1.heap.objs.size + 2], _, _, H1, rfl, I2, turn_zip3 sep, ⟨hz, hTI, ⟨_, _, _, hTO⟩, b1 _ _ h1, b2 _ _ h2, b3 _ _ h3⟩, fresh6, q⟩
end DL
namespace DL
open PySem L2
def zip3D (ds es fs : List Dv) : List Dv := (ds.zip (es.zip fs)).map fun p => .tup [p.1, p.2.1, p.2.2]
def dZip3 (t : DTA) : DTI := fun δ Q => t δ fun ss δ1 => match ss with
  | [s, u, w] => match frzSeq s δ1 with
    | some (ds, δ2) => match frzSeq u δ2 with
      | some (es, δ3) => match frzSeq w δ3 with
        | some (fs, δ4) => Q (zip3D ds es fs) δ4
        | none => False
      | none => False
    | none => False
  | _ => False
section
variable {X : Cx} {e e2 e3 : Expr} {t : DTA} {p pos tpos : Pos} {elts : List Expr} {kk : Nat}
theorem di_zip3 (hg : Gl X "zip") (hm : X.mg "zip" = none) (ha : DA X [e, e2, e3] t) (hs : starEach [e, e2, e3] X.env = (false, eval e X.env) :: starEach [e2, e3] X.env := by rfl) (hpl : (backTo pos (starEach [e2, e3] X.env)).any (·.1) = false := by rfl) :
    DI X (.Tuple elts kk tpos) (.Call (.Name "zip" p) [e, e2, e3] [] pos) (dZip3 t) :=
  PI.to (pi_zip3 hg hm ha hs hpl) fun σ H R _ ⟨c, δ, W, S, ht, k⟩ => by
    refine ⟨c, δ, _, S, ht, fun vs H' δ1 ss S1 hw => ?_⟩
    split at hw
    · rename_i s u w
      split at hw
      · rename_i ds δ2 ef
        split at hw
        · rename_i es δ3 eg
          split at hw
          · rename_i fs δ4 eh
            obtain ⟨d, hd, S2⟩ := S1.frzSeq_at (j := 0) rfl ef
            obtain ⟨d', hd', S3⟩ := S2.frzSeq_at (j := 1) rfl eg
            obtain ⟨d'', hd'', F, cs, S4⟩ := S3.frzSeq_at (j := 2) rfl eh
            obtain ⟨v, ev, hr⟩ := S4.repR (j := 0) rfl
            obtain ⟨v', ev', hr'⟩ := S4.repR (j := 1) rfl
            obtain ⟨v'', ev'', hr''⟩ := S4.repR (j := 2) rfl
            have evs : vs = [v, v', v''] := by
              have := S4.rlen
              match vs, this, ev, ev', ev'' with
              | [w, w', w''], _, ev, ev', ev'' => cases ev; cases ev'; cases ev''; rfl
            obtain ⟨c1, xs, rfl, q1, q2⟩ := src_of hr hd
            obtain ⟨c2, ys, rfl, r1, r2⟩ := src_of hr' hd'
            obtain ⟨c3, zs, rfl, t1, t2⟩ := src_of hr'' hd''
            refine ⟨c1, c2, c3, xs, ys, zs, evs, q1.mono S4.FH, r1.mono S4.FH, t1.mono S4.FH, k _ H' δ4 (zip3D ds es fs) ⟨F, c.R, c.P⟩ S4.know_le ⟨F, cs, S4.know.bare⟩ ?_ hw⟩
            intro i c2 σ2 H2 δ5 e2 ⟨F5, cs5, S5⟩
            have e3 : Ex F H2 := (e2.trans S5.fF).trans S5.FH
            have hn := Reps.length q2
            have hm := Reps.length r2
            have ho := Reps.length t2
            have hl : (zip3D ds es fs).length = min ds.length (min es.length fs.length) := by simp [zip3D]
            refine ⟨fun hi => ?_, fun hi => ?_, fun x H3 d' hd' y => ?_⟩
            · rw [hl] at hi
              exact ⟨xs, ys, zs, xs[i]'(by omega), ys[i]'(by omega), zs[i]'(by omega), q1.mono e3, r1.mono e3, t1.mono e3, List.getElem?_eq_getElem _, List.getElem?_eq_getElem _, List.getElem?_eq_getElem _⟩
            · rw [hl] at hi
              exact ⟨xs, ys, zs, q1.mono e3, r1.mono e3, t1.mono e3, by omega⟩
            · obtain ⟨T, x1, y1, z1, u1, rfl, hT, hu1, rfl, hx, hy, hz⟩ := y
              unfold zip3D at hd'
              rw [List.getElem?_map] at hd'
              cases q : (ds.zip (es.zip fs))[i]? with
              | none => rw [q] at hd'; cases hd'
              | some p1 =>
                obtain ⟨a1, b1, g1⟩ := p1
                rw [q] at hd'
                cases hd'
                rw [List.getElem?_zip_eq_some, List.getElem?_zip_eq_some] at q
                obtain ⟨v1, q3, q4⟩ := Reps.get q2 q.1
                obtain ⟨w1, q5, q6⟩ := Reps.get r2 q.2.1
                obtain ⟨w2, q7, q8⟩ := Reps.get t2 q.2.2
                have h1 := hx xs (q1.mono e3)
                have h2 := hy ys (r1.mono e3)
                have h3 := hz zs (t1.mono e3)
                rw [q3] at h1; cases h1
                rw [q5] at h2; cases h2
                rw [q7] at h3; cases h3
                exact S5.resT hu1 hT (Reps.cons (q4.mono (e2.trans S5.fF)) (Reps.cons (q6.mono (e2.trans S5.fF)) (Reps.cons (q8.mono (e2.trans S5.fF)) Reps.nil)))
          · exact hw.elim
        · exact hw.elim
      · exact hw.elim
    · exact hw.elim
end
/-! ### a name's list or dict frozen ahead of a statement -/
def dFrz (i : Nat) (t : DTS) : DTS := fun E δ => match δ[i]? with
  | some (some (.ml ds)) => t E (δ.set i (some (.fz (.lst ds))))
  | some (some (.md ks ds)) => t E (δ.set i (some (.fz (.dic ks ds))))
  | _ => False
theorem frz_sim {K : PySem.W.Frag} {c : Ctx} {σ : St} {H : Hp} {δ : DS} {i : Nat} {s : Sl} {d : Dv} (S : Sim K c σ H δ [] []) (e : δ[i]? = some (some s)) (hd : (∃ ds, s = .ml ds ∧ d = .lst ds) ∨ ∃ ks ds, s = .md ks ds ∧ d = .dic ks ds) : Sim K c σ H (δ.set i (some (.fz d))) [] [] := by
  obtain ⟨F, cs, S⟩ := S
  have hi := (List.getElem?_eq_some_iff.mp e).1
  refine S.freeze (x := .inl i) (getX_inl.mpr e) hd (List.length_set) rfl (getX_inl.mpr (List.getElem?_set_self hi)) fun y hy => ?_
  cases y with
  | inr j => rfl
  | inl j =>
    have ne : i ≠ j := fun q => hy (by rw [q])
    show ((δ.set i (some (.fz d)))[j]?).join = (δ[j]?).join
    rw [List.getElem?_set_ne ne]
theorem dm_frz {X : Cx} {P : List (Nat × V)} {st : Stmt} {t : DTS} {i : Nat} (h : DStm X P st t) : DStm X P st (dFrz i t) :=
  PS.to h fun D σ H _ ⟨F, R, δ, E, S, ht, k⟩ => by
    unfold dFrz at ht
    split at ht
    · rename_i ds e
      exact ⟨F, R, _, E, frz_sim S e (.inl ⟨ds, rfl, rfl⟩), ht, k⟩
    · rename_i ks ds e
      exact ⟨F, R, _, E, frz_sim S e (.inr ⟨ks, ds, rfl, rfl⟩), ht, k⟩
    · exact ht.elim
end DL

set_option Elab.async false
set_option linter.all false
set_option maxRecDepth 100000
set_option maxHeartbeats 4000000
/-! EVA: typed readings: what an expression gives, where a statement ends. -/
namespace DL
open PySem L2
/-! ### encodings -/
abbrev eI : Int → Dv := Dv.int
abbrev eB : Bool → Dv := Dv.bl
abbrev eS : Str → Dv := Dv.str
abbrev eN : Unit → Dv := fun _ => Dv.non
abbrev eA : Dv → Dv := fun d => d
def eO {α : Type} (e : α → Dv) : Option α → Dv
  | none => .non
  | some x => e x
abbrev eL {α : Type} (e : α → Dv) : List α → Dv := fun xs => .lst (xs.map e)
abbrev eT {α : Type} (e : α → Dv) : List α → Dv := fun xs => .tup (xs.map e)
abbrev eP {α β : Type} (e : α → Dv) (f : β → Dv) : α × β → Dv := fun p => .tup [e p.1, f p.2]
abbrev eP3 {α β γ : Type} (e : α → Dv) (f : β → Dv) (g : γ → Dv) : α × β × γ → Dv := fun p => .tup [e p.1, f p.2.1, g p.2.2]
abbrev eP4 {α β γ ε : Type} (e : α → Dv) (f : β → Dv) (g : γ → Dv) (k : ε → Dv) : α × β × γ × ε → Dv := fun p => .tup [e p.1, f p.2.1, g p.2.2.1, k p.2.2.2]
abbrev lP2 {α β : Type} (e : α → Dv) (f : β → Dv) : α × β → Dv := fun p => .lst [e p.1, f p.2]
abbrev lP3 {α β γ : Type} (e : α → Dv) (f : β → Dv) (g : γ → Dv) : α × β × γ → Dv := fun p => .lst [e p.1, f p.2.1, g p.2.2]
/-! ### steps of what is reckoned -/
theorem bnd {α β : Type} {x : Option α} {f : α → Option β} {r : β} (h : x.bind f = some r) : ∃ a, x = some a ∧ f a = some r := Option.bind_eq_some_iff.mp h
theorem bnds {α β : Type} {x : α} {f : α → Option β} {r : β} (h : (some x).bind f = some r) : ∃ a, x = a ∧ f a = some r := ⟨x, rfl, h⟩
theorem ite_t {α : Type} {b : Bool} {x y r : α} (hc : b = true) (h : (if b = true then x else y) = r) : x = r := by rwa [if_pos hc] at h
theorem ite_f {α : Type} {b : Bool} {x y r : α} (hc : b = false) (h : (if b = true then x else y) = r) : y = r := by
  subst hc; exact h
/-! ### judgements -/
def Ev (t : DT) (δ : DS) (s : Sl) (δ' : DS) : Prop := ∀ Q : Sl → DS → Prop, Q s δ' → t δ Q
def EvT (t : DTB) (δ : DS) (b : Bool) (δ' : DS) : Prop := ∀ Q : Bool → DS → Prop, Q b δ' → t δ Q
def EvA (t : DTA) (δ : DS) (ss : List Sl) (δ' : DS) : Prop := ∀ Q : List Sl → DS → Prop, Q ss δ' → t δ Q
def EvI (t : DTI) (δ : DS) (ds : List Dv) (δ' : DS) : Prop := ∀ Q : List Dv → DS → Prop, Q ds δ' → t δ Q
def EvO (t : DTO) (δ : DS) (o : Option Int) (δ' : DS) : Prop := ∀ Q : Option Int → DS → Prop, Q o δ' → t δ Q
def EvG (g : DG) (s : Sl) (δ δ' : DS) : Prop := ∀ Q : DS → Prop, Q δ' → g s δ Q
def EvGs (g : DGs) (ds : List Dv) (δ δ' : DS) : Prop := ∀ Q : DS → Prop, Q δ' → g ds δ Q
section
variable {δ δ1 δ2 δ3 : DS} {s s' s1 s2 x y r : Sl} {ss : List Sl} {d dx dy : Dv} {ds : List Dv} {t ta tb tu : DT} {ts : DTA} {f : F2} {fn : FN} {b c : Bool} {i k : Nat}
theorem Ev.as (h : Ev t δ s δ1) (e : s = s') : Ev t δ s' δ1 := e ▸ h
theorem ev_fz (h : δ[i]? = some (some (.fz d))) : Ev (dVar i) δ (.fz d) δ := fun Q q => by unfold dVar; rw [h]; exact q
theorem ev_ml (h : δ[i]? = some (some (.ml ds))) : Ev (dVar i) δ (.al i) δ := fun Q q => by unfold dVar; rw [h]; exact q
theorem ev_md {ks : List Key} (h : δ[i]? = some (some (.md ks ds))) : Ev (dVar i) δ (.al i) δ := fun Q q => by unfold dVar; rw [h]; exact q
theorem ev_dl {dd : Deal} (h : δ[i]? = some (some (.deal dd))) : Ev (dVar i) δ (.al i) δ := fun Q q => by unfold dVar; rw [h]; exact q
theorem ev_c : Ev (dC d) δ (.fz d) δ := fun Q q => q
theorem ev_bin (ha : Ev ta δ x δ1) (hb : Ev tb δ1 y δ2) (vx : view δ2 x = some dx) (vy : view δ2 y = some dy) (hf : ∀ W : Sl → Prop, W r → f dx dy W) : Ev (dBin f ta tb) δ r δ2 := fun Q q =>
  ha _ (hb _ (by rw [vx, vy]; exact hf _ q))
theorem ev_neg {n : Int} (ha : Ev ta δ x δ1) (vx : view δ1 x = some (.int n)) : Ev (dNeg ta) δ (.fz (.int (-n))) δ1 := fun Q q => ha _ (by rw [vx]; exact q)
theorem eva_nil : EvA dNil δ [] δ := fun Q q => q
theorem eva_cons (h : Ev t δ s δ1) (hr : EvA ts δ1 ss δ2) : EvA (dCons t ts) δ (s :: ss) δ2 := fun Q q => h _ (hr _ q)
theorem ev_b1 (h : Ev t δ s δ1) (v : view δ1 s = some d) (hf : ∀ W : Sl → Prop, W r → fn [d] W) : Ev (dB fn (dCons t dNil)) δ r δ1 := fun Q q =>
  h _ (by show (match [s].mapM (view δ1) with | some ds => fn ds fun r => Q r δ1 | none => False)
          have : [s].mapM (view δ1) = some [d] := by simp [v]
          rw [this]; exact hf _ q)
theorem ev_b2 (h : Ev ta δ s δ1) (h2 : Ev tb δ1 s2 δ2) (v : view δ2 s = some d) (v2 : view δ2 s2 = some dx) (hf : ∀ W : Sl → Prop, W r → fn [d, dx] W) : Ev (dB fn (dCons ta (dCons tb dNil))) δ r δ2 := fun Q q =>
  h _ (h2 _ (by
    show (match [s, s2].mapM (view δ2) with | some ds => fn ds fun r => Q r δ2 | none => False)
    have : [s, s2].mapM (view δ2) = some [d, dx] := by simp [v, v2]
    rw [this]; exact hf _ q))
theorem ev_lst (ha : EvA ts δ ss δ1) (hf : fzAll ss δ1 = some (ds, δ2)) (hl : ds.length ≤ sizeLine) : Ev (dLst ts) δ (.ml ds) δ2 := fun Q q => ha _ (by rw [hf]; exact ⟨hl, q⟩)
theorem ev_tup (ha : EvA ts δ ss δ1) (hf : fzAll ss δ1 = some (ds, δ2)) (hl : ds.length ≤ sizeLine) : Ev (dTup ts) δ (.fz (.tup ds)) δ2 := fun Q q => ha _ (by rw [hf]; exact ⟨hl, q⟩)
theorem mapM_view1 (v : view δ s = some d) : [s].mapM (view δ) = some [d] := by simp [v]
/-! tests -/
theorem evt_test (h : Ev t δ s δ1) (v : view δ1 s = some (.bl b)) : EvT (dTest t) δ b δ1 := fun Q q => h _ (by rw [v]; exact q)
theorem evt_tru (h : Ev t δ s δ1) (v : view δ1 s = some d) (ht : truD d = some b) : EvT (dTru t) δ b δ1 := fun Q q => h _ (by rw [v]; dsimp only; rw [ht]; exact q)
theorem evt_not {t : DTB} (h : EvT t δ b δ1) : EvT (dNot t) δ (!b) δ1 := fun Q q => h _ q
theorem evt_and {t u : DTB} (h : EvT t δ b δ1) (hu : EvT u δ1 c δ1) : EvT (dAnd t u) δ (b && c) δ1 := fun Q q => h _ (by
  cases b with
  | true => exact hu _ q
  | false => exact q)
theorem evt_or {t u : DTB} (h : EvT t δ b δ1) (hu : EvT u δ1 c δ1) : EvT (dOr t u) δ (b || c) δ1 := fun Q q => h _ (by
  cases b with
  | true => exact q
  | false => exact hu _ q)
theorem evt_andM {t u : DTB} {B : Option Bool} (h : EvT t δ b δ1) (e : (if b = true then B else some false) = some c) (hu : b = true → B = some c → EvT u δ1 c δ1) : EvT (dAnd t u) δ c δ1 := fun Q q => h _ (by
  cases b with
  | true => exact hu rfl e _ q
  | false => cases e; exact q)
theorem evt_orM {t u : DTB} {B : Option Bool} (h : EvT t δ b δ1) (e : (if b = true then some true else B) = some c) (hu : b = false → B = some c → EvT u δ1 c δ1) : EvT (dOr t u) δ c δ1 := fun Q q => h _ (by
  cases b with
  | true => cases e; exact q
  | false => exact hu rfl e _ q)
theorem ev_ifE {α : Type} {en : α → Sl} {v w : α} {t : DTB} (h : EvT t δ b δ1) (ha : Ev ta δ1 (en v) δ2) (hb : Ev tb δ1 (en w) δ2) : Ev (dIfE t ta tb) δ (en (if b = true then v else w)) δ2 := fun Q q => h _ (by
  cases b with
  | true => exact ha _ q
  | false => exact hb _ q)
theorem ev_ifEM {t : DTB} {α : Type} {A B : Option α} {v : α} (h : EvT t δ b δ1) (e : (if b = true then A else B) = some v) (ha : b = true → A = some v → Ev ta δ1 s δ2) (hb : b = false → B = some v → Ev tb δ1 s δ2) : Ev (dIfE t ta tb) δ s δ2 := fun Q q => h _ (by
  cases b with
  | true => exact ha rfl e _ q
  | false => exact hb rfl e _ q)
/-- and, or, not as values of truth -/
theorem ev_and (h : Ev t δ s δ1) (v : view δ1 s = some (.bl b)) (es : s = .fz (.bl b)) (hu : Ev tu δ1 (.fz (.bl c)) δ1) : Ev (dAndV t tu) δ (.fz (.bl (b && c))) δ1 := fun Q q => h _ (by
  rw [v]; subst es
  cases b with
  | true => exact hu _ q
  | false => exact q)
theorem ev_or (h : Ev t δ s δ1) (v : view δ1 s = some (.bl b)) (es : s = .fz (.bl b)) (hu : Ev tu δ1 (.fz (.bl c)) δ1) : Ev (dOrV t tu) δ (.fz (.bl (b || c))) δ1 := fun Q q => h _ (by
  rw [v]; subst es
  cases b with
  | true => exact q
  | false => exact hu _ q)
theorem ev_andM {B : Option Bool} (h : Ev t δ s δ1) (es : s = .fz (.bl b)) (e : (if b = true then B else some false) = some c) (hu : b = true → B = some c → Ev tu δ1 (.fz (.bl c)) δ1) : Ev (dAndV t tu) δ (.fz (.bl c)) δ1 := fun Q q => h _ (by
  subst es
  cases b with
  | true => exact hu rfl e _ q
  | false => cases e; exact q)
theorem ev_orM {B : Option Bool} (h : Ev t δ s δ1) (es : s = .fz (.bl b)) (e : (if b = true then some true else B) = some c) (hu : b = false → B = some c → Ev tu δ1 (.fz (.bl c)) δ1) : Ev (dOrV t tu) δ (.fz (.bl c)) δ1 := fun Q q => h _ (by
  subst es
  cases b with
  | true => cases e; exact q
  | false => exact hu rfl e _ q)
theorem ev_notV (h : Ev t δ s δ1) (v : view δ1 s = some d) (ht : truD d = some b) : Ev (dNotV t) δ (.fz (.bl (!b))) δ1 := fun Q q => h _ (by rw [v]; dsimp only; rw [ht]; exact q)
/-! parts -/
theorem evo_none : EvO dNoPart δ none δ := fun Q q => q
theorem evo_some {n : Int} (h : Ev t δ s δ1) (v : view δ1 s = some (.int n)) : EvO (dPart t) δ (some n) δ1 := fun Q q => h _ (by rw [v]; exact q)
theorem ev_sl {tl th : DTO} {lo hi : Option Int} (h : Ev t δ s δ1) (hl : EvO tl δ1 lo δ2) (hh : EvO th δ2 hi δ3) (v : view δ3 s = some d) (hf : ∀ W : Sl → Prop, W r → slF d lo hi W) : Ev (dSl t tl th) δ r δ3 := fun Q q => h _ (hl _ (hh _ (by rw [v]; exact hf _ q)))
theorem ev_revL (h : Ev t δ s δ1) (v : view δ1 s = some (.lst ds)) : Ev (dRev t) δ (.ml ds.reverse) δ1 := fun Q q => h _ (by rw [v]; exact q)
theorem ev_revT (h : Ev t δ s δ1) (v : view δ1 s = some (.tup ds)) : Ev (dRev t) δ (.fz (.tup ds.reverse)) δ1 := fun Q q => h _ (by rw [v]; exact q)
/-! calls -/
theorem ev_call {S : FS} (ha : EvA ts δ ss δ1) (hv : ss.mapM (view δ1) = some ds) (hs : ∀ W : Sl → List Sl → Prop, W r [] → S (ds.map Sl.fz) W) (hn : (ss.all Sl.flat || nolstS r) = true) : Ev (dCall S ts) δ r δ1 := fun Q q => ha _ (by
  rw [hv]; exact hs _ ⟨hn, q⟩)
theorem force_i {δ : DS} {P : DS → Prop} (h : P δ) : force δ P := force_iff.mpr h
theorem ev_callM {S : FS} {rest : List Sl} {u w : Sl} (ha : EvA ts δ (.al k :: rest) δ1) (hk : δ1[k]? = some (some u)) (hv : rest.mapM (view δ1) = some ds) (hne : rest.all (fun s => match s with | .al j => j != k | _ => true) = true)
    (hs : ∀ W : Sl → List Sl → Prop, W r [w] → S (u :: ds.map Sl.fz) W) (hn : (rest.all Sl.flat || (nolstS r && nolstS w)) = true) (hd : δ1.set k (some w) = δ2) : Ev (dCallM S ts) δ r δ2 := fun Q q => ha _ (by
  show (match δ1[k]? with | some (some u) => _ | _ => False)
  rw [hk]
  dsimp only
  rw [hv]
  exact ⟨hne, hs _ ⟨hn, force_i (hd ▸ q)⟩⟩)
theorem ev_callK {S : FS} {tk : DTA} {a b : Nat} {pm : List Nat} {zs : List Sl} (ha : EvA ts δ ss δ1) (hk : EvA tk δ1 zs δ2) (hv : (pm.map fun i => (ss ++ zs).getD i (.fz .non)).mapM (view δ2) = some ds) (hc : ss.length = a ∧ zs.length = b ∧ ∀ i ∈ pm, i < a + b)
    (hs : ∀ W : Sl → List Sl → Prop, W r [] → S (ds.map Sl.fz) W) (hn : ((pm.map fun i => (ss ++ zs).getD i (.fz .non)).all Sl.flat || nolstS r) = true) : Ev (dCallK a b pm S ts tk) δ r δ2 := fun Q q => ha _ (hk _ (by
  rw [hv]; exact ⟨hc, hs _ ⟨hn, q⟩⟩))
/-! methods -/
theorem ev_append (ho : Ev t δ (.al k) δ1) (hl : isL δ1 (.al k)) (ha : Ev tu δ1 x δ2) (hf : fzR x δ2 = some (d, δ3)) (hk : δ3[k]? = some (some (.ml ds))) (hsz : ds.length < sizeLine) {δ4 : DS} (hd : δ3.set k (some (.ml (ds ++ [d]))) = δ4) : Ev (dMt appendM t (dCons tu dNil)) δ (.fz .non) δ4 := fun Q q =>
  ho _ ⟨hl, ha _ (by
    show (match fzR x δ2 with | some (d, δ1) => _ | none => False)
    rw [hf]
    dsimp only
    rw [hk]
    exact ⟨hsz, force_i (hd ▸ q)⟩)⟩
theorem ev_pop (ho : Ev t δ (.al k) δ1) (hl : isL δ1 (.al k)) (hk : δ1[k]? = some (some (.ml ds))) (hx : ds[ds.length - 1]? = some d) (hd : δ1.set k (some (.ml ds.dropLast)) = δ2) : Ev (dMt popM t dNil) δ (.fz d) δ2 := fun Q q =>
  ho _ ⟨hl, by
    show (match δ1[k]? with | some (some (.ml ds)) => _ | _ => False)
    rw [hk]
    exact ⟨d, hx, force_i (hd ▸ q)⟩⟩
theorem ev_popAt {n : Int} {j : Nat} (ho : Ev t δ (.al k) δ1) (hl : isL δ1 (.al k)) (ha : Ev tu δ1 x δ2) (vx : view δ2 x = some (.int n)) (hk : δ2[k]? = some (some (.ml ds))) (hn : -(2 ^ 63) ≤ n ∧ n < 2 ^ 63) (hj : seqIndex? n ds.length = some j) (hx : ds[j]? = some d) (hd : δ2.set k (some (.ml (ds.eraseIdx j))) = δ3) : Ev (dMt popAtM t (dCons tu dNil)) δ (.fz d) δ3 := fun Q q =>
  ho _ ⟨hl, ha _ (by
    show (match view δ2 x, δ2[k]? with | some (.int i), some (some (.ml ds)) => _ | _, _ => False)
    rw [vx, hk]
    exact ⟨hn, j, d, hj, hx, force_i (hd ▸ q)⟩)⟩
/-! targets -/
theorem evg_fz (hd : δ.set i (some (.fz d)) = δ1) : EvG (dName i) (.fz d) δ δ1 := fun Q q => force_i (hd ▸ q)
theorem evg_ml (hd : δ.set i (some (.ml ds)) = δ1) : EvG (dName i) (.ml ds) δ δ1 := fun Q q => force_i (hd ▸ q)
theorem evg_md {ks : List Key} (hd : δ.set i (some (.md ks ds)) = δ1) : EvG (dName i) (.md ks ds) δ δ1 := fun Q q => force_i (hd ▸ q)
theorem evg_dl {dd : Deal} (hd : δ.set i (some (.deal dd)) = δ1) : EvG (dName i) (.deal dd) δ δ1 := fun Q q => force_i (hd ▸ q)
theorem evg_al (hf : fzR (.al k) δ = some (d, δ1)) (hd : δ1.set i (some (.fz d)) = δ2) : EvG (dName i) (.al k) δ δ2 := fun Q q => by
  show (match fzR (.al k) δ with | some (d, δ1) => _ | none => False)
  rw [hf]; exact force_i (hd ▸ q)
theorem evgs_nil : EvGs gsNil [] δ δ := fun Q q => ⟨rfl, q⟩
theorem evgs_cons {g : DG} {gs : DGs} (h : EvG g (.fz d) δ δ1) (hr : EvGs gs ds δ1 δ2) : EvGs (gsCons g gs) (d :: ds) δ δ2 := fun Q q => h _ (hr _ q)
theorem evg_unpT {gs : DGs} {n : Nat} (hv : view δ s = some (.tup ds)) (hn : ds.length = n) (h : EvGs gs ds δ δ1) : EvG (dUnp n gs) s δ δ1 := fun Q q => by
  unfold dUnp; rw [hv]; exact ⟨hn, h _ q⟩
theorem evg_unpL {gs : DGs} {n : Nat} (hv : view δ s = some (.lst ds)) (hn : ds.length = n) (h : EvGs gs ds δ δ1) : EvG (dUnp n gs) s δ δ1 := fun Q q => by
  unfold dUnp; rw [hv]; exact ⟨hn, h _ q⟩
/-! iterables -/
theorem evi_seq (h : Ev t δ s δ1) (hf : fzR s δ1 = some (d, δ2)) (hi : itemsOf d = some ds) : EvI (dSeqI t) δ ds δ2 := fun Q q => h _ (by rw [hf]; dsimp only; rw [hi]; exact q)
theorem EvI.as {wi : DTI} {ds' : List Dv} (h : EvI wi δ ds δ1) (e : ds = ds') : EvI wi δ ds' δ1 := e ▸ h
theorem evi_rng1 {n : Int} (h : Ev t δ s δ1) (v : view δ1 s = some (.int n)) (hn : small62 n) : EvI (dRng1 (dCons t dNil)) δ (rangeD 0 n.toNat) δ1 := fun Q q => h _ (by
  show (match [s].mapM (view δ1) with | some [.int j] => _ | _ => False)
  rw [mapM_view1 v]; exact ⟨hn, q⟩)
theorem evi_rng2 {n m : Int} (h : Ev ta δ s δ1) (h2 : Ev tb δ1 s2 δ2) (v : view δ2 s = some (.int n)) (v2 : view δ2 s2 = some (.int m)) (hn : small62 n) (hm : small62 m) : EvI (dRng2 (dCons ta (dCons tb dNil))) δ (rangeD n (m - n).toNat) δ2 := fun Q q => h _ (h2 _ (by
  show (match [s, s2].mapM (view δ2) with | some [.int i, .int j] => _ | _ => False)
  have : [s, s2].mapM (view δ2) = some [.int n, .int m] := by simp [v, v2]
  rw [this]; exact ⟨⟨hn, hm⟩, q⟩))
theorem ev_rgl1 {g : List Dv → Sl} {n : Int} (h : Ev t δ s δ1) (v : view δ1 s = some (.int n)) (hn : RgOk 0 n) : Ev (dRgL g (dCons t dNil)) δ (g (rangeD 0 n.toNat)) δ1 := fun Q q => h _ (by
  show (match [s].mapM (view δ1) with | some [.int j] => _ | some [.int i, .int j] => _ | _ => False)
  rw [mapM_view1 v]; exact ⟨hn, q⟩)
theorem ev_rgl2 {g : List Dv → Sl} {n m : Int} (h : Ev ta δ s δ1) (h2 : Ev tb δ1 s2 δ2) (v : view δ2 s = some (.int n)) (v2 : view δ2 s2 = some (.int m)) (hn : RgOk n m) : Ev (dRgL g (dCons ta (dCons tb dNil))) δ (g (rangeD n (m - n).toNat)) δ2 := fun Q q => h _ (h2 _ (by
  show (match [s, s2].mapM (view δ2) with | some [.int j] => _ | some [.int i, .int j] => _ | _ => False)
  have : [s, s2].mapM (view δ2) = some [.int n, .int m] := by simp [v, v2]
  rw [this]; exact ⟨hn, q⟩))
end
/-! ### statements -/
inductive Fl where
  | nx | bk | ct | rt (s : Sl)
def DEnds.at (E : DEnds) : Fl → DS → Prop
  | .nx => E.nx
  | .bk => E.bk
  | .ct => E.ct
  | .rt s => E.rt s
abbrev FP := Fl → DS → Prop
def Run (t : DTS) (δ : DS) (P : FP) : Prop := ∀ E : DEnds, (∀ f δ', P f δ' → E.at f δ') → t E δ
/-- one way through a statement, to the next one -/
def RunD (t : DTS) (δ δ1 : DS) : Prop := ∀ E : DEnds, E.nx δ1 → t E δ
section
variable {δ δ1 δ2 δ3 : DS} {s s' : Sl} {ss : List Sl} {d : Dv} {t u v : DTS} {te : DT} {P P1 : FP} {b : Bool} {c : DTB} {i j k : Nat} {g : DG}
theorem run_seq (h : RunD t δ δ1) (k : Run u δ1 P) : Run (dSeq t u) δ P := fun ⟨a, b, c, d⟩ hE => h _ (k _ hE)
theorem run_last (h : RunD t δ δ1) (k : P .nx δ1) : Run t δ P := fun E hE => h _ (hE _ _ k)
theorem Run.imp (h : Run t δ P1) (k : ∀ f δ', P1 f δ' → P f δ') : Run t δ P := fun E hE => h E fun f δ' q => hE f δ' (k f δ' q)
theorem run_join (h : Run t δ P1) (k : ∀ δ', P1 .nx δ' → Run u δ' P) (j : ∀ f δ', f ≠ .nx → P1 f δ' → P f δ') : Run (dSeq t u) δ P := fun ⟨a, b, c, d⟩ hE => h _ fun f δ' q => by
  cases f with
  | nx => exact k δ' q _ hE
  | bk => exact hE .bk δ' (j _ _ (fun z => nomatch z) q)
  | ct => exact hE .ct δ' (j _ _ (fun z => nomatch z) q)
  | rt s => exact hE (.rt s) δ' (j _ _ (fun z => nomatch z) q)
/-- to the next statement, the state known -/
theorem run_thru {vec : DS → Prop} (h : Run t δ fun f δ' => f = .nx ∧ vec δ') (k : ∀ δ', vec δ' → Run u δ' P) : Run (dSeq t u) δ P := run_join h (fun δ' q => k δ' q.2) fun f δ' n q => absurd q.1 n
theorem run_assoc (h : Run (dSeq t (dSeq u v)) δ P) : Run (dSeq (dSeq t u) v) δ P := fun ⟨a, b, c, d⟩ hE => h ⟨a, b, c, d⟩ hE
theorem run_skip (h : Run u δ P) : Run (dSeq dNext u) δ P := fun ⟨a, b, c, d⟩ hE => h ⟨a, b, c, d⟩ hE
theorem run_nx (k : P .nx δ) : Run dNext δ P := fun E hE => hE _ _ k
theorem run_bk (k : P .bk δ) : Run dBreak δ P := fun E hE => hE _ _ k
theorem run_ct (k : P .ct δ) : Run dCont δ P := fun E hE => hE _ _ k
theorem run_bkS (k : P .bk δ) : Run (dSeq dBreak u) δ P := fun ⟨a, b, c, d⟩ hE => hE .bk _ k
theorem run_ctS (k : P .ct δ) : Run (dSeq dCont u) δ P := fun ⟨a, b, c, d⟩ hE => hE .ct _ k
theorem run_if (hc : EvT c δ b δ1) (h1 : b = true → Run t δ1 P) (h0 : b = false → Run u δ1 P) : Run (dIf c t u) δ P := fun E hE => hc _ (by
  cases b with
  | true => exact h1 rfl E hE
  | false => exact h0 rfl E hE)
theorem run_ifS (hc : EvT c δ b δ1) (h1 : b = true → Run (dSeq t v) δ1 P) (h0 : b = false → Run (dSeq u v) δ1 P) : Run (dSeq (dIf c t u) v) δ P := fun ⟨e1, e2, e3, e4⟩ hE => hc _ (by
  cases b with
  | true => exact h1 rfl ⟨e1, e2, e3, e4⟩ hE
  | false => exact h0 rfl ⟨e1, e2, e3, e4⟩ hE)
theorem run_ret_fz (h : Ev te δ (.fz d) δ1) (k : P (.rt (.fz d)) δ1) : Run (dRet te) δ P := fun E hE => h _ (hE _ _ k)
theorem run_ret_ml {ds : List Dv} (h : Ev te δ (.ml ds) δ1) (k : P (.rt (.ml ds)) δ1) : Run (dRet te) δ P := fun E hE => h _ (hE _ _ k)
theorem run_ret_md {ks : List Key} {ds : List Dv} (h : Ev te δ (.md ks ds) δ1) (k : P (.rt (.md ks ds)) δ1) : Run (dRet te) δ P := fun E hE => h _ (hE _ _ k)
theorem run_ret_dl {dd : Deal} (h : Ev te δ (.deal dd) δ1) (k : P (.rt (.deal dd)) δ1) : Run (dRet te) δ P := fun E hE => h _ (hE _ _ k)
theorem run_ret_al (h : Ev te δ (.al j) δ1) (hj : δ1[j]? = some (some s)) (hd : δ1.set j none = δ2) (k : P (.rt s) δ2) : Run (dRet te) δ P := fun E hE => h _ (by
  show (match δ1[j]? with | some (some u) => _ | _ => False)
  rw [hj]; subst hd; exact hE _ _ k)
theorem run_retS (h : Run (dRet te) δ P) (hn : ∀ f δ', P f δ' → f ≠ .nx) : Run (dSeq (dRet te) u) δ P := run_join h (fun δ' q => absurd rfl (hn _ _ q)) fun f δ' _ q => q
theorem rund_set (h : Ev te δ s δ1) (hg : EvG (dName i) s δ1 δ2) : RunD (dSet i te) δ δ2 := fun E k => h _ (hg _ k)
theorem rund_asg (h : Ev te δ s δ1) (hg : EvG g s δ1 δ2) : RunD (dAsg te g) δ δ2 := fun E k => h _ (hg _ k)
theorem rund_drop (h : Ev te δ s δ1) : RunD (dDrop te) δ δ1 := fun E k => h _ k
theorem rund_next : RunD dNext δ δ := fun E k => k
theorem rund_par {ta : DTA} {a b : Sl} (h : EvA ta δ ss δ1) (hs : settle ss δ1 = some ([a, b], δ2)) (hd : (δ2.set i (some a)).set j (some b) = δ3) : RunD (dPar i j ta) δ δ3 := fun E q => h _ (by
  rw [hs]; exact force_i (hd ▸ q))
theorem rund_par3 {ta : DTA} {l : Nat} {a b c : Sl} (h : EvA ta δ ss δ1) (hs : settle ss δ1 = some ([a, b, c], δ2)) (hd : ((δ2.set i (some a)).set j (some b)).set l (some c) = δ3) : RunD (dPar3 i j l ta) δ δ3 := fun E q => h _ (by
  rw [hs]; exact force_i (hd ▸ q))
/-- a target, then a block -/
def RunB (g : DG) (s : Sl) (t : DTS) (δ : DS) (P : FP) : Prop := ∀ E : DEnds, (∀ f δ', P f δ' → E.at f δ') → g s δ fun δ3 => t E δ3
theorem run_tg (hg : EvG g s δ δ1) (h : Run t δ1 P) : RunB g s t δ P := fun E hE => hg _ (h E hE)
/-- the end of a def -/
def RetP (s : Sl) (outs : List Sl) : FP := fun f δ' => f = .rt s ∧ δ'.take outs.length = outs.map some
theorem RetP.nn {s : Sl} {outs : List Sl} : ∀ f δ', RetP s outs f δ' → f ≠ .nx := fun f δ' h => by rw [h.1]; exact fun z => nomatch z
theorem run_def {m : Nat} {W : Sl → List Sl → Prop} {outs : List Sl} (h : Run t δ (RetP s outs)) (hs : s.slot) (hm : outs.length = m) (k : W s outs) : t { nx := endD m W (.fz .non), rt := endD m W } δ := h _ fun f δ' ⟨e1, e2⟩ => by
  subst e1 hm
  exact ⟨hs, outs, rfl, e2, k⟩
/-- a def without return, or with one that gives nothing -/
def RetN (outs : List Sl) : FP := fun f δ' => (f = .nx ∨ f = .rt (.fz .non)) ∧ δ'.take outs.length = outs.map some
theorem run_defN {m : Nat} {W : Sl → List Sl → Prop} {outs : List Sl} (h : Run t δ (RetN outs)) (hm : outs.length = m) (k : W (.fz .non) outs) : t { nx := endD m W (.fz .non), rt := endD m W } δ := h _ fun f δ' ⟨e1, e2⟩ => by
  subst hm
  rcases e1 with rfl | rfl <;> exact ⟨trivial, outs, rfl, e2, k⟩
end
/-! ### for -/
def oFold {α σ : Type} : List α → σ → (α → σ → Option σ) → Option σ
  | [], s, _ => some s
  | x :: xs, s, f => (f x s).bind fun s' => oFold xs s' f
inductive Stp (σ ρ : Type) where
  | nx (s : σ) | bk (s : σ) | rt (r : ρ)
def oFor {α σ ρ : Type} : List α → σ → (α → σ → Option (Stp σ ρ)) → Option (Stp σ ρ)
  | [], s, _ => some (.nx s)
  | x :: xs, s, f => (f x s).bind fun
    | .nx s' => oFor xs s' f
    | .bk s' => some (.nx s')
    | .rt r => some (.rt r)
/-- what follows a loop -/
def oThen {σ ρ τ : Type} : Stp σ ρ → (ρ → Option τ) → (σ → Option τ) → Option τ
  | .nx s, _, k => k s
  | .bk s, _, k => k s
  | .rt r, q, _ => q r
/-- how a turn's end is told -/
def StpP {σ ρ : Type} (vec : σ → DS → Prop) (RT : ρ → FP) : Stp σ ρ → FP
  | .nx s => fun f δ' => (f = .nx ∨ f = .ct) ∧ vec s δ'
  | .bk s => fun f δ' => f = .bk ∧ vec s δ'
  | .rt r => fun f δ' => (∃ s, f = .rt s) ∧ RT r f δ'
theorem run_fold {α σ : Type} {wi : DTI} {g : DG} {tb : DTS} {δ δ1 : DS} {items : List α} {e : α → Dv} {vec : σ → DS → Prop} {s0 s1 : σ} {f : α → σ → Option σ} (hi : EvI wi δ (items.map e) δ1) (h0 : vec s0 δ1) (hs : oFold items s0 f = some s1)
    (hb : ∀ x s s' δ2, x ∈ items → vec s δ2 → f x s = some s' → RunB g (.fz (e x)) tb δ2 fun fl δ' => (fl = .nx ∨ fl = .ct) ∧ vec s' δ') : Run (dFor wi g tb) δ fun fl δ' => fl = .nx ∧ vec s1 δ' := fun ⟨nx, rt, bk, ct⟩ hE => by
  refine hi _ ⟨fun i δ2 => ∃ s, vec s δ2 ∧ oFold (items.drop i) s f = some s1, ⟨s0, h0, hs⟩, ?_, ?_⟩
  · rintro i d δ2 hd ⟨s, hv, hf⟩
    rw [List.getElem?_map] at hd
    obtain ⟨x, hx, rfl⟩ := Option.map_eq_some_iff.mp hd
    have hlt := (List.getElem?_eq_some_iff.mp hx).1
    have hdr : items.drop i = x :: items.drop (i + 1) := by
      rw [List.drop_eq_getElem_cons hlt]; congr 1; rw [List.getElem?_eq_getElem hlt] at hx; exact Option.some.inj hx
    rw [hdr] at hf
    obtain ⟨s', h1, h2⟩ := Option.bind_eq_some_iff.mp hf
    refine hb x s s' δ2 (List.mem_of_getElem? hx) hv h1 _ fun fl δ' ⟨q1, q2⟩ => ?_
    rcases q1 with rfl | rfl <;> exact ⟨s', q2, h2⟩
  · rintro δ2 ⟨s, hv, hf⟩
    rw [List.length_map, List.drop_length] at hf
    cases hf
    exact hE .nx δ2 ⟨rfl, hv⟩
theorem run_forB {α σ ρ : Type} {wi : DTI} {g : DG} {tb : DTS} {δ δ1 : DS} {items : List α} {e : α → Dv} {vec : σ → DS → Prop} {RT : ρ → FP} {s0 : σ} {st : Stp σ ρ} {f : α → σ → Option (Stp σ ρ)} {P : FP} (hi : EvI wi δ (items.map e) δ1) (h0 : vec s0 δ1) (hs : oFor items s0 f = some st)
    (hb : ∀ x s st' δ2, x ∈ items → vec s δ2 → f x s = some st' → RunB g (.fz (e x)) tb δ2 (StpP vec RT st'))
    (hP : ∀ fl δ', StpP vec RT st fl δ' → fl ≠ .ct → P fl δ') (hnb : ∀ s, st ≠ .bk s) : Run (dFor wi g tb) δ P := fun ⟨nx, rt, bk, ct⟩ hE => by
  refine hi _ ⟨fun i δ2 => ∃ s, vec s δ2 ∧ oFor (items.drop i) s f = some st, ⟨s0, h0, hs⟩, ?_, ?_⟩
  · rintro i d δ2 hd ⟨s, hv, hf⟩
    rw [List.getElem?_map] at hd
    obtain ⟨x, hx, rfl⟩ := Option.map_eq_some_iff.mp hd
    have hlt := (List.getElem?_eq_some_iff.mp hx).1
    have hdr : items.drop i = x :: items.drop (i + 1) := by
      rw [List.drop_eq_getElem_cons hlt]; congr 1; rw [List.getElem?_eq_getElem hlt] at hx; exact Option.some.inj hx
    rw [hdr] at hf
    obtain ⟨st', h1, h2⟩ := Option.bind_eq_some_iff.mp hf
    refine hb x s st' δ2 (List.mem_of_getElem? hx) hv h1 _ fun fl δ' q => ?_
    cases st' with
    | nx s' =>
      obtain ⟨q1, q2⟩ := q
      rcases q1 with rfl | rfl <;> exact ⟨s', q2, h2⟩
    | bk s' =>
      obtain ⟨rfl, q2⟩ := q
      cases h2
      exact hE .nx δ' (hP _ _ ⟨.inl rfl, q2⟩ (fun z => nomatch z))
    | rt r =>
      obtain ⟨⟨s2, rfl⟩, q2⟩ := q
      cases h2
      exact hE (.rt s2) δ' (hP _ _ ⟨⟨s2, rfl⟩, q2⟩ (fun z => nomatch z))
  · rintro δ2 ⟨s, hv, hf⟩
    rw [List.length_map, List.drop_length] at hf
    cases hf
    exact hE .nx δ2 (hP _ _ ⟨.inl rfl, hv⟩ (fun z => nomatch z))
theorem oFor_nb {α σ ρ : Type} {f : α → σ → Option (Stp σ ρ)} : ∀ {items : List α} {s : σ} {st : Stp σ ρ}, oFor items s f = some st → ∀ s', st ≠ .bk s'
  | [], s, st, h, s' => by cases h; exact fun z => nomatch z
  | x :: xs, s, st, h, s' => by
    obtain ⟨st', h1, h2⟩ := Option.bind_eq_some_iff.mp h
    cases st' with
    | nx s2 => exact oFor_nb (items := xs) h2 s'
    | bk s2 => cases h2; exact fun z => nomatch z
    | rt r => cases h2; exact fun z => nomatch z
/-- the loop and what follows -/
theorem run_for {α σ ρ τ : Type} {wi : DTI} {g : DG} {tb u : DTS} {δ δ1 : DS} {items : List α} {e : α → Dv} {vec : σ → DS → Prop} {RT : ρ → FP} {s0 : σ} {f : α → σ → Option (Stp σ ρ)} {P : FP} {q : ρ → Option τ} {k : σ → Option τ} {r : τ} (hi : EvI wi δ (items.map e) δ1) (h0 : vec s0 δ1)
    (hs : ((oFor items s0 f).bind fun st => oThen st q k) = some r)
    (hb : ∀ x s st' δ2, x ∈ items → vec s δ2 → f x s = some st' → RunB g (.fz (e x)) tb δ2 (StpP vec RT st'))
    (hr : ∀ a fl δ', q a = some r → RT a fl δ' → P fl δ') (hk : ∀ s δ', vec s δ' → k s = some r → Run u δ' P) : Run (dSeq (dFor wi g tb) u) δ P := by
  obtain ⟨st, h1, h2⟩ := Option.bind_eq_some_iff.mp hs
  refine run_join (P1 := fun fl δ' => StpP vec RT st fl δ' ∧ fl ≠ .ct) (run_forB hi h0 h1 hb (fun fl δ' a b => ⟨a, b⟩) (oFor_nb h1)) (fun δ' a => ?_) (fun fl δ' n a => ?_)
  · cases st with
    | nx s => exact hk s δ' a.1.2 h2
    | bk s => exact absurd rfl (oFor_nb h1 s)
    | rt r => obtain ⟨⟨⟨s, z⟩, _⟩, _⟩ := a; cases z
  · cases st with
    | nx s => rcases a.1.1 with z | z; exact absurd z n; exact absurd z a.2
    | bk s => exact absurd rfl (oFor_nb h1 s)
    | rt r => exact hr _ _ _ h2 a.1.2
/-! ### while -/
def fuel : Nat := 1000000000
def oWhile {σ ρ : Type} : Nat → σ → (σ → Option Bool) → (σ → Option (Stp σ ρ)) → Option (Stp σ ρ)
  | 0, _, _, _ => none
  | n + 1, s, c, f => (c s).bind fun b => if b = true then (f s).bind fun
      | .nx s' => oWhile n s' c f
      | .bk s' => some (.nx s')
      | .rt r => some (.rt r)
    else some (.nx s)
theorem oWhile_nb {σ ρ : Type} {c : σ → Option Bool} {f : σ → Option (Stp σ ρ)} : ∀ {n : Nat} {s : σ} {st : Stp σ ρ}, oWhile n s c f = some st → ∀ s', st ≠ .bk s'
  | 0, _, _, h, _ => by cases h
  | n + 1, s, st, h, s' => by
    obtain ⟨b, _, h2⟩ := Option.bind_eq_some_iff.mp h
    cases b with
    | false => cases h2; exact fun z => nomatch z
    | true =>
      obtain ⟨st', _, h3⟩ := Option.bind_eq_some_iff.mp h2
      cases st' with
      | nx s2 => exact oWhile_nb (n := n) h3 s'
      | bk s2 => cases h3; exact fun z => nomatch z
      | rt r => cases h3; exact fun z => nomatch z
theorem run_while {σ ρ τ : Type} {c : DTB} {tb u : DTS} {δ : DS} {vec : σ → DS → Prop} {RT : ρ → FP} {s0 : σ} {n : Nat} {cf : σ → Option Bool} {f : σ → Option (Stp σ ρ)} {P : FP} {q : ρ → Option τ} {k : σ → Option τ} {r : τ} (h0 : vec s0 δ)
    (hs : ((oWhile n s0 cf f).bind fun st => oThen st q k) = some r)
    (hc : ∀ s b δ2, vec s δ2 → cf s = some b → EvT c δ2 b δ2)
    (hb : ∀ s st' δ2, cf s = some true → vec s δ2 → f s = some st' → Run tb δ2 (StpP vec RT st'))
    (hr : ∀ a fl δ', q a = some r → RT a fl δ' → P fl δ') (hk : ∀ s δ', vec s δ' → k s = some r → Run u δ' P) : Run (dSeq (dWhile c tb) u) δ P := by
  obtain ⟨st, h1, h2⟩ := Option.bind_eq_some_iff.mp hs
  have hnb := oWhile_nb h1
  refine run_join (P1 := fun fl δ' => StpP vec RT st fl δ' ∧ fl ≠ .ct) ?_ (fun δ' a => ?_) (fun fl δ' n a => ?_)
  · intro ⟨nx, rt, bk, ct⟩ hE
    refine ⟨fun m δ2 => ∃ s, vec s δ2 ∧ oWhile m s cf f = some st, ⟨n, s0, h0, h1⟩, ?_⟩
    rintro m δ2 ⟨s, hv, hw⟩
    cases m with
    | zero => cases hw
    | succ m =>
      obtain ⟨b, g1, g2⟩ := Option.bind_eq_some_iff.mp hw
      refine hc s b δ2 hv g1 _ ?_
      cases b with
      | false =>
        cases g2
        exact hE .nx δ2 ⟨⟨.inl rfl, hv⟩, fun z => nomatch z⟩
      | true =>
        obtain ⟨st', g3, g4⟩ := Option.bind_eq_some_iff.mp g2
        refine hb s st' δ2 g1 hv g3 _ fun fl δ' q => ?_
        cases st' with
        | nx s' =>
          obtain ⟨q1, q2⟩ := q
          rcases q1 with rfl | rfl <;> exact ⟨m, Nat.lt_succ_self m, s', q2, g4⟩
        | bk s' =>
          obtain ⟨rfl, q2⟩ := q
          cases g4
          exact hE .nx δ' ⟨⟨.inl rfl, q2⟩, fun z => nomatch z⟩
        | rt r =>
          obtain ⟨⟨s2, rfl⟩, q2⟩ := q
          cases g4
          exact hE (.rt s2) δ' ⟨⟨⟨s2, rfl⟩, q2⟩, fun z => nomatch z⟩
  · cases st with
    | nx s => exact hk s δ' a.1.2 h2
    | bk s => exact absurd rfl (hnb s)
    | rt r => obtain ⟨⟨⟨s, z⟩, _⟩, _⟩ := a; cases z
  · cases st with
    | nx s => rcases a.1.1 with z | z; exact absurd z n; exact absurd z a.2
    | bk s => exact absurd rfl (hnb s)
    | rt r => exact hr _ _ _ h2 a.1.2
end DL

set_option Elab.async false
set_option linter.all false
set_option maxRecDepth 100000
set_option maxHeartbeats 4000000
/-! EVB: typed operations. -/
namespace DL
open PySem L2
/-! ### encodings and == -/
/-- data of this kind is told apart by == -/
structure EqE {α : Type} (n : Nat) (e : α → Dv) : Prop where
  ok : ∀ x, eqOk n (e x) = true
  iff : ∀ x y, eqB (e x) (e y) = true ↔ x = y
/-- never None -/
def NN {α : Type} (e : α → Dv) : Prop := ∀ x, isNoneD (e x) = false ∧ eqB (e x) .non = false ∧ eqB .non (e x) = false
theorem eqB_lst (xs ys : List Dv) : eqB (.lst xs) (.lst ys) = PyData.eqvAll (toPs xs) (toPs ys) := by simp [eqB, toP, PyData.eqv]
theorem eqB_tup (xs ys : List Dv) : eqB (.tup xs) (.tup ys) = PyData.eqvAll (toPs xs) (toPs ys) := by simp [eqB, toP, PyData.eqv]
theorem eqvAll_cons (x y : Dv) (xs ys : List Dv) : PyData.eqvAll (toPs (x :: xs)) (toPs (y :: ys)) = (eqB x y && PyData.eqvAll (toPs xs) (toPs ys)) := by simp [toPs, PyData.eqvAll, eqB]
theorem eqvAll_nil : PyData.eqvAll (toPs []) (toPs []) = true := by simp [toPs, PyData.eqvAll]
theorem eqvAll_map {α : Type} {n : Nat} {e : α → Dv} (h : EqE n e) : ∀ xs ys : List α, PyData.eqvAll (toPs (xs.map e)) (toPs (ys.map e)) = true ↔ xs = ys
  | [], [] => by simp [eqvAll_nil]
  | [], y :: ys => by simp [toPs, PyData.eqvAll]
  | x :: xs, [] => by simp [toPs, PyData.eqvAll]
  | x :: xs, y :: ys => by
    rw [List.map_cons, List.map_cons, eqvAll_cons, Bool.and_eq_true, h.iff, eqvAll_map h xs ys]
    simp
theorem eqe_int {n : Nat} : EqE n eI := ⟨fun _ => eqOk_int, fun x y => by rw [eqB_int]; simp⟩
theorem eqe_bl {n : Nat} : EqE n eB := ⟨fun _ => eqOk_bl, fun x y => by rw [eqB_bl]; simp⟩
theorem eqe_non {n : Nat} : EqE n eN := ⟨fun _ => eqOk_non, fun x y => by simp [eqB, toP, PyData.eqv]⟩
theorem eqe_lst {α : Type} {n : Nat} {e : α → Dv} (h : EqE n e) : EqE (n + 1) (eL e) := ⟨fun xs => by
  simp only [eqOk, Nat.add_sub_cancel]
  have : eqOks n (xs.map e) = true := eqOks_iff.mpr fun d hd => by obtain ⟨x, _, rfl⟩ := List.mem_map.mp hd; exact h.ok x
  simp [this], fun x y => by rw [eqB_lst, eqvAll_map h]⟩
theorem eqe_tup {α : Type} {n : Nat} {e : α → Dv} (h : EqE n e) : EqE (n + 1) (eT e) := ⟨fun xs => by
  simp only [eqOk, Nat.add_sub_cancel]
  have : eqOks n (xs.map e) = true := eqOks_iff.mpr fun d hd => by obtain ⟨x, _, rfl⟩ := List.mem_map.mp hd; exact h.ok x
  simp [this], fun x y => by rw [eqB_tup, eqvAll_map h]⟩
theorem eqe_pair {α β : Type} {n : Nat} {e : α → Dv} {f : β → Dv} (h : EqE n e) (k : EqE n f) : EqE (n + 1) (eP e f) := ⟨fun x => by simp [eqOk, eqOks, h.ok, k.ok], fun x y => by
  obtain ⟨a, b⟩ := x; obtain ⟨c, d⟩ := y
  rw [eqB_tup, eqvAll_cons, eqvAll_cons, eqvAll_nil]
  simp [h.iff, k.iff]⟩
theorem eqe_p3 {α β γ : Type} {n : Nat} {e : α → Dv} {f : β → Dv} {g : γ → Dv} (h : EqE n e) (k : EqE n f) (l : EqE n g) : EqE (n + 1) (eP3 e f g) := ⟨fun x => by simp [eqOk, eqOks, h.ok, k.ok, l.ok], fun x y => by
  obtain ⟨a, b, u⟩ := x; obtain ⟨c, d, v⟩ := y
  rw [eqB_tup, eqvAll_cons, eqvAll_cons, eqvAll_cons, eqvAll_nil]
  simp [h.iff, k.iff, l.iff]⟩
theorem eqe_lp2 {α β : Type} {n : Nat} {e : α → Dv} {f : β → Dv} (h : EqE n e) (k : EqE n f) : EqE (n + 1) (lP2 e f) := ⟨fun x => by simp [eqOk, eqOks, h.ok, k.ok], fun x y => by
  obtain ⟨a, b⟩ := x; obtain ⟨c, d⟩ := y
  rw [eqB_lst, eqvAll_cons, eqvAll_cons, eqvAll_nil]
  simp [h.iff, k.iff]⟩
theorem eqe_opt {α : Type} {n : Nat} {e : α → Dv} (h : EqE n e) (k : NN e) : EqE n (eO e) := ⟨fun x => by
  cases x with
  | none => exact eqOk_non
  | some x => exact h.ok x, fun x y => by
  cases x with
  | none => cases y with
    | none => simp [eO, eqB, toP, PyData.eqv]
    | some y => simp [eO, (k y).2.2]
  | some x => cases y with
    | none => simp [eO, (k x).2.1]
    | some y => simp [eO, h.iff]⟩
theorem nn_int : NN eI := fun _ => ⟨rfl, by simp [eqB, toP, PyData.eqv], by simp [eqB, toP, PyData.eqv]⟩
theorem nn_bl : NN eB := fun _ => ⟨rfl, by simp [eqB, toP, PyData.eqv], by simp [eqB, toP, PyData.eqv]⟩
theorem nn_lst {α : Type} {e : α → Dv} : NN (eL e) := fun _ => ⟨rfl, by simp [eqB, toP, PyData.eqv], by simp [eqB, toP, PyData.eqv]⟩
theorem nn_tup {α : Type} {e : α → Dv} : NN (eT e) := fun _ => ⟨rfl, by simp [eqB, toP, PyData.eqv], by simp [eqB, toP, PyData.eqv]⟩
theorem nn_pair {α β : Type} {e : α → Dv} {f : β → Dv} : NN (eP e f) := fun _ => ⟨rfl, by simp [eqB, toP, PyData.eqv], by simp [eqB, toP, PyData.eqv]⟩
theorem EqE.dec {α : Type} [DecidableEq α] {n : Nat} {e : α → Dv} (h : EqE n e) (x y : α) : eqB (e x) (e y) = decide (x = y) := by
  by_cases q : x = y
  · rw [decide_eq_true q]; exact (h.iff x y).mpr q
  · rw [decide_eq_false q]
    cases z : eqB (e x) (e y) with
    | false => rfl
    | true => exact absurd ((h.iff x y).mp z) q
/-- no list within -/
def NL {α : Type} (e : α → Dv) : Prop := ∀ x, nolst (e x) = true
theorem nl_int : NL eI := fun _ => rfl
theorem nl_bl : NL eB := fun _ => rfl
theorem nl_str : NL eS := fun _ => rfl
theorem nl_non : NL eN := fun _ => rfl
theorem nl_opt {α : Type} {e : α → Dv} (h : NL e) : NL (eO e) := fun x => by cases x; rfl; exact h _
theorem nls_map {α : Type} {e : α → Dv} (h : NL e) : ∀ xs : List α, nolsts (xs.map e) = true
  | [] => rfl
  | x :: xs => by simp [nolsts, h x, nls_map h xs]
theorem nl_tup {α : Type} {e : α → Dv} (h : NL e) : NL (eT e) := fun xs => nls_map h xs
theorem nl_pair {α β : Type} {e : α → Dv} {f : β → Dv} (h : NL e) (k : NL f) : NL (eP e f) := fun x => by simp [nolst, nolsts, h x.1, k x.2]
theorem nl_p3 {α β γ : Type} {e : α → Dv} {f : β → Dv} {g : γ → Dv} (h : NL e) (k : NL f) (l : NL g) : NL (eP3 e f g) := fun x => by simp [nolst, nolsts, h x.1, k x.2.1, l x.2.2]
/-- flat data -/
def FlE {α : Type} (e : α → Dv) : Prop := ∀ x, flatD (e x) = true
theorem fl_int : FlE eI := fun _ => rfl
theorem fl_bl : FlE eB := fun _ => rfl
theorem fl_opt {α : Type} {e : α → Dv} (h : FlE e) : FlE (eO e) := fun x => by cases x; rfl; exact h _
theorem fl_all {α : Type} {e : α → Dv} (h : FlE e) (xs : List α) : (xs.map e).all flatD = true := by
  rw [List.all_eq_true]; intro d hd; obtain ⟨x, _, rfl⟩ := List.mem_map.mp hd; exact h x

/-! ### what is reckoned -/
def oIx {α : Type} (xs : List α) (i : Int) : Option α := atI xs i
def oApp {α : Type} (xs : List α) (x : α) : Option (List α) := if xs.length < sizeLine then some (xs ++ [x]) else none
def oCat {α : Type} (xs ys : List α) : Option (List α) := if xs.length + ys.length ≤ sizeLine then some (xs ++ ys) else none
def oRep {α : Type} (xs : List α) (n : Int) : Option (List α) := if (-(2 ^ 63) ≤ n ∧ n < 2 ^ 63 ∧ xs.length * n.toNat ≤ sizeLine) then some (List.replicate n.toNat xs).flatten else none
def oMul (i j : Int) : Option Int := if ((-(2 ^ 64) < i ∧ i < 2 ^ 64) ∨ (-(2 ^ 64) < j ∧ j < 2 ^ 64)) ∨ i.natAbs.log2 + j.natAbs.log2 < 1000000 then some (i * j) else none
def oDiv (i j : Int) : Option Int := if 0 < j ∧ (j.natAbs < 1073741824 ∨ j.natAbs.log2 < 9000) then some (i / j) else none
def oMod (i j : Int) : Option Int := if 0 < j then some (i % j) else none
def smB (i : Int) : Bool := decide (-(2 ^ 62) ≤ i) && decide (i < 2 ^ 62)
theorem smB_iff {i : Int} : smB i = true ↔ small62 i := by unfold smB small62; simp
def rngL (lo : Int) (n : Nat) : List Int := (List.range n).map fun (k : Nat) => lo + (k : Int)
def oRng (lo hi : Int) : Option (List Int) := if smB lo && smB hi then some (rngL lo (hi - lo).toNat) else none
def oRgL (lo hi : Int) : Option (List Int) := if smB lo && smB hi && decide ((hi - lo).toNat ≤ 2 ^ 24) then some (rngL lo (hi - lo).toNat) else none
def enumL {α : Type} : Nat → List α → List (Int × α)
  | _, [] => []
  | k, x :: xs => ((k : Int), x) :: enumL (k + 1) xs
def cut {α : Type} (xs : List α) (lo hi : Option Int) : List α := (xs.drop (HT.sIx xs.length 0 lo)).take (HT.sIx xs.length xs.length hi - HT.sIx xs.length 0 lo)
def oPop {α : Type} (xs : List α) : Option (α × List α) := xs.getLast?.map fun x => (x, xs.dropLast)
def oPopAt {α : Type} (xs : List α) (i : Int) : Option (α × List α) := if -(2 ^ 63) ≤ i ∧ i < 2 ^ 63 then (seqIndex? i xs.length).bind fun j => (xs[j]?).map fun x => (x, xs.eraseIdx j) else none
def oMax (xs : List Int) : Option Int := xs.max?
def oMin (xs : List Int) : Option Int := xs.min?
def oSame {α β : Type} (e : α → Dv) (f : β → Dv) (x : α) (y : β) : Bool := sameD (e x) (f y)
/-- a comprehension -/
def oCompN {α β : Type} : List α → (α → Option (Option β)) → Option (List β)
  | [], _ => some []
  | x :: xs, f => (f x).bind fun o => (oCompN xs f).bind fun ys => some (o.toList ++ ys)
def oComp {α β : Type} (xs : List α) (f : α → Option (Option β)) : Option (List β) := if xs.length ≤ sizeLine then oCompN xs f else none
theorem oCompN_len {α β : Type} {f : α → Option (Option β)} : ∀ {xs : List α} {ys : List β}, oCompN xs f = some ys → ys.length ≤ xs.length
  | [], ys, h => by cases h; exact Nat.le_refl _
  | x :: xs, ys, h => by
    obtain ⟨o, _, h2⟩ := bnd h
    obtain ⟨zs, h3, h4⟩ := bnd h2
    have := oCompN_len h3
    cases h4
    cases o <;> simp <;> omega
/-! ### the operations on data -/
section
variable {α β : Type} {e : α → Dv} {f : β → Dv} {W : Sl → Prop} {i j k : Int} {xs ys zs : List α} {x : α} {s r : Sl} {δ δ1 : DS}
theorem f_addI (h : W (.fz (.int (i + j)))) : addF (.int i) (.int j) W := h
theorem f_subI (h : W (.fz (.int (i - j)))) : subF (.int i) (.int j) W := h
theorem oCat_some (h : oCat xs ys = some zs) : xs.length + ys.length ≤ sizeLine ∧ zs = xs ++ ys := by
  unfold oCat at h; split at h
  · cases h; exact ⟨by assumption, rfl⟩
  · cases h
theorem f_catL (h : oCat xs ys = some zs) (k : W (.ml (zs.map e))) : addF (.lst (xs.map e)) (.lst (ys.map e)) W := by
  obtain ⟨h1, rfl⟩ := oCat_some h
  exact ⟨by rw [List.length_map, List.length_map]; exact h1, by rw [← List.map_append]; exact k⟩
theorem f_catT (h : oCat xs ys = some zs) (k : W (.fz (.tup (zs.map e)))) : addF (.tup (xs.map e)) (.tup (ys.map e)) W := by
  obtain ⟨h1, rfl⟩ := oCat_some h
  exact ⟨by rw [List.length_map, List.length_map]; exact h1, by rw [← List.map_append]; exact k⟩
theorem oMul_some (h : oMul i j = some k) : MulOk i j ∧ k = i * j := by
  unfold oMul at h; split at h
  · rename_i q; cases h
    exact ⟨q.elim (fun a => .inl a) fun a => .inr a, rfl⟩
  · cases h
theorem f_mul (h : oMul i j = some k) (w : W (.fz (.int k))) : mulF (.int i) (.int j) W := by obtain ⟨h1, rfl⟩ := oMul_some h; exact ⟨h1, w⟩
theorem f_mulL (h : -(2 ^ 64) < i ∧ i < 2 ^ 64) (w : W (.fz (.int (i * j)))) : mulF (.int i) (.int j) W := ⟨mulOk_l h.1 h.2, w⟩
theorem f_mulR (h : -(2 ^ 64) < j ∧ j < 2 ^ 64) (w : W (.fz (.int (i * j)))) : mulF (.int i) (.int j) W := ⟨mulOk_r h.1 h.2, w⟩
theorem f_rep {n : Int} (h : oRep xs n = some zs) (k : W (.ml (zs.map e))) : mulF (.lst (xs.map e)) (.int n) W := by
  unfold oRep at h; split at h
  · rename_i q; cases h
    refine ⟨by rw [List.length_map]; exact q, ?_⟩
    rw [List.map_flatten, List.map_replicate] at k; exact k
  · cases h
theorem oDiv_some (h : oDiv i j = some k) : 0 < j ∧ DivOk i j ∧ k = i / j := by
  unfold oDiv at h; split at h
  · rename_i q; cases h
    exact ⟨q.1, q.2.elim (fun a => .inl ⟨by omega, a⟩) (fun a => .inr ⟨q.1, a⟩), rfl⟩
  · cases h
theorem f_div (h : oDiv i j = some k) (w : W (.fz (.int k))) : fdivF (.int i) (.int j) W := by obtain ⟨h1, h2, rfl⟩ := oDiv_some h; exact ⟨h1, h2, w⟩
theorem f_divC (h : 0 < j ∧ j < 1073741824) (w : W (.fz (.int (i / j)))) : fdivF (.int i) (.int j) W := ⟨h.1, divOk_n h.1 h.2, w⟩
theorem f_mod (h : oMod i j = some k) (w : W (.fz (.int k))) : modF (.int i) (.int j) W := by
  unfold oMod at h; split at h
  · cases h; exact ⟨by assumption, w⟩
  · cases h
theorem f_modC (h : 0 < j) (w : W (.fz (.int (i % j)))) : modF (.int i) (.int j) W := ⟨h, w⟩
theorem f_lt (h : W (.fz (.bl (decide (i < j))))) : ltF (.int i) (.int j) W := h
theorem f_le (h : W (.fz (.bl (decide (i ≤ j))))) : leF (.int i) (.int j) W := h
theorem f_gt (h : W (.fz (.bl (decide (i > j))))) : gtF (.int i) (.int j) W := h
theorem f_ge (h : W (.fz (.bl (decide (i ≥ j))))) : geF (.int i) (.int j) W := h
theorem f_eq [DecidableEq α] {y : α} (he : EqE 60 e) (h : W (.fz (.bl (decide (x = y))))) : eqF (e x) (e y) W := ⟨⟨he.ok x, he.ok y⟩, by rw [he.dec]; exact h⟩
theorem f_ne [DecidableEq α] {y : α} (he : EqE 60 e) (h : W (.fz (.bl (!decide (x = y))))) : neF (e x) (e y) W := ⟨⟨he.ok x, he.ok y⟩, by rw [he.dec]; exact h⟩
theorem inB_map [DecidableEq α] {n : Nat} (he : EqE n e) (x : α) : ∀ xs : List α, inB (e x) (xs.map e) = decide (x ∈ xs)
  | [] => rfl
  | y :: ys => by
    have ih := inB_map he x ys
    unfold inB at ih ⊢
    rw [List.map_cons, List.any_cons, ih, he.dec]
    by_cases q : x = y
    · subst q; simp
    · simp [q, Ne.symm q]
theorem f_inL [DecidableEq α] {n : Nat} (he : EqE n e) (hf : FlE e) (h : W (.fz (.bl (decide (x ∈ xs))))) : inF (e x) (.lst (xs.map e)) W := ⟨.inl ⟨hf x, fl_all hf xs⟩, by rw [inB_map he]; exact h⟩
theorem f_inT [DecidableEq α] {n : Nat} (he : EqE n e) (hf : FlE e) (h : W (.fz (.bl (decide (x ∈ xs))))) : inF (e x) (.tup (xs.map e)) W := ⟨.inl ⟨hf x, fl_all hf xs⟩, by rw [inB_map he]; exact h⟩
theorem f_ninL [DecidableEq α] {n : Nat} (he : EqE n e) (hf : FlE e) (h : W (.fz (.bl (!decide (x ∈ xs))))) : ninF (e x) (.lst (xs.map e)) W := ⟨.inl ⟨hf x, fl_all hf xs⟩, by rw [inB_map he]; exact h⟩
theorem f_ninT [DecidableEq α] {n : Nat} (he : EqE n e) (hf : FlE e) (h : W (.fz (.bl (!decide (x ∈ xs))))) : ninF (e x) (.tup (xs.map e)) W := ⟨.inl ⟨hf x, fl_all hf xs⟩, by rw [inB_map he]; exact h⟩
theorem eqOks_map {n : Nat} (he : EqE n e) (xs : List α) : eqOks n (xs.map e) = true := eqOks_iff.mpr fun d hd => by obtain ⟨x, _, rfl⟩ := List.mem_map.mp hd; exact he.ok x
theorem f_inLD [DecidableEq α] (he : EqE 59 e) (h : W (.fz (.bl (decide (x ∈ xs))))) : inF (e x) (.lst (xs.map e)) W := ⟨.inr ⟨.inl rfl, he.ok x, eqOks_map he xs⟩, by rw [inB_map he]; exact h⟩
theorem f_inTD [DecidableEq α] (he : EqE 59 e) (h : W (.fz (.bl (decide (x ∈ xs))))) : inF (e x) (.tup (xs.map e)) W := ⟨.inr ⟨.inr rfl, he.ok x, eqOks_map he xs⟩, by rw [inB_map he]; exact h⟩
theorem f_ninLD [DecidableEq α] (he : EqE 59 e) (h : W (.fz (.bl (!decide (x ∈ xs))))) : ninF (e x) (.lst (xs.map e)) W := ⟨.inr ⟨.inl rfl, he.ok x, eqOks_map he xs⟩, by rw [inB_map he]; exact h⟩
theorem f_ninTD [DecidableEq α] (he : EqE 59 e) (h : W (.fz (.bl (!decide (x ∈ xs))))) : ninF (e x) (.tup (xs.map e)) W := ⟨.inr ⟨.inr rfl, he.ok x, eqOks_map he xs⟩, by rw [inB_map he]; exact h⟩
theorem isNone_opt {o : Option α} (hn : NN e) : isNoneD (eO e o) = o.isNone := by
  cases o with
  | none => rfl
  | some x => exact (hn x).1
theorem f_isN {o : Option α} (hn : NN e) (h : W (.fz (.bl o.isNone))) : isF (eO e o) .non W := by
  show W (.fz (.bl (isNoneD (eO e o)))); rw [isNone_opt hn]; exact h
theorem f_isnN {o : Option α} (hn : NN e) (h : W (.fz (.bl (!o.isNone)))) : isnF (eO e o) .non W := by
  show W (.fz (.bl (!isNoneD (eO e o)))); rw [isNone_opt hn]; exact h
theorem f_isA {d : Dv} (h : W (.fz (.bl (isNoneD d)))) : isF d .non W := h
theorem f_isnA {d : Dv} (h : W (.fz (.bl (!isNoneD d)))) : isnF d .non W := h
theorem atI_map (xs : List α) (i : Int) : atI (xs.map e) i = (atI xs i).map e := by
  unfold atI; rw [List.length_map]
  cases ixN xs.length i with
  | none => rfl
  | some j => exact List.getElem?_map
theorem f_ixL (h : oIx xs i = some x) (w : W (.fz (e x))) : ixF (.lst (xs.map e)) (.int i) W := ⟨e x, by rw [atI_map]; unfold oIx at h; rw [h]; rfl, w⟩
theorem f_ixT (h : oIx xs i = some x) (w : W (.fz (e x))) : ixF (.tup (xs.map e)) (.int i) W := ⟨e x, by rw [atI_map]; unfold oIx at h; rw [h]; rfl, w⟩
theorem f_ixP {ds : List Dv} {d : Dv} (h : atI ds i = some d) (w : W (.fz d)) : ixF (.tup ds) (.int i) W := ⟨d, h, w⟩
theorem f_ixPL {ds : List Dv} {d : Dv} (h : atI ds i = some d) (w : W (.fz d)) : ixF (.lst ds) (.int i) W := ⟨d, h, w⟩
theorem f_lenL (w : W (.fz (.int xs.length))) : lenF [.lst (xs.map e)] W := by show W _; rw [List.length_map]; exact w
theorem f_lenT (w : W (.fz (.int xs.length))) : lenF [.tup (xs.map e)] W := by show W _; rw [List.length_map]; exact w
theorem f_listL {ds : List Dv} (w : W (.ml ds)) : listF [.lst ds] W := w
theorem f_listT {ds : List Dv} (w : W (.ml ds)) : listF [.tup ds] W := w
theorem f_tupL {ds : List Dv} (w : W (.fz (.tup ds))) : tupleF [.lst ds] W := w
theorem f_tupT {ds : List Dv} (w : W (.fz (.tup ds))) : tupleF [.tup ds] W := w
theorem f_intI (w : W (.fz (.int i))) : intF [.int i] W := w
theorem f_intB {b : Bool} (w : W (.fz (.int (if b then 1 else 0)))) : intF [.bl b] W := w
theorem f_abs (w : W (.fz (.int (if i < 0 then -i else i)))) : absF [.int i] W := w
theorem f_sum {ns : List Int} (w : W (.fz (.int ns.sum))) : sumF [.lst (ns.map eI)] W := by
  show (match asInts (ns.map Dv.int) with | some ns => W (.fz (.int ns.sum)) | none => False)
  rw [asInts_map]; exact w
theorem f_max2 (w : W (.fz (.int (max i j)))) : maxF [.int i, .int j] W := by
  show W (.fz (.int (if j > i then j else i)))
  have : max i j = if j > i then j else i := by split <;> omega
  rw [← this]; exact w
theorem f_min2 (w : W (.fz (.int (min i j)))) : minF [.int i, .int j] W := by
  show W (.fz (.int (if j < i then j else i)))
  have : min i j = if j < i then j else i := by split <;> omega
  rw [← this]; exact w
theorem f_maxL {ns : List Int} {m : Int} (h : oMax ns = some m) (w : W (.fz (.int m))) : maxF [.lst (ns.map eI)] W := by
  show (match asInts (ns.map Dv.int) with | some ns => 0 < ns.length ∧ ∀ m, m ∈ ns → (∀ y, y ∈ ns → y ≤ m) → W (.fz (.int m)) | none => False)
  rw [asInts_map]
  unfold oMax at h
  have hm := List.max?_eq_some_iff.mp h
  refine ⟨List.length_pos_of_mem hm.1, fun m' h1 h2 => ?_⟩
  have e1 := h2 m hm.1
  have e2 := hm.2 m' h1
  have : m' = m := by omega
  rw [this]; exact w
theorem f_minL {ns : List Int} {m : Int} (h : oMin ns = some m) (w : W (.fz (.int m))) : minF [.lst (ns.map eI)] W := by
  show (match asInts (ns.map Dv.int) with | some ns => 0 < ns.length ∧ ∀ m, m ∈ ns → (∀ y, y ∈ ns → m ≤ y) → W (.fz (.int m)) | none => False)
  rw [asInts_map]
  unfold oMin at h
  have hm := List.min?_eq_some_iff.mp h
  refine ⟨List.length_pos_of_mem hm.1, fun m' h1 h2 => ?_⟩
  have e1 := h2 m hm.1
  have e2 := hm.2 m' h1
  have : m' = m := by omega
  rw [this]; exact w
theorem f_all {bs : List Bool} (w : W (.fz (.bl (bs.all id)))) : allF [.lst (bs.map eB)] W := by
  show (match asBls (bs.map Dv.bl) with | some bs => W (.fz (.bl (bs.all id))) | none => False)
  rw [asBls_map]; exact w
theorem f_any {bs : List Bool} (w : W (.fz (.bl (bs.any id)))) : anyF [.lst (bs.map eB)] W := by
  show (match asBls (bs.map Dv.bl) with | some bs => W (.fz (.bl (bs.any id))) | none => False)
  rw [asBls_map]; exact w
theorem f_isi {d : Dv} {t T : String} (ht : tyName d = some t) (hT : T ∈ ["int", "bool", "str", "tuple", "list", "dict"]) (w : W (.fz (.bl (isA t T)))) : isiF [d, .ty T] W := by
  show (match tyName d with | some t => _ | none => False)
  rw [ht]; exact ⟨hT, w⟩
theorem cutD_map (xs : List α) (lo hi : Option Int) : cutD (xs.map e) lo hi = (cut xs lo hi).map e := by
  unfold cutD cut; rw [List.length_map, List.map_take, List.map_drop]
theorem f_slL {lo hi : Option Int} (w : W (.ml ((cut xs lo hi).map e))) : slF (.lst (xs.map e)) lo hi W := by show W _; rw [cutD_map]; exact w
theorem f_slT {lo hi : Option Int} (w : W (.fz (.tup ((cut xs lo hi).map e)))) : slF (.tup (xs.map e)) lo hi W := by show W _; rw [cutD_map]; exact w
theorem truD_lst : truD (.lst (xs.map e)) = some (!xs.isEmpty) := by simp [truD]
theorem truD_tup : truD (.tup (xs.map e)) = some (!xs.isEmpty) := by simp [truD]
theorem truD_opt {o : Option Int} : truD (eO eI o) = some (match o with | some i => i != 0 | none => false) := by cases o <;> rfl
theorem enumD_map (xs : List α) : ∀ k, enumD k (xs.map e) = (enumL k xs).map (eP eI e) := by
  induction xs with
  | nil => intro k; rfl
  | cons x xs ih => intro k; simp only [List.map_cons, enumD, enumL, ih]
theorem zipD_map {ys : List β} : zipD (xs.map e) (ys.map f) = (xs.zip ys).map (eP e f) := by
  unfold zipD; rw [List.zip_map, List.map_map]; rfl
theorem rangeD_map (lo : Int) (n : Nat) : rangeD lo n = (rngL lo n).map eI := by simp [rangeD, rngL]
end
/-! ### iterables -/
section
variable {α β : Type} {e : α → Dv} {f : β → Dv} {δ δ1 δ2 δ3 : DS} {s s2 : Sl} {t ta tb : DT} {xs : List α} {ys : List β}
theorem ei_lst (h : Ev t δ s δ1) (hf : fzR s δ1 = some (.lst (xs.map e), δ2)) : EvI (dSeqI t) δ (xs.map e) δ2 := evi_seq h hf rfl
theorem ei_tup (h : Ev t δ s δ1) (hf : fzR s δ1 = some (.tup (xs.map e), δ2)) : EvI (dSeqI t) δ (xs.map e) δ2 := evi_seq h hf rfl
theorem ei_rng1 {n : Int} {ns : List Int} (h : Ev t δ s δ1) (v : view δ1 s = some (.int n)) (hn : oRng 0 n = some ns) : EvI (dRng1 (dCons t dNil)) δ (ns.map eI) δ1 := by
  unfold oRng at hn
  split at hn
  · rename_i q
    cases hn
    rw [Int.sub_zero, ← rangeD_map]
    exact evi_rng1 h v (smB_iff.mp (by simpa using (Bool.and_eq_true _ _ ▸ q).2))
  · cases hn
theorem ei_rng2 {n m : Int} {ns : List Int} (h : Ev ta δ s δ1) (h2 : Ev tb δ1 s2 δ2) (v : view δ2 s = some (.int n)) (v2 : view δ2 s2 = some (.int m)) (hn : oRng n m = some ns) : EvI (dRng2 (dCons ta (dCons tb dNil))) δ (ns.map eI) δ2 := by
  unfold oRng at hn
  split at hn
  · rename_i q
    cases hn
    have q := Bool.and_eq_true _ _ ▸ q
    rw [← rangeD_map]
    exact evi_rng2 h h2 v v2 (smB_iff.mp q.1) (smB_iff.mp q.2)
  · cases hn
theorem oRgL_some {n m : Int} {ns : List Int} (hn : oRgL n m = some ns) : RgOk n m ∧ ns = rngL n (m - n).toNat := by
  unfold oRgL at hn
  split at hn
  · rename_i q
    cases hn
    simp only [Bool.and_eq_true, decide_eq_true_eq] at q
    have a := smB_iff.mp q.1.1
    have b := smB_iff.mp q.1.2
    exact ⟨⟨a.1, a.2, b.1, b.2, q.2⟩, rfl⟩
  · cases hn
theorem ev_lrg1 {n : Int} {ns : List Int} (h : Ev t δ s δ1) (v : view δ1 s = some (.int n)) (hn : oRgL 0 n = some ns) : Ev (dRgL .ml (dCons t dNil)) δ (.ml (ns.map eI)) δ1 := by
  obtain ⟨h1, rfl⟩ := oRgL_some hn
  rw [Int.sub_zero, ← rangeD_map]
  exact ev_rgl1 h v h1
theorem ev_lrg2 {n m : Int} {ns : List Int} (h : Ev ta δ s δ1) (h2 : Ev tb δ1 s2 δ2) (v : view δ2 s = some (.int n)) (v2 : view δ2 s2 = some (.int m)) (hn : oRgL n m = some ns) : Ev (dRgL .ml (dCons ta (dCons tb dNil))) δ (.ml (ns.map eI)) δ2 := by
  obtain ⟨h1, rfl⟩ := oRgL_some hn
  rw [← rangeD_map]
  exact ev_rgl2 h h2 v v2 h1
theorem ev_trg1 {n : Int} {ns : List Int} (h : Ev t δ s δ1) (v : view δ1 s = some (.int n)) (hn : oRgL 0 n = some ns) : Ev (dRgL (fun ds => .fz (.tup ds)) (dCons t dNil)) δ (.fz (.tup (ns.map eI))) δ1 := by
  obtain ⟨h1, rfl⟩ := oRgL_some hn
  rw [Int.sub_zero, ← rangeD_map]
  exact ev_rgl1 (g := fun ds => .fz (.tup ds)) h v h1
theorem ev_trg2 {n m : Int} {ns : List Int} (h : Ev ta δ s δ1) (h2 : Ev tb δ1 s2 δ2) (v : view δ2 s = some (.int n)) (v2 : view δ2 s2 = some (.int m)) (hn : oRgL n m = some ns) : Ev (dRgL (fun ds => .fz (.tup ds)) (dCons ta (dCons tb dNil))) δ (.fz (.tup (ns.map eI))) δ2 := by
  obtain ⟨h1, rfl⟩ := oRgL_some hn
  rw [← rangeD_map]
  exact ev_rgl2 (g := fun ds => .fz (.tup ds)) h h2 v v2 h1
theorem ei_enum (h : Ev t δ s δ1) (hf : frzSeq s δ1 = some (xs.map e, δ2)) : EvI (dEnum (dCons t dNil)) δ ((enumL 0 xs).map (eP eI e)) δ2 := fun Q q => h _ (by
  show (match frzSeq s δ1 with | some (ds, δ2) => Q (enumD 0 ds) δ2 | none => False)
  rw [hf]; show Q (enumD 0 (xs.map e)) δ2; rw [enumD_map]; exact q)
theorem ei_zip (h : Ev ta δ s δ1) (h2 : Ev tb δ1 s2 δ2) {δ4 : DS} (hf : frzSeq s δ2 = some (xs.map e, δ3)) (hf2 : frzSeq s2 δ3 = some (ys.map f, δ4)) : EvI (dZip (dCons ta (dCons tb dNil))) δ ((xs.zip ys).map (eP e f)) δ4 := fun Q q => h _ (h2 _ (by
  show (match frzSeq s δ2 with | some (ds, δ2) => (match frzSeq s2 δ2 with | some (es, δ3) => Q (zipD ds es) δ3 | none => False) | none => False)
  rw [hf]; dsimp only; rw [hf2]; show Q (zipD (xs.map e) (ys.map f)) δ4; rw [zipD_map]; exact q))
end
/-! ### comprehensions -/
theorem pl_nil {δ : DS} : plainAt δ [] := fun v h => absurd h (by simp)
theorem pl_cons {δ : DS} {v : Nat} {vs : List Nat} {o : Option Sl} (h : δ[v]? = some o) (p : pl o) (r : plainAt δ vs) : plainAt δ (v :: vs) := fun u hu => by
  rcases List.mem_cons.mp hu with rfl | hu
  · rcases p with rfl | ⟨d, rfl⟩
    · exact .inl h
    · exact .inr ⟨d, h⟩
  · exact r u hu
theorem pl_none : pl none := .inl rfl
theorem pl_fz {d : Dv} : pl (some (.fz d)) := .inr ⟨d, rfl⟩
/-- one turn of a comprehension, the state as before -/
def CompOk (g : DG) (tt : DTB) (te : DT) (vs : List Nat) (δ : DS) (d : Dv) (o : Option Dv) : Prop :=
  ∃ δ3 b δ4, EvG g (.fz d) (wipeD δ vs) δ3 ∧ EvT tt δ3 b δ4 ∧ (b = false → o = none ∧ backD δ4 δ vs = δ) ∧ (b = true → ∃ s δ5 x δ6, Ev te δ4 s δ5 ∧ fzR s δ5 = some (x, δ6) ∧ backD δ6 δ vs = δ ∧ o = some x)
theorem compN_split {α β : Type} {f : α → Option (Option β)} : ∀ {xs : List α} {ys : List β}, oCompN xs f = some ys → ∀ i x, xs[i]? = some x → ∃ (o : Option β) (ys1 : List β), f x = some o ∧ oCompN (xs.take i) f = some ys1 ∧ oCompN (xs.take (i + 1)) f = some (ys1 ++ o.toList)
  | [], ys, h, i, x, hx => by simp at hx
  | a :: xs, ys, h, 0, x, hx => by
    obtain ⟨o, h1, h2⟩ := bnd h
    simp at hx; subst hx
    refine ⟨o, [], h1, rfl, ?_⟩
    simp only [List.take_succ_cons, List.take_zero, oCompN, h1, Option.bind_some]
    cases o <;> rfl
  | a :: xs, ys, h, i + 1, x, hx => by
    obtain ⟨o, h1, h2⟩ := bnd h
    obtain ⟨zs, h3, h4⟩ := bnd h2
    obtain ⟨o', ys1, g1, g2, g3⟩ := compN_split h3 i x (by simpa using hx)
    refine ⟨o', o.toList ++ ys1, g1, ?_, ?_⟩
    · rw [List.take_succ_cons]
      simp only [oCompN, h1, g2, Option.bind_some]
    · rw [List.take_succ_cons]
      simp only [oCompN, h1, g3, Option.bind_some]
      cases o <;> rfl
theorem ev_comp {α β : Type} {wi : DTI} {g : DG} {tt : DTB} {te : DT} {vs : List Nat} {δ δ1 : DS} {items : List α} {e : α → Dv} {eo : β → Dv} {f : α → Option (Option β)} {res : List β}
    (hi : EvI wi δ (items.map e) δ1) (hpl : plainAt δ1 vs) (hres : oComp items f = some res) (hb : ∀ x o, x ∈ items → f x = some o → CompOk g tt te vs δ1 (e x) (o.map eo)) :
    Ev (dLC wi g tt te vs) δ (.ml (res.map eo)) δ1 := fun Q q => hi _ (by
  unfold oComp at hres
  split at hres
  · rename_i hl
    unfold LcB
    refine ⟨hpl, fun i acc δ2 => δ2 = δ1 ∧ i ≤ items.length ∧ ∃ ys, oCompN (items.take i) f = some ys ∧ acc = ys.map eo, ⟨rfl, Nat.zero_le _, [], rfl, rfl⟩, ?_, ?_⟩
    · rintro i d acc δ2 hd ⟨rfl, hle, ys, hy, rfl⟩
      rw [List.getElem?_map] at hd
      obtain ⟨x, hx, rfl⟩ := Option.map_eq_some_iff.mp hd
      have hlt := (List.getElem?_eq_some_iff.mp hx).1
      obtain ⟨o, ys1, g1, g2, g3⟩ := compN_split hres i x hx
      rw [hy] at g2; cases g2
      obtain ⟨δ3, b, δ4, c1, c2, c3, c4⟩ := hb x o (List.mem_of_getElem? hx) g1
      refine ⟨hpl, c1 _ (c2 _ ?_)⟩
      cases b with
      | false =>
        obtain ⟨ho, hd2⟩ := c3 rfl
        have ho : o = none := by cases o with | none => rfl | some y => cases ho
        subst ho
        show backD δ4 δ2 vs = δ2 ∧ _
        refine ⟨hd2, hlt, ys, by simpa using g3, rfl⟩
      | true =>
        obtain ⟨s, δ5, y, δ6, d1, d2, d3, d4⟩ := c4 rfl
        refine d1 _ ?_
        dsimp only
        rw [d2]
        cases o with
        | none => cases d4
        | some z =>
          have hz : eo z = y := Option.some.inj d4
          have hyl := oCompN_len hy
          rw [List.length_take] at hyl
          refine ⟨by rw [List.length_map]; omega, d3, hlt, ys ++ [z], by simpa using g3, by rw [List.map_append, ← hz]; rfl⟩
    · rintro acc δ2 ⟨rfl, _, ys, hy, rfl⟩
      rw [List.length_map, List.take_length, hres] at hy
      cases hy
      exact q
  · cases hres)
end DL

set_option Elab.async false
set_option linter.all false
set_option maxRecDepth 100000
set_option maxHeartbeats 4000000
/-! EVC: calls of defs, the shared defs, typed. -/
namespace DL
open PySem L2
section
variable {δ δ1 δ2 δ3 : DS} {s s' : Sl} {d : Dv} {ds : List Dv} {te : DT} {u t : DTS} {P P1 : FP} {j : Nat}
theorem mv_nil {f : Sl → Option Dv} : ([] : List Sl).mapM f = some [] := rfl
theorem mv_cons {f : Sl → Option Dv} {a : Sl} {b : Dv} {as : List Sl} {bs : List Dv} (h : f a = some b) (hr : as.mapM f = some bs) : (a :: as).mapM f = some (b :: bs) := by
  rw [List.mapM_cons, h, hr]; rfl
theorem hn_fz {b : Bool} (h : nolst d = true) : (b || nolstS (.fz d)) = true := by simp [nolstS, h]
theorem hn_ml {b : Bool} (h : nolsts ds = true) : (b || nolstS (.ml ds)) = true := by simp [nolstS, h]
theorem hn_fzM {b : Bool} {dd : Deal} (h : nolst d = true) : (b || (nolstS (.fz d) && nolstS (.deal dd))) = true := by simp [nolstS, h]
theorem hn_mlM {b : Bool} {dd : Deal} (h : nolsts ds = true) : (b || (nolstS (.ml ds) && nolstS (.deal dd))) = true := by simp [nolstS, h]
theorem run_retS_fz (h : Ev te δ (.fz d) δ1) (k : P (.rt (.fz d)) δ1) : Run (dSeq (dRet te) u) δ P := fun ⟨_, _, _, _⟩ hE => h _ (hE (.rt (.fz d)) _ k)
theorem run_retS_ml (h : Ev te δ (.ml ds) δ1) (k : P (.rt (.ml ds)) δ1) : Run (dSeq (dRet te) u) δ P := fun ⟨_, _, _, _⟩ hE => h _ (hE (.rt (.ml ds)) _ k)
theorem run_retS_md {ks : List Key} (h : Ev te δ (.md ks ds) δ1) (k : P (.rt (.md ks ds)) δ1) : Run (dSeq (dRet te) u) δ P := fun ⟨_, _, _, _⟩ hE => h _ (hE (.rt (.md ks ds)) _ k)
theorem run_retS_al (h : Ev te δ (.al j) δ1) (hj : δ1[j]? = some (some s)) (hd : δ1.set j none = δ2) (k : P (.rt s) δ2) : Run (dSeq (dRet te) u) δ P := fun ⟨_, _, _, _⟩ hE => h _ (by
  show (match δ1[j]? with | some (some u) => _ | _ => False)
  rw [hj]; subst hd; exact hE (.rt s) _ k)
end
/-- the last statement: a loop -/
theorem run_foldL {α σ : Type} {wi : DTI} {g : DG} {tb : DTS} {δ δ1 : DS} {items : List α} {e : α → Dv} {vec : σ → DS → Prop} {s0 : σ} {f : α → σ → Option σ} {P : FP} {τ : Type} {k : σ → Option τ} {r : τ} (hi : EvI wi δ (items.map e) δ1) (h0 : vec s0 δ1) (hs : (oFold items s0 f).bind k = some r)
    (hb : ∀ x s s' δ2, x ∈ items → vec s δ2 → f x s = some s' → RunB g (.fz (e x)) tb δ2 fun fl δ' => (fl = .nx ∨ fl = .ct) ∧ vec s' δ') (hk : ∀ s δ', vec s δ' → k s = some r → P .nx δ') : Run (dFor wi g tb) δ P := by
  obtain ⟨s1, h1, h2⟩ := bnd hs
  exact (run_fold hi h0 h1 hb).imp fun f δ' ⟨e, v⟩ => by subst e; exact hk s1 δ' v h2
theorem run_foldS {α σ : Type} {wi : DTI} {g : DG} {tb u : DTS} {δ δ1 : DS} {items : List α} {e : α → Dv} {vec : σ → DS → Prop} {s0 : σ} {f : α → σ → Option σ} {P : FP} {τ : Type} {k : σ → Option τ} {r : τ} (hi : EvI wi δ (items.map e) δ1) (h0 : vec s0 δ1) (hs : (oFold items s0 f).bind k = some r)
    (hb : ∀ x s s' δ2, x ∈ items → vec s δ2 → f x s = some s' → RunB g (.fz (e x)) tb δ2 fun fl δ' => (fl = .nx ∨ fl = .ct) ∧ vec s' δ') (hk : ∀ s δ', vec s δ' → k s = some r → Run u δ' P) : Run (dSeq (dFor wi g tb) u) δ P := by
  obtain ⟨s1, h1, h2⟩ := bnd hs
  exact run_thru (run_fold hi h0 h1 hb) fun δ' v => hk s1 δ' v h2
theorem run_forL {α σ ρ τ : Type} {wi : DTI} {g : DG} {tb : DTS} {δ δ1 : DS} {items : List α} {e : α → Dv} {vec : σ → DS → Prop} {RT : ρ → FP} {s0 : σ} {f : α → σ → Option (Stp σ ρ)} {P : FP} {q : ρ → Option τ} {k : σ → Option τ} {r : τ} (hi : EvI wi δ (items.map e) δ1) (h0 : vec s0 δ1)
    (hs : ((oFor items s0 f).bind fun st => oThen st q k) = some r)
    (hb : ∀ x s st' δ2, x ∈ items → vec s δ2 → f x s = some st' → RunB g (.fz (e x)) tb δ2 (StpP vec RT st'))
    (hr : ∀ a fl δ', q a = some r → RT a fl δ' → P fl δ') (hk : ∀ s δ', vec s δ' → k s = some r → P .nx δ') : Run (dFor wi g tb) δ P := by
  obtain ⟨st, h1, h2⟩ := bnd hs
  refine (run_forB (P := fun fl δ' => StpP vec RT st fl δ' ∧ fl ≠ .ct) hi h0 h1 hb (fun fl δ' a b => ⟨a, b⟩) (oFor_nb h1)).imp fun fl δ' a => ?_
  cases st with
  | nx s =>
    rcases a.1.1 with z | z
    · subst z; exact hk s δ' a.1.2 h2
    · exact absurd z a.2
  | bk s => exact absurd rfl (oFor_nb h1 s)
  | rt r => exact hr _ _ _ h2 a.1.2
theorem run_whileL {σ ρ τ : Type} {c : DTB} {tb : DTS} {δ : DS} {vec : σ → DS → Prop} {RT : ρ → FP} {s0 : σ} {n : Nat} {cf : σ → Option Bool} {f : σ → Option (Stp σ ρ)} {P : FP} {q : ρ → Option τ} {k : σ → Option τ} {r : τ} (h0 : vec s0 δ)
    (hs : ((oWhile n s0 cf f).bind fun st => oThen st q k) = some r)
    (hc : ∀ s b δ2, vec s δ2 → cf s = some b → EvT c δ2 b δ2)
    (hb : ∀ s st' δ2, cf s = some true → vec s δ2 → f s = some st' → Run tb δ2 (StpP vec RT st'))
    (hr : ∀ a fl δ', q a = some r → RT a fl δ' → P fl δ') (hk : ∀ s δ', vec s δ' → k s = some r → P .nx δ') : Run (dWhile c tb) δ P := fun ⟨nx, rt, bk, ct⟩ hE =>
  run_while (u := dNext) (P := P) h0 hs hc hb hr (fun s δ' v e => run_nx (hk s δ' v e)) ⟨nx, rt, bk, ct⟩ hE
/-! ### the shared defs -/
theorem oOf_map {α : Type} {e : α → Dv} {d d' : Deal} {xs : List α} {x : α} (h : oOf d xs = some (x, d')) : oOf d (xs.map e) = some (e x, d') := by
  unfold oOf at h ⊢
  obtain ⟨r, h1, h2⟩ := bnd h
  obtain ⟨y, h3, h4⟩ := Option.map_eq_some_iff.mp h2
  cases h4
  rw [List.length_map, h1]
  show Option.map _ (atI (xs.map e) r.1) = _
  rw [atI_map, h3]; rfl
theorem use_ofT {α : Type} {e : α → Dv} {d d' : Deal} {xs : List α} {x : α} {W : Sl → List Sl → Prop} (h : oOf d xs = some (x, d')) (k : W (.fz (e x)) [.deal d']) : S_law_of [.deal d, .fz (.lst (xs.map e))] W := use_of (oOf_map h) k
theorem map_erase {α : Type} {e : α → Dv} : ∀ (xs : List α) (j : Nat), (xs.map e).eraseIdx j = (xs.eraseIdx j).map e
  | [], _ => rfl
  | _ :: _, 0 => rfl
  | x :: xs, j + 1 => by
    show e x :: (xs.map e).eraseIdx j = e x :: (xs.eraseIdx j).map e
    rw [map_erase xs j]
theorem oMixN_map {α : Type} {e : α → Dv} : ∀ {n : Nat} {d d' : Deal} {xs ys zs : List α}, oMixN n d xs ys = some (zs, d') → oMixN n d (xs.map e) (ys.map e) = some (zs.map e, d')
  | 0, d, d', [], ys, zs, h => by cases h; rfl
  | n + 1, d, d', [], ys, zs, h => by cases h; rfl
  | 0, d, d', x :: xs, ys, zs, h => by cases h
  | n + 1, d, d', x :: xs, ys, zs, h => by
    obtain ⟨r, h1, h2⟩ := bnd h
    obtain ⟨y, h3, h4⟩ := bnd h2
    have ih := oMixN_map (e := e) h4
    show ((oAny d (e x :: xs.map e).length).bind fun r => ((e x :: xs.map e)[r.1.toNat]?).bind fun y => oMixN n r.2 ((e x :: xs.map e).eraseIdx r.1.toNat) (ys.map e ++ [y])) = _
    rw [← List.map_cons, List.length_map, h1]
    show (((List.map e (x :: xs))[r.1.toNat]?).bind fun y => oMixN n r.2 ((List.map e (x :: xs)).eraseIdx r.1.toNat) (ys.map e ++ [y])) = _
    rw [List.getElem?_map, h3]
    show oMixN n r.2 ((List.map e (x :: xs)).eraseIdx r.1.toNat) (ys.map e ++ [e y]) = _
    rw [map_erase]
    rw [List.map_append] at ih
    exact ih
theorem use_mixedT {α : Type} {e : α → Dv} (he : EqE 59 e) {d d' : Deal} {xs ys : List α} {W : Sl → List Sl → Prop} (h : oMixed d xs = some (ys, d')) (k : W (.ml (ys.map e)) [.deal d']) : S_law_mixed [.deal d, .fz (.lst (xs.map e))] W := by
  refine use_mixed (eqOks_map he xs) ?_ k
  unfold oMixed at h ⊢
  split at h
  · rename_i hl
    rw [if_pos (by rw [List.length_map]; exact hl), List.length_map]
    exact oMixN_map h
  · cases h
def oSameM {α β : Type} (e : α → Dv) (f : β → Dv) (x : α) (y : β) : Option Bool := if shOk 11 (e x) && shOk 11 (f y) then some (sameD (e x) (f y)) else none
theorem use_sameT {α β : Type} {e : α → Dv} {f : β → Dv} {x : α} {y : β} {b : Bool} {W : Sl → List Sl → Prop} (h : oSameM e f x y = some b) (k : W (.fz (.bl b)) []) : S_same 12 [.fz (e x), .fz (f y)] W := by
  unfold oSameM at h
  split at h
  · rename_i q
    cases h
    have q := Bool.and_eq_true _ _ ▸ q
    exact use_same q.1 q.2 k
  · cases h
end DL

set_option Elab.async false
set_option linter.all false
set_option maxRecDepth 100000
set_option maxHeartbeats 4000000
/-! EVD: what the generator's proofs name. -/
namespace DL
open PySem L2
section
variable {α β : Type} {e : α → Dv} {f : β → Dv} {xs ys zs : List α} {x : α} {δ δ1 δ2 δ3 δ4 : DS} {s s' r : Sl} {ss : List Sl} {d : Dv} {ds : List Dv} {t ta tb tu te : DT} {ts : DTA} {i j k : Nat} {P : FP} {b c : Bool}
theorem EvT.as {t : DTB} (h : EvT t δ b δ1) (e : b = c) : EvT t δ c δ1 := e ▸ h
theorem EvT.as2 {t : DTB} (h : EvT t δ b δ1) (e : b = c) (e2 : δ1 = δ2) : EvT t δ c δ2 := e ▸ e2 ▸ h
theorem Ev.as2 (h : Ev t δ s δ1) (e : s = s') (e2 : δ1 = δ2) : Ev t δ s' δ2 := e ▸ e2 ▸ h
theorem evt_nilT : EvT (dTests []) δ true δ := fun Q q => q
theorem app_lt (h : oApp xs x = some ys) : (xs.map e).length < sizeLine := by
  rw [List.length_map]; unfold oApp at h; split at h
  · assumption
  · cases h
theorem app_eq (h : oApp xs x = some ys) (hd : δ.set k (some (.ml (ys.map e))) = δ1) : δ.set k (some (.ml (xs.map e ++ [e x]))) = δ1 := by
  unfold oApp at h; split at h
  · cases h; rw [List.map_append] at hd; exact hd
  · cases h
theorem oPop_some (h : oPop xs = some (x, ys)) : xs = ys ++ [x] := by
  unfold oPop at h
  obtain ⟨y, h1, h2⟩ := Option.map_eq_some_iff.mp h
  cases h2
  obtain ⟨zs, hz⟩ := List.getLast?_eq_some_iff.mp h1
  rw [hz, List.dropLast_concat]
theorem pop_at (h : oPop xs = some (x, ys)) : (xs.map e)[(xs.map e).length - 1]? = some (e x) := by
  rw [oPop_some h, List.map_append]
  simp
theorem pop_eq (h : oPop xs = some (x, ys)) (hd : δ.set k (some (.ml (ys.map e))) = δ1) : δ.set k (some (.ml (xs.map e).dropLast)) = δ1 := by
  rw [oPop_some h, List.map_append]
  show δ.set k (some (.ml (ys.map e ++ [e x]).dropLast)) = δ1
  rw [List.dropLast_concat]; exact hd
theorem ev_popAtT {n : Int} (ho : Ev t δ (.al k) δ1) (hl : isL δ1 (.al k)) (ha : Ev tu δ1 s δ2) (vx : view δ2 s = some (.int n)) (hk : δ2[k]? = some (some (.ml (xs.map e)))) (h : oPopAt xs n = some (x, ys)) (hd : True → δ2.set k (some (.ml (ys.map e))) = δ3) : Ev (dMt popAtM t (dCons tu dNil)) δ (.fz (e x)) δ3 := by
  unfold oPopAt at h
  split at h
  · rename_i hn
    obtain ⟨j, h1, h2⟩ := bnd h
    obtain ⟨y, h3, h4⟩ := Option.map_eq_some_iff.mp h2
    cases h4
    refine ev_popAt (ds := xs.map e) (j := j) ho hl ha vx hk hn (by rw [List.length_map]; exact h1) (by rw [List.getElem?_map, h3]; rfl) ?_
    rw [map_erase]; exact hd trivial
  · cases h
theorem rev_ml (e : α → Dv) (xs : List α) : Sl.ml (xs.map e).reverse = .ml (xs.reverse.map e) := by rw [List.map_reverse]
theorem rev_tp (e : α → Dv) (xs : List α) : Sl.fz (.tup (xs.map e).reverse) = .fz (.tup (xs.reverse.map e)) := by rw [List.map_reverse]
theorem evt_andS {ρ : Type} {B C : Option ρ} {r : ρ} {t u : DTB} (h : EvT t δ b δ1) (e : (if b = true then B else C) = some r) (hf : C = some r → δ1 = δ2 ∧ c = false) (ht : B = some r → EvT u δ1 c δ2) : EvT (dAnd t u) δ c δ2 := fun Q q => h _ (by
  cases b with
  | true => exact ht e _ q
  | false => obtain ⟨rfl, rfl⟩ := hf e; exact q)
theorem evt_orS {ρ : Type} {B C : Option ρ} {r : ρ} {t u : DTB} (h : EvT t δ b δ1) (e : (if b = true then B else C) = some r) (hf : B = some r → δ1 = δ2 ∧ c = true) (ht : C = some r → EvT u δ1 c δ2) : EvT (dOr t u) δ c δ2 := fun Q q => h _ (by
  cases b with
  | true => obtain ⟨rfl, rfl⟩ := hf e; exact q
  | false => exact ht e _ q)
theorem rund_parE {ta : DTA} {a b a2 b2 : Sl} (h : EvA ta δ ss δ1) (hs : settle ss δ1 = some ([a, b], δ2)) (ea : a = a2) (eb : b = b2) (hd : (δ2.set i (some a2)).set j (some b2) = δ3) : RunD (dPar i j ta) δ δ3 := rund_par h hs (by rw [ea, eb]; exact hd)
theorem rund_par3E {ta : DTA} {l : Nat} {a b c a2 b2 c2 : Sl} (h : EvA ta δ ss δ1) (hs : settle ss δ1 = some ([a, b, c], δ2)) (ea : a = a2) (eb : b = b2) (ec : c = c2) (hd : ((δ2.set i (some a2)).set j (some b2)).set l (some c2) = δ3) : RunD (dPar3 i j l ta) δ δ3 := rund_par3 h hs (by rw [ea, eb, ec]; exact hd)
theorem run_draw {u : DTS} {ta : DTA} {ns : List Int} {n : Int} (ha : EvA ta δ [.fz (.scr ns), .fz (.int n)] δ1) (hn : 0 ≤ n ∧ n < 1000) (h : ∀ d, Run u (δ1.set i (some (.deal d))) P) : Run (dSeq (dSet i (dCall S_law_draw ta)) u) δ P := fun ⟨e1, e2, e3, e4⟩ hE => ha _ (use_draw hn.1 hn.2 fun d => ⟨rfl, force_i (h d ⟨e1, e2, e3, e4⟩ hE)⟩)
/-! or, one by one -/
theorem run_or {t u : DTB} {X Y : DTS} (ha : EvT t δ b δ1) (h1 : b = true → Run X δ1 P) (h0 : b = false → Run (dIf u X Y) δ1 P) : Run (dIf (dOr t u) X Y) δ P := fun E hE => ha _ (by
  cases b with
  | true => exact h1 rfl E hE
  | false => exact h0 rfl E hE)
theorem run_orS {t u : DTB} {X Y v : DTS} (ha : EvT t δ b δ1) (h1 : b = true → Run (dSeq X v) δ1 P) (h0 : b = false → Run (dSeq (dIf u X Y) v) δ1 P) : Run (dSeq (dIf (dOr t u) X Y) v) δ P := fun ⟨e1, e2, e3, e4⟩ hE => ha _ (by
  cases b with
  | true => exact h1 rfl ⟨e1, e2, e3, e4⟩ hE
  | false => exact h0 rfl ⟨e1, e2, e3, e4⟩ hE)
theorem run_ret_and (h : Ev t δ s δ1) (es : s = .fz (.bl b)) (h0 : b = false → P (.rt (.fz (.bl false))) δ1) (h1 : b = true → Run (dRet tu) δ1 P) : Run (dRet (dAndV t tu)) δ P := fun E hE => by
  subst es
  refine h _ ?_
  cases b with
  | true => exact h1 rfl E hE
  | false => exact hE _ _ (h0 rfl)
theorem run_retS_and {v : DTS} (h : Ev t δ s δ1) (es : s = .fz (.bl b)) (h0 : b = false → P (.rt (.fz (.bl false))) δ1) (h1 : b = true → Run (dSeq (dRet tu) v) δ1 P) : Run (dSeq (dRet (dAndV t tu)) v) δ P := fun ⟨e1, e2, e3, e4⟩ hE => by
  subst es
  refine h _ ?_
  cases b with
  | true => exact h1 rfl ⟨e1, e2, e3, e4⟩ hE
  | false => exact hE (.rt (.fz (.bl false))) _ (h0 rfl)
theorem run_ret_or (h : Ev t δ s δ1) (es : s = .fz (.bl b)) (h0 : b = true → P (.rt (.fz (.bl true))) δ1) (h1 : b = false → Run (dRet tu) δ1 P) : Run (dRet (dOrV t tu)) δ P := fun E hE => by
  subst es
  refine h _ ?_
  cases b with
  | false => exact h1 rfl E hE
  | true => exact hE _ _ (h0 rfl)
theorem run_retS_or {v : DTS} (h : Ev t δ s δ1) (es : s = .fz (.bl b)) (h0 : b = true → P (.rt (.fz (.bl true))) δ1) (h1 : b = false → Run (dSeq (dRet tu) v) δ1 P) : Run (dSeq (dRet (dOrV t tu)) v) δ P := fun ⟨e1, e2, e3, e4⟩ hE => by
  subst es
  refine h _ ?_
  cases b with
  | false => exact h1 rfl ⟨e1, e2, e3, e4⟩ hE
  | true => exact hE (.rt (.fz (.bl true))) _ (h0 rfl)
end
end DL

set_option Elab.async false
set_option linter.all false
set_option maxRecDepth 100000
set_option maxHeartbeats 4000000
/-! EVE: dicts, two clauses, stores, index, typed. -/
namespace DL
open PySem L2
/-! ### dicts with keys ints -/
def kI (i : Int) : Key := .inl i
abbrev dKs {α : Type} (d : List (Int × α)) : List Key := d.map fun p => kI p.1
abbrev dVs {α : Type} (e : α → Dv) (d : List (Int × α)) : List Dv := d.map fun p => e p.2
abbrev eD {α : Type} (e : α → Dv) (d : List (Int × α)) : Dv := .dic (dKs d) (dVs e d)
def tGet {α : Type} (d : List (Int × α)) (k : Int) : Option α := d.lookup k
def tHas {α : Type} (d : List (Int × α)) (k : Int) : Bool := (d.lookup k).isSome
def tPut {α : Type} (d : List (Int × α)) (k : Int) (v : α) : List (Int × α) := if tHas d k = true then d.map (fun p => if p.1 = k then (p.1, v) else p) else d ++ [(k, v)]
def tDrop {α : Type} (d : List (Int × α)) (k : Int) : List (Int × α) := d.filter fun p => decide (p.1 ≠ k)
def tMerge {α : Type} (d more : List (Int × α)) : List (Int × α) := more.foldl (fun acc p => tPut acc p.1 p.2) d
def oPut {α : Type} (d : List (Int × α)) (k : Int) (v : α) : Option (List (Int × α)) := if d.length < sizeLine then some (tPut d k v) else none
section
variable {α β γ : Type} {e : α → Dv} {f : β → Dv} {W : Sl → Prop} {d d' : List (Int × α)} {k : Int} {x : α} {δ δ1 δ2 δ3 δ4 : DS} {s r : Sl} {t ta tb to ti tk tv : DT} {i : Nat}
theorem zip_dic (e : α → Dv) (d : List (Int × α)) : (dKs d).zip (dVs e d) = d.map fun p => (kI p.1, e p.2) := by
  induction d with
  | nil => rfl
  | cons p d ih =>
    show (kI p.1, e p.2) :: (dKs d).zip (dVs e d) = (kI p.1, e p.2) :: d.map _
    rw [ih]
theorem kI_eq {i j : Int} : kI i = kI j ↔ i = j := ⟨fun h => Sum.inl.inj h, fun h => h ▸ rfl⟩
theorem lk_cons (p : Int × α) (d : List (Int × α)) (k : Int) : (p :: d).lookup k = if p.1 = k then some p.2 else d.lookup k := by
  obtain ⟨a, b⟩ := p
  rw [List.lookup_cons]
  by_cases h : a = k
  · subst h; simp
  · have : (k == a) = false := by simpa using fun z => h z.symm
    simp [this, h]
theorem dget_dic (e : α → Dv) (d : List (Int × α)) (k : Int) : dget (dKs d) (dVs e d) (kI k) = (tGet d k).map e := by
  unfold tGet
  induction d with
  | nil => rfl
  | cons p d ih =>
    show dget (kI p.1 :: dKs d) (e p.2 :: dVs e d) (kI k) = _
    rw [dget, lk_cons, ih]
    by_cases h : p.1 = k
    · rw [if_pos (kI_eq.mpr h), if_pos h]; rfl
    · rw [if_neg (fun z => h (kI_eq.mp z)), if_neg h]
theorem has_dic (e : α → Dv) (d : List (Int × α)) (k : Int) : hasA (d.map fun p => (kI p.1, e p.2)) (kI k) = tHas d k := by
  unfold tHas
  induction d with
  | nil => rfl
  | cons p d ih =>
    rw [lk_cons, List.map_cons]
    unfold hasA at ih ⊢
    rw [List.any_cons, ih]
    by_cases h : p.1 = k
    · simp [h]
    · have : ¬ kI p.1 = kI k := fun z => h (kI_eq.mp z)
      simp [h, this]
theorem put_dic (e : α → Dv) (d : List (Int × α)) (k : Int) (x : α) : putA (d.map fun p => (kI p.1, e p.2)) (kI k) (e x) = (tPut d k x).map fun p => (kI p.1, e p.2) := by
  unfold putA tPut
  rw [has_dic]
  split
  · rw [List.map_map, List.map_map]
    refine List.map_congr_left fun p _ => ?_
    show (if kI p.1 = kI k then (kI p.1, e x) else (kI p.1, e p.2)) = _
    by_cases h : p.1 = k
    · rw [if_pos (kI_eq.mpr h)]; simp [h]
    · rw [if_neg (fun z => h (kI_eq.mp z))]; simp [h]
  · rw [List.map_append]; rfl
theorem merge_dic (e : α → Dv) (more : List (Int × α)) : ∀ d : List (Int × α), mergeA (d.map fun p => (kI p.1, e p.2)) (more.map fun p => (kI p.1, e p.2)) = (tMerge d more).map fun p => (kI p.1, e p.2) := by
  induction more with
  | nil => intro d; rfl
  | cons p more ih =>
    intro d
    show mergeA (putA (d.map fun p => (kI p.1, e p.2)) (kI p.1) (e p.2)) (more.map fun p => (kI p.1, e p.2)) = _
    rw [put_dic, ih]; rfl
theorem ks_map (e : α → Dv) (d : List (Int × α)) : ksA (d.map fun p => (kI p.1, e p.2)) = dKs d := by simp [ksA]
theorem vs_map (e : α → Dv) (d : List (Int × α)) : vsA (d.map fun p => (kI p.1, e p.2)) = dVs e d := by simp [vsA]
theorem f_ixD (h : tGet d k = some x) (w : W (.fz (e x))) : ixF (.dic (dKs d) (dVs e d)) (.int k) W := ⟨kI k, e x, rfl, by rw [dget_dic, h]; rfl, w⟩
theorem f_inDic (w : W (.fz (.bl (tHas d k)))) : inF (.int k) (.dic (dKs d) (dVs e d)) W := ⟨_, rfl, by rw [zip_dic]; show W (.fz (.bl (hasA _ (kI k)))); rw [has_dic]; exact w⟩
theorem f_ninDic (w : W (.fz (.bl (!tHas d k)))) : ninF (.int k) (.dic (dKs d) (dVs e d)) W := ⟨_, rfl, by rw [zip_dic]; show W (.fz (.bl (!hasA _ (kI k)))); rw [has_dic]; exact w⟩
theorem f_lenD (w : W (.fz (.int d.length))) : lenF [.dic (dKs d) (dVs e d)] W := by show W _; rw [List.length_map]; exact w
theorem pairs_dic (e : α → Dv) : ∀ d : List (Int × α), pairsD (d.map (eP eI e)) = some (d.map fun p => (kI p.1, e p.2))
  | [] => rfl
  | p :: d => by
    show (match pairD (.tup [.int p.1, e p.2]), pairsD (d.map (eP eI e)) with | some p, some r => some (p :: r) | _, _ => none) = _
    rw [pairs_dic e d]; rfl
theorem f_dict (w : W (.md (dKs (tMerge [] d)) (dVs e (tMerge [] d)))) : dictF [.lst (d.map (eP eI e))] W := by
  show (match pairsD (d.map (eP eI e)) with | some l => W (.md (ksA (mergeA [] l)) (vsA (mergeA [] l))) | none => False)
  rw [pairs_dic]
  show W (.md (ksA (mergeA ((([] : List (Int × α))).map fun p => (kI p.1, e p.2)) (d.map fun p => (kI p.1, e p.2)))) (vsA (mergeA ((([] : List (Int × α))).map fun p => (kI p.1, e p.2)) (d.map fun p => (kI p.1, e p.2)))))
  rw [merge_dic, ks_map, vs_map]; exact w
theorem ev_dnew : Ev dDNew δ (.md [] []) δ := fun Q q => q
theorem EvG.as {g : DG} (h : EvG g s δ δ1) (e : δ1 = δ2) : EvG g s δ δ2 := e ▸ h
def oSet {α : Type} (xs : List α) (n : Int) (v : α) : Option (List α) := (ixN xs.length n).map fun j => xs.set j v
/-- xs[n] = v -/
theorem evg_setL {n : Int} {xs ys : List α} {v : α} {k : Nat} {y : Sl} (ho : Ev to δ (.al k) δ1) (hi : Ev ti δ1 y δ2) (vi : view δ2 y = some (.int n)) (hf : fzR s δ2 = some (e v, δ3)) (hk : δ3[k]? = some (some (.ml (xs.map e)))) (hset : oSet xs n v = some ys)
    (hd : δ3.set k (some (.ml (ys.map e))) = δ4) : EvG (dSub to ti) s δ δ4 := fun Q q => ho _ (hi _ (by
  show (match view δ2 y with | some di => _ | none => False)
  rw [vi]; dsimp only
  rw [hf]; dsimp only
  rw [hk]; dsimp only
  obtain ⟨j, h1, h2⟩ := Option.map_eq_some_iff.mp hset
  refine ⟨n, j, rfl, by rw [List.length_map]; exact h1, force_i ?_⟩
  rw [← List.map_set, h2, hd]; exact q))
/-- d[n] = v -/
theorem evg_setD {n : Int} {v : α} {k : Nat} {y : Sl} (ho : Ev to δ (.al k) δ1) (hi : Ev ti δ1 y δ2) (vi : view δ2 y = some (.int n)) (hf : fzR s δ2 = some (e v, δ3)) (hk : δ3[k]? = some (some (.md (dKs d) (dVs e d)))) (hset : oPut d n v = some d')
    (hd : δ3.set k (some (.md (dKs d') (dVs e d'))) = δ4) : EvG (dSub to ti) s δ δ4 := fun Q q => ho _ (hi _ (by
  show (match view δ2 y with | some di => _ | none => False)
  rw [vi]; dsimp only
  rw [hf]; dsimp only
  rw [hk]; dsimp only
  unfold oPut at hset
  split at hset
  · rename_i hl
    cases hset
    refine ⟨kI n, rfl, by rw [zip_dic, List.length_map]; exact hl, force_i ?_⟩
    rw [zip_dic, put_dic, ks_map, vs_map, hd]; exact q
  · cases hset))
/-! ### dict comprehensions -/
/-- one turn -/
def DompOk (g : DG) (tt : DTB) (tk tv : DT) (vs : List Nat) (δ : DS) (d : Dv) (o : Option (Int × Dv)) : Prop :=
  ∃ δ3 b δ4, EvG g (.fz d) (wipeD δ vs) δ3 ∧ EvT tt δ3 b δ4 ∧ (b = false → o = none ∧ backD δ4 δ vs = δ) ∧ (b = true → ∃ s δ5 n u δ6 x δ7, Ev tk δ4 s δ5 ∧ view δ5 s = some (.int n) ∧ Ev tv δ5 u δ6 ∧ fzR u δ6 = some (x, δ7) ∧ backD δ7 δ vs = δ ∧ o = some (n, x))
theorem tMerge_snoc (d ps : List (Int × α)) (p : Int × α) : tMerge d (ps ++ [p]) = tPut (tMerge d ps) p.1 p.2 := by
  unfold tMerge; rw [List.foldl_append]; rfl
theorem tPut_len (d : List (Int × α)) (k : Int) (x : α) : (tPut d k x).length ≤ d.length + 1 := by
  unfold tPut; split
  · rw [List.length_map]; omega
  · simp
theorem tMerge_len (ps : List (Int × α)) : ∀ d : List (Int × α), (tMerge d ps).length ≤ d.length + ps.length := by
  induction ps with
  | nil => intro d; exact Nat.le_refl _
  | cons p ps ih =>
    intro d
    have h1 := ih (tPut d p.1 p.2)
    have h2 := tPut_len d p.1 p.2
    show (tMerge (tPut d p.1 p.2) ps).length ≤ _
    rw [List.length_cons]; omega
theorem ev_dcomp {wi : DTI} {g : DG} {tt : DTB} {vs : List Nat} {items : List γ} {ei : γ → Dv} {F : γ → Option (Option (Int × α))} {ps : List (Int × α)}
    (hi : EvI wi δ (items.map ei) δ1) (hpl : plainAt δ1 vs) (hres : oComp items F = some ps) (hb : ∀ x o, x ∈ items → F x = some o → DompOk g tt tk tv vs δ1 (ei x) (o.map fun p => (p.1, e p.2))) :
    Ev (dDC wi g tt tk tv vs) δ (.md (dKs (tMerge [] ps)) (dVs e (tMerge [] ps))) δ1 := fun Q q => hi _ (by
  unfold oComp at hres
  split at hres
  · rename_i hl
    unfold DcB
    refine ⟨hpl, fun i acc δ2 => δ2 = δ1 ∧ i ≤ items.length ∧ ∃ ys, oCompN (items.take i) F = some ys ∧ acc = (tMerge [] ys).map fun p => (kI p.1, e p.2), ⟨rfl, Nat.zero_le _, [], rfl, rfl⟩, ?_, ?_⟩
    · rintro i d acc δ2 hd ⟨rfl, hle, ys, hy, rfl⟩
      rw [List.getElem?_map] at hd
      obtain ⟨x, hx, rfl⟩ := Option.map_eq_some_iff.mp hd
      have hlt := (List.getElem?_eq_some_iff.mp hx).1
      obtain ⟨o, ys1, g1, g2, g3⟩ := compN_split hres i x hx
      rw [hy] at g2; cases g2
      obtain ⟨δ3, b, δ4, c1, c2, c3, c4⟩ := hb x o (List.mem_of_getElem? hx) g1
      refine ⟨hpl, c1 _ (c2 _ ?_)⟩
      cases b with
      | false =>
        obtain ⟨ho, hd2⟩ := c3 rfl
        have ho : o = none := by cases o with | none => rfl | some y => cases ho
        subst ho
        exact ⟨hd2, hlt, ys, by simpa using g3, rfl⟩
      | true =>
        obtain ⟨s, δ5, n, u, δ6, y, δ7, d1, d2, d3, d4, d5, d6⟩ := c4 rfl
        refine d1 _ ?_
        dsimp only
        rw [d2]
        refine ⟨kI n, rfl, d3 _ ?_⟩
        rw [d4]
        cases o with
        | none => cases d6
        | some z =>
          have hz : (z.1, e z.2) = (n, y) := Option.some.inj d6
          have hz1 : z.1 = n := congrArg Prod.fst hz
          have hz2 : e z.2 = y := congrArg Prod.snd hz
          have hyl := oCompN_len hy
          rw [List.length_take] at hyl
          have hml := tMerge_len ys []
          rw [List.length_nil] at hml
          refine ⟨by rw [List.length_map]; omega, d5, hlt, ys ++ [z], by simpa using g3, ?_⟩
          rw [tMerge_snoc, ← put_dic, hz1, hz2]
    · rintro acc δ2 ⟨rfl, _, ys, hy, rfl⟩
      rw [List.length_map, List.take_length, hres] at hy
      cases hy
      rw [ks_map, vs_map]
      exact q
  · cases hres)
/-! ### two clauses -/
def oComp2 (xs : List α) (F : α → Option (List β)) : Option (List β) := (oComp xs fun x => (F x).map some).bind fun yss => if yss.flatten.length ≤ sizeLine then some yss.flatten else none
/-- the clause within, the state as before -/
def Inner (wi1 : DTI) (g1 : DG) (tt1 : DTB) (te : DT) (vs vs1 : List Nat) (δ δ4 : DS) (ys : List Dv) : Prop :=
  ∃ (items1 : List Dv) (os : List (Option Dv)) (δ5 : DS), EvI wi1 δ4 items1 δ5 ∧ backD δ5 δ vs = δ ∧ plainAt δ5 vs1 ∧ os.length = items1.length ∧ ys = os.filterMap id ∧ ∀ (j : Nat) (d : Dv), items1[j]? = some d → ∃ o : Option Dv, os[j]? = some o ∧ CompOk g1 tt1 te vs1 δ5 d o
theorem compN_os {F : α → Option (Option β)} : ∀ {xs : List α} {ys : List β}, oCompN xs F = some ys → ∃ os : List (Option β), os.length = xs.length ∧ ys = os.filterMap id ∧ ∀ (j : Nat) (x : α), xs[j]? = some x → ∃ o, os[j]? = some o ∧ F x = some o
  | [], ys, h => by cases h; exact ⟨[], rfl, rfl, fun j x e => by simp at e⟩
  | x :: xs, ys, h => by
    obtain ⟨o, h1, h2⟩ := bnd h
    obtain ⟨zs, h3, h4⟩ := bnd h2
    obtain ⟨os, g1, g2, g3⟩ := compN_os h3
    cases h4
    refine ⟨o :: os, by simp [g1], ?_, fun j y e => ?_⟩
    · cases o <;> simp [g2]
    · cases j with
      | zero => cases e; exact ⟨o, rfl, h1⟩
      | succ j => exact g3 j y (by simpa using e)
theorem Inner.mk {wi1 : DTI} {g1 : DG} {tt1 : DTB} {te : DT} {vs vs1 : List Nat} {δ5 : DS} {items1 : List γ} {e1 : γ → Dv} {F : γ → Option (Option β)} {ys : List β} (hi : EvI wi1 δ4 (items1.map e1) δ5) (hbk : backD δ5 δ vs = δ) (hpl : plainAt δ5 vs1) (hres : oComp items1 F = some ys)
    (hb : ∀ x o, x ∈ items1 → F x = some o → CompOk g1 tt1 te vs1 δ5 (e1 x) (o.map f)) : Inner wi1 g1 tt1 te vs vs1 δ δ4 (ys.map f) := by
  unfold oComp at hres
  split at hres
  · obtain ⟨os, h1, h2, h3⟩ := compN_os hres
    refine ⟨_, os.map (Option.map f), δ5, hi, hbk, hpl, by simp [h1], ?_, fun j d hd => ?_⟩
    · subst h2
      have key : ∀ os : List (Option β), (os.filterMap id).map f = (os.map (Option.map f)).filterMap id := by
        intro os
        induction os with
        | nil => rfl
        | cons o os ih => cases o <;> simp [ih]
      exact key os
    · rw [List.getElem?_map] at hd
      obtain ⟨x, hx, rfl⟩ := Option.map_eq_some_iff.mp hd
      obtain ⟨o, k1, k2⟩ := h3 j x hx
      exact ⟨o.map f, by rw [List.getElem?_map, k1]; rfl, hb x o (List.mem_of_getElem? hx) k2⟩
  · cases hres
def Comp2Ok (g : DG) (tt : DTB) (wi1 : DTI) (g1 : DG) (tt1 : DTB) (te : DT) (vs vs1 : List Nat) (δ : DS) (d : Dv) (ys : List Dv) : Prop :=
  ∃ δ3 b δ4, EvG g (.fz d) (wipeD δ vs) δ3 ∧ EvT tt δ3 b δ4 ∧ (b = false → ys = [] ∧ backD δ4 δ vs = δ) ∧ (b = true → Inner wi1 g1 tt1 te vs vs1 δ δ4 ys)
theorem ev_comp2 {wi wi1 : DTI} {g g1 : DG} {tt tt1 : DTB} {te : DT} {vs vs1 : List Nat} {items : List α} {F : α → Option (List β)} {res : List β}
    (hi : EvI wi δ (items.map e) δ1) (hpl : plainAt δ1 vs) (hres : oComp2 items F = some res) (hb : ∀ x ys, x ∈ items → F x = some ys → Comp2Ok g tt wi1 g1 tt1 te vs vs1 δ1 (e x) (ys.map f)) :
    Ev (dLC2 wi g tt wi1 g1 tt1 te vs vs1) δ (.ml (res.map f)) δ1 := fun Q q => hi _ (by
  obtain ⟨yss, hc, hr⟩ := bnd hres
  split at hr
  · rename_i hsz
    cases hr
    unfold oComp at hc
    split at hc
    · rename_i hl
      unfold LcB2
      refine ⟨hpl, fun i acc δ2 => δ2 = δ1 ∧ i ≤ items.length ∧ ∃ zs, oCompN (items.take i) (fun x => (F x).map some) = some zs ∧ acc = zs.flatten.map f, ⟨rfl, Nat.zero_le _, [], rfl, rfl⟩, ?_, ?_⟩
      · rintro i d acc δ2 hd ⟨rfl, hle, zs, hz, rfl⟩
        rw [List.getElem?_map] at hd
        obtain ⟨x, hx, rfl⟩ := Option.map_eq_some_iff.mp hd
        have hlt := (List.getElem?_eq_some_iff.mp hx).1
        obtain ⟨o, ys1, g1', g2, g3⟩ := compN_split hc i x hx
        rw [hz] at g2; cases g2
        obtain ⟨ys, hF, rfl⟩ := Option.map_eq_some_iff.mp g1'
        -- what stands so far is a part of the whole
        have hpre : (zs.flatten ++ ys).length ≤ yss.flatten.length := by
          have h3 : ∀ {xs : List α} {a : List (List β)} {n : Nat} {b : List (List β)}, oCompN xs (fun x => (F x).map some) = some a → oCompN (xs.take n) (fun x => (F x).map some) = some b → b.flatten.length ≤ a.flatten.length := by
            intro xs
            induction xs with
            | nil => intro a n b h1 h2; rw [List.take_nil] at h2; rw [h1] at h2; cases h2; exact Nat.le_refl _
            | cons x xs ih =>
              intro a n b h1 h2
              cases n with
              | zero => rw [List.take_zero] at h2; cases h2; exact Nat.zero_le _
              | succ n =>
                rw [List.take_succ_cons] at h2
                obtain ⟨o, k1, k2⟩ := bnd h1
                obtain ⟨a', k3, k4⟩ := bnd k2
                obtain ⟨o', l1, l2⟩ := bnd h2
                obtain ⟨b', l3, l4⟩ := bnd l2
                rw [k1] at l1; cases l1
                cases k4; cases l4
                have := ih k3 l3
                simp only [List.flatten_append, List.length_append]
                omega
          have := h3 hc g3
          simpa using this
        obtain ⟨δ3, b, δ4, c1, c2, c3, c4⟩ := hb x ys (List.mem_of_getElem? hx) hF
        refine ⟨hpl, c1 _ (c2 _ ?_)⟩
        cases b with
        | false =>
          obtain ⟨ho, hd2⟩ := c3 rfl
          have ho : ys = [] := by cases ys with | nil => rfl | cons y ys => cases ho
          subst ho
          exact ⟨hd2, hlt, zs ++ [[]], by simpa using g3, by simp⟩
        | true =>
          obtain ⟨items1, os, δ5, e1, e2, e3, e4, e5, e6⟩ := c4 rfl
          refine e1 _ ⟨fun j acc1 δ6 => δ6 = δ5 ∧ j ≤ items1.length ∧ acc1 = zs.flatten.map f ++ (os.take j).filterMap id, ⟨rfl, Nat.zero_le _, by simp⟩, ?_, ?_⟩
          · rintro j d1 acc1 δ6 hd1 ⟨rfl, hj, rfl⟩
            have hlt1 := (List.getElem?_eq_some_iff.mp hd1).1
            obtain ⟨o, ko, δ7, b1, δ8, m1, m2, m3, m4⟩ := e6 j d1 hd1
            have htk : os.take (j + 1) = os.take j ++ [o] := by
              rw [List.take_succ, ko]; rfl
            refine ⟨e3, m1 _ (m2 _ ?_)⟩
            cases b1 with
            | false =>
              obtain ⟨rfl, n2⟩ := m3 rfl
              refine ⟨n2, hlt1, ?_⟩
              rw [htk, List.filterMap_append]; simp
            | true =>
              obtain ⟨s, δ9, y, δ10, n1, n2, n3, n4⟩ := m4 rfl
              subst n4
              refine n1 _ ?_
              dsimp only
              rw [n2]
              have hlen : ((os.take (j + 1)).filterMap id).length ≤ (os.filterMap id).length := by
                conv => rhs; rw [← List.take_append_drop (j + 1) os, List.filterMap_append, List.length_append]
                omega
              rw [htk, List.filterMap_append] at hlen
              have hyl : ys.length = (os.filterMap id).length := by rw [← e5, List.length_map]
              simp only [List.length_append, List.filterMap_cons, id, List.filterMap_nil, List.length_cons, List.length_nil] at hlen hpre
              refine ⟨?_, n3, hlt1, ?_⟩
              · rw [List.length_append, List.length_map]; omega
              · rw [htk, List.filterMap_append, ← List.append_assoc]; rfl
          · rintro acc1 δ6 ⟨rfl, _, rfl⟩
            refine ⟨e2, hlt, zs ++ [ys], by simpa using g3, ?_⟩
            rw [← e4, List.take_length, ← e5]; simp
      · rintro acc δ2 ⟨rfl, _, zs, hz, rfl⟩
        rw [List.length_map, List.take_length, hc] at hz
        cases hz
        exact q
    · cases hc
  · cases hr)
/-! ### index, count -/
def oIdx [DecidableEq α] (xs : List α) (x : α) : Option Int := (xs.idxOf? x).map fun (j : Nat) => (j : Int)
theorem idxD_map [DecidableEq α] {n : Nat} (he : EqE n e) (x : α) : ∀ xs : List α, idxD (e x) (xs.map e) = xs.idxOf? x
  | [] => rfl
  | y :: ys => by
    rw [List.map_cons, idxD, idxD_map he x ys, he.dec, List.idxOf?_cons]
    by_cases h : y = x
    · simp [h]
    · simp [h]
theorem ev_index [DecidableEq α] {xs : List α} {j : Int} {y : Sl} (he : EqE 59 e) (h59 : EqE 60 e) (ho : Ev to δ s δ1) (hv : view δ1 s = some (.lst (xs.map e)) ∧ view δ2 s = some (.lst (xs.map e)) ∨ view δ1 s = some (.tup (xs.map e)) ∧ view δ2 s = some (.tup (xs.map e))) (ha : Ev ta δ1 y δ2) (vy : view δ2 y = some (e x)) (h : oIdx xs x = some j) :
    Ev (dMq indexL indexT to (dCons ta dNil)) δ (.fz (.int j)) δ2 := fun Q q => ho _ (by
  obtain ⟨i, h1, rfl⟩ := Option.map_eq_some_iff.mp h
  have ok : eqOks 59 (xs.map e) = true := eqOks_map he xs
  rcases hv with ⟨v1, v2⟩ | ⟨v1, v2⟩
  · rw [v1]; dsimp only
    refine ha _ ?_
    show (match view δ2 y, view δ2 s with | some dx, some (.lst ds) => _ | _, _ => False)
    rw [vy, v2]
    exact ⟨h59.ok x, by simpa [eqOk] using ok, i, by rw [idxD_map he, h1], q⟩
  · rw [v1]; dsimp only
    refine ha _ ?_
    show (match view δ2 y, view δ2 s with | some dx, some (.tup ds) => _ | _, _ => False)
    rw [vy, v2]
    exact ⟨h59.ok x, by simpa [eqOk] using ok, i, by rw [idxD_map he, h1], q⟩)
theorem countD_map [DecidableEq α] {n : Nat} (he : EqE n e) (x : α) (xs : List α) : countD (e x) (xs.map e) = xs.count x := by
  unfold countD
  rw [List.countP_map, List.count]
  refine List.countP_congr fun y _ => ?_
  show eqB (e y) (e x) = true ↔ (y == x) = true
  rw [he.dec]; simp
theorem ev_count [DecidableEq α] {xs : List α} {y : Sl} (he : EqE 59 e) (h59 : EqE 60 e) (ho : Ev to δ s δ1) (hv : view δ1 s = some (.lst (xs.map e)) ∧ view δ2 s = some (.lst (xs.map e)) ∨ view δ1 s = some (.tup (xs.map e)) ∧ view δ2 s = some (.tup (xs.map e))) (ha : Ev ta δ1 y δ2) (vy : view δ2 y = some (e x)) :
    Ev (dMq countL countT to (dCons ta dNil)) δ (.fz (.int (xs.count x : Nat))) δ2 := fun Q q => ho _ (by
  have ok : eqOks 59 (xs.map e) = true := eqOks_map he xs
  rcases hv with ⟨v1, v2⟩ | ⟨v1, v2⟩
  · rw [v1]; dsimp only
    refine ha _ ?_
    show (match view δ2 y, view δ2 s with | some dx, some (.lst ds) => _ | _, _ => False)
    rw [vy, v2]
    exact ⟨h59.ok x, by simpa [eqOk] using ok, by rw [countD_map he]; exact q⟩
  · rw [v1]; dsimp only
    refine ha _ ?_
    show (match view δ2 y, view δ2 s with | some dx, some (.tup ds) => _ | _, _ => False)
    rw [vy, v2]
    exact ⟨h59.ok x, by simpa [eqOk] using ok, by rw [countD_map he]; exact q⟩)
def oRepT (xs : List α) (n : Int) : Option (List α) := if xs.isEmpty = false ∧ 2 ≤ n ∧ n ≤ 1000 ∧ xs.length ≤ 1000 then some (List.replicate n.toNat xs).flatten else none
theorem f_repT {n : Int} {xs zs : List α} (h : oRepT xs n = some zs) (k : W (.fz (.tup (zs.map e)))) : mulF (.tup (xs.map e)) (.int n) W := by
  unfold oRepT at h; split at h
  · rename_i q; cases h
    refine ⟨⟨fun z => ?_, q.2.1, q.2.2.1, by rw [List.length_map]; exact q.2.2.2⟩, ?_⟩
    · have := q.1
      cases xs with
      | nil => cases this
      | cons x xs => cases z
    · rw [List.map_flatten, List.map_replicate] at k; exact k
  · cases h
def oLenSet (ns : List Int) : Option Int := if ns.length ≤ 4000 then some ((dd ns).length : Nat) else none
theorem ev_lenSetL {ns : List Int} {j : Int} (h : Ev t δ s δ1) (v : view δ1 s = some (.lst (ns.map eI))) (e : oLenSet ns = some j) : Ev (dLenSet t) δ (.fz (.int j)) δ1 := fun Q q => h _ (by
  unfold oLenSet at e; split at e
  · rename_i hl; cases e
    rw [v]; dsimp only; rw [asInts_map]; exact ⟨hl, q⟩
  · cases e)
theorem ev_lenSetT {ns : List Int} {j : Int} (h : Ev t δ s δ1) (v : view δ1 s = some (.tup (ns.map eI))) (e : oLenSet ns = some j) : Ev (dLenSet t) δ (.fz (.int j)) δ1 := fun Q q => h _ (by
  unfold oLenSet at e; split at e
  · rename_i hl; cases e
    rw [v]; dsimp only; rw [asInts_map]; exact ⟨hl, q⟩
  · cases e)
theorem f_isiC {d : Dv} {t T : String} {b : Bool} (ht : tyName d = some t) (hT : T ∈ ["int", "bool", "str", "tuple", "list", "dict"]) (hb : isA t T = b) (w : W (.fz (.bl b))) : isiF [d, .ty T] W := f_isi ht hT (by rw [hb]; exact w)
def oIsi (d : Dv) (T : String) : Option Bool := (tyName d).map fun t => isA t T
theorem f_isiA {d : Dv} {T : String} {b : Bool} (h : oIsi d T = some b) (hT : T ∈ ["int", "bool", "str", "tuple", "list", "dict"]) (w : W (.fz (.bl b))) : isiF [d, .ty T] W := by
  obtain ⟨t, h1, h2⟩ := Option.map_eq_some_iff.mp h
  exact f_isiC h1 hT h2 w
/-! data of unknown kind -/
def uI : Dv → Option Int
  | .int i => some i
  | _ => none
def uB : Dv → Option Bool
  | .bl b => some b
  | _ => none
def uT : Dv → Option (List Dv)
  | .tup ds => some ds
  | _ => none
def uL : Dv → Option (List Dv)
  | .lst ds => some ds
  | _ => none
theorem un_int {d : Dv} {i : Int} (h : uI d = some i) : d = eI i := by cases d <;> first | (cases h; rfl) | cases h
theorem un_bl {d : Dv} {i : Bool} (h : uB d = some i) : d = eB i := by cases d <;> first | (cases h; rfl) | cases h
theorem un_tup {d : Dv} {ds : List Dv} (h : uT d = some ds) : d = eT eA ds := by cases d <;> first | (cases h; simp [eT, eA]) | cases h
theorem un_lst {d : Dv} {ds : List Dv} (h : uL d = some ds) : d = eL eA ds := by cases d <;> first | (cases h; simp [eL, eA]) | cases h
def oLenA : Dv → Option Int
  | .tup ds => some ds.length
  | .lst ds => some ds.length
  | _ => none
theorem f_lenA {d : Dv} {n : Int} (h : oLenA d = some n) (w : W (.fz (.int n))) : lenF [d] W := by
  cases d <;> first | (cases h; exact w) | cases h
/-! sorted, remove, extend, get, pop -/
theorem f_sortI {ns : List Int} (w : W (.ml ((srt leI ns).map eI))) : sortedF [.lst (ns.map eI)] W := by
  show (match asInts (ns.map Dv.int) with | some ns => W (.ml ((srt leI ns).map .int)) | none => _)
  rw [asInts_map]; exact w
theorem f_sortP {ps : List (Int × Int)} (w : W (.ml ((srt leP ps).map (eP eI eI)))) : sortedF [.lst (ps.map (eP eI eI))] W := by
  cases ps with
  | nil => exact w
  | cons p ps =>
    show (match asPairs (pD p :: ps.map pD) with | some ps => W (.ml ((srt leP ps).map pD)) | none => False)
    have := asPairs_map (p :: ps)
    rw [List.map_cons] at this
    rw [this]; exact w
def oErase (ns : List Int) (i : Int) : Option (List Int) := if i ∈ ns then some (ns.erase i) else none
theorem ev_remove {ns ms : List Int} {k : Nat} {y : Sl} {j : Int} (ho : Ev to δ (.al k) δ1) (hl : isL δ1 (.al k)) (ha : Ev ta δ1 y δ2) (vy : view δ2 y = some (.int j)) (hk : δ2[k]? = some (some (.ml (ns.map eI)))) (h : oErase ns j = some ms) (hd : δ2.set k (some (.ml (ms.map eI))) = δ3) : Ev (dMt removeM to (dCons ta dNil)) δ (.fz .non) δ3 := fun Q q =>
  ho _ ⟨hl, ha _ (by
    show (match view δ2 y, δ2[k]? with | some (.int i), some (some (.ml ds)) => _ | _, _ => False)
    rw [vy, hk]
    dsimp only
    rw [asInts_map]
    unfold oErase at h; split at h
    · cases h; exact ⟨by assumption, force_i (hd ▸ q)⟩
    · cases h)⟩
theorem ev_extend {xs ys zs : List α} {k : Nat} {y : Sl} (ho : Ev to δ (.al k) δ1) (hl : isL δ1 (.al k)) (ha : Ev ta δ1 y δ2) (vy : view δ2 y = some (.lst (ys.map e))) (hk : δ2[k]? = some (some (.ml (xs.map e)))) (h : oCat xs ys = some zs) (hd : δ2.set k (some (.ml (zs.map e))) = δ3) : Ev (dMt extendM to (dCons ta dNil)) δ (.fz .non) δ3 := fun Q q =>
  ho _ ⟨hl, ha _ (by
    show (match view δ2 y, δ2[k]? with | some (.lst es), some (some (.ml ds)) => _ | _, _ => False)
    rw [vy, hk]
    obtain ⟨h1, rfl⟩ := oCat_some h
    rw [List.map_append] at hd
    exact ⟨by rw [List.length_map, List.length_map]; exact h1, force_i (hd ▸ q)⟩)⟩
theorem val_dic (e : α → Dv) (d : List (Int × α)) (k : Int) : valA (d.map fun p => (kI p.1, e p.2)) (kI k) = (tGet d k).map e := by
  unfold tGet
  induction d with
  | nil => rfl
  | cons p d ih =>
    rw [lk_cons, List.map_cons]
    by_cases h : p.1 = k
    · rw [if_pos h]
      have : kI p.1 = kI k := kI_eq.mpr h
      simp [valA, List.find?_cons, this]
    · rw [if_neg h, ← ih]
      have : ¬ kI p.1 = kI k := fun z => h (kI_eq.mp z)
      simp [valA, List.find?_cons, this]
theorem drop_dic (e : α → Dv) (d : List (Int × α)) (k : Int) : dropA (d.map fun p => (kI p.1, e p.2)) (kI k) = (tDrop d k).map fun p => (kI p.1, e p.2) := by
  unfold dropA tDrop
  rw [List.filter_map]
  congr 1
  refine List.filter_congr fun p _ => ?_
  simp only [Function.comp]
  by_cases h : p.1 = k
  · simp [h]
  · have : ¬ kI p.1 = kI k := fun z => h (kI_eq.mp z)
    simp [h, this]
theorem ev_get2 {y z : Sl} {zv : α} (ho : Ev to δ s δ1) (hdc : isDc δ1 s) (hi : Ev ti δ1 y δ2) (hz : Ev ta δ2 z δ3) (vs : view δ3 s = some (.dic (dKs d) (dVs e d))) (vy : view δ3 y = some (.int k)) (hf : fzR z δ3 = some (e zv, δ3)) : Ev (dGet2 to ti ta) δ (.fz (e ((tGet d k).getD zv))) δ3 := fun Q q =>
  ho _ ⟨hdc, hi _ (hz _ (by
    show (match view δ3 s, view δ3 y with | some (.dic ks ds), some dy => _ | _, _ => False)
    rw [vs, vy]
    refine ⟨kI k, rfl, ?_⟩
    rw [zip_dic, val_dic]
    cases h : tGet d k with
    | none => rw [h] at q; dsimp only [Option.map_none]; rw [hf]; exact q
    | some x => rw [h] at q; exact q))⟩
def oDPop (d : List (Int × α)) (k : Int) : Option (α × List (Int × α)) := (tGet d k).map fun v => (v, tDrop d k)
theorem ev_dpop {y : Sl} {i : Nat} (ho : Ev to δ (.al i) δ1) (hdc : isDc δ1 (.al i)) (hi : Ev ti δ1 y δ2) (vy : view δ2 y = some (.int k)) (hk : δ2[i]? = some (some (.md (dKs d) (dVs e d)))) (h : oDPop d k = some (x, d')) (hd : δ2.set i (some (.md (dKs d') (dVs e d'))) = δ3) : Ev (dPop1 to ti) δ (.fz (e x)) δ3 := fun Q q =>
  ho _ ⟨hdc, hi _ (by
    show (match Sl.al i, view δ2 y with | .al k, some dy => (match δ2[k]? with | some (some (.md ks ds)) => _ | _ => False) | _, _ => False)
    rw [vy]
    dsimp only
    rw [hk]
    obtain ⟨v, h1, h2⟩ := Option.map_eq_some_iff.mp h
    cases h2
    refine ⟨kI k, e x, rfl, by rw [zip_dic, val_dic, h1]; rfl, force_i ?_⟩
    rw [zip_dic, drop_dic, ks_map, vs_map, hd]; exact q)⟩
theorem zip3D_map {g : γ → Dv} (xs : List α) (ys : List β) (zs : List γ) : zip3D (xs.map e) (ys.map f) (zs.map g) = (xs.zip (ys.zip zs)).map (eP3 e f g) := by
  unfold zip3D; rw [List.zip_map, List.zip_map, List.map_map]; rfl
theorem ei_zip3 {g : γ → Dv} {xs : List α} {ys : List β} {zs : List γ} {s2 s3 : Sl} {δ5 δ6 : DS} (h : Ev ta δ s δ1) (h2 : Ev tb δ1 s2 δ2) (h3 : Ev to δ2 s3 δ3) (hf : frzSeq s δ3 = some (xs.map e, δ4)) (hf2 : frzSeq s2 δ4 = some (ys.map f, δ5)) (hf3 : frzSeq s3 δ5 = some (zs.map g, δ6)) :
    EvI (dZip3 (dCons ta (dCons tb (dCons to dNil)))) δ ((xs.zip (ys.zip zs)).map (eP3 e f g)) δ6 := fun Q q => h _ (h2 _ (h3 _ (by
  show (match frzSeq s δ3 with | some (ds, δ2) => (match frzSeq s2 δ2 with | some (es, δ3) => (match frzSeq s3 δ3 with | some (fs, δ4) => Q (zip3D ds es fs) δ4 | none => False) | none => False) | none => False)
  rw [hf]; dsimp only; rw [hf2]; dsimp only; rw [hf3]; show Q (zip3D _ _ _) δ6; rw [zip3D_map]; exact q)))
theorem run_frzL {i : Nat} {t : DTS} {P : FP} {d : Dv} (hf : fzR (.al i) δ = some (d, δ1)) (hk : ∀ d', δ[i]? ≠ some (some (.fz d'))) (h : Run t δ1 P) : Run (dFrz i t) δ P := fun E hE => by
  unfold dFrz
  simp only [fzR] at hf
  split at hf
  · rename_i d' e; exact absurd e (hk d')
  · rename_i ds e; cases hf; rw [e]; exact h E hE
  · rename_i ks ds e; cases hf; rw [e]; exact h E hE
  · cases hf
theorem run_frzS {i : Nat} {t u : DTS} {P : FP} {d : Dv} (hf : fzR (.al i) δ = some (d, δ1)) (hk : ∀ d', δ[i]? ≠ some (some (.fz d'))) (h : Run (dSeq t u) δ1 P) : Run (dSeq (dFrz i t) u) δ P := fun ⟨e1, e2, e3, e4⟩ hE => by
  have h := h ⟨e1, e2, e3, e4⟩ hE
  show dFrz i t _ δ
  unfold dFrz
  simp only [fzR] at hf
  split at hf
  · rename_i d' e; exact absurd e (hk d')
  · rename_i ds e; cases hf; rw [e]; exact h
  · rename_i ks ds e; cases hf; rw [e]; exact h
  · cases hf
theorem ev_ifEV {A B : Option α} {v : α} {b : Bool} {t : DTB} {e1 e2 : α → Sl} (h : EvT t δ b δ1) (hv : (if b = true then A else B) = some v) (ha : b = true → A = some v → Ev ta δ1 (e1 v) δ2) (hb : b = false → B = some v → Ev tb δ1 (e2 v) δ2) : Ev (dIfE t ta tb) δ (if b = true then e1 v else e2 v) δ2 := fun Q q => h _ (by
  cases b with
  | true => exact ha rfl hv _ q
  | false => exact hb rfl hv _ q)
theorem view_ite {b : Bool} {s1 s2 : Sl} {dd : Dv} (h1 : view δ s1 = some dd) (h2 : view δ s2 = some dd) : view δ (if b = true then s1 else s2) = some dd := by
  cases b
  · exact h2
  · exact h1
end
end DL

set_option Elab.async false
set_option linter.all false
set_option maxRecDepth 100000
set_option maxHeartbeats 4000000
/-! EVK: proving what the typed functions give. -/
namespace DL
open PySem L2
/-- it gives something, and that is so -/
def Ok {α : Type} (o : Option α) (Q : α → Prop) : Prop := ∃ a, o = some a ∧ Q a
section
variable {α β γ σ ρ τ : Type} {Q : α → Prop} {R : β → Prop} {d : Deal}
theorem Ok.imp {o : Option α} {Q' : α → Prop} (h : Ok o Q) (k : ∀ a, Q a → Q' a) : Ok o Q' := let ⟨a, e, q⟩ := h; ⟨a, e, k a q⟩
theorem ok_some {a : α} (h : Q a) : Ok (some a) Q := ⟨a, rfl, h⟩
theorem ok_bind {o : Option α} {f : α → Option β} (h : Ok o fun a => Ok (f a) R) : Ok (o.bind f) R := by
  obtain ⟨a, rfl, b, e, r⟩ := h
  exact ⟨b, e, r⟩
theorem ok_of {o : Option α} {a : α} (h : o = some a) (q : Q a) : Ok o Q := ⟨a, h, q⟩
theorem ok_is {o : Option α} {a : α} (h : Ok o fun b => b = a) : o = some a := by obtain ⟨b, e, rfl⟩ := h; exact e
theorem ok_if {b : Bool} {x y : Option α} (h1 : b = true → Ok x Q) (h0 : b = false → Ok y Q) : Ok (if b = true then x else y) Q := by
  cases b with
  | true => exact h1 rfl
  | false => exact h0 rfl
theorem ok_ift {b : Bool} {x y : Option α} (hb : b = true) (h : Ok x Q) : Ok (if b = true then x else y) Q := by rw [if_pos hb]; exact h
theorem ok_iff {b : Bool} {x y : Option α} (hb : b = false) (h : Ok y Q) : Ok (if b = true then x else y) Q := by subst hb; exact h
/-! draws -/
theorem ok_any {b : Int} {Q : Int × Deal → Prop} (h0 : 0 < b) (h1 : b < 1000000000) (k : ∀ v d', 0 ≤ v → v < b → Q (v, d')) : Ok (oAny d b) Q := by
  obtain ⟨v, d', e, v0, v1⟩ := oAny_ok d h0 h1
  exact ⟨_, e, k v d' v0 v1⟩
theorem ok_oneof {xs : List α} {Q : α × Deal → Prop} (h0 : xs ≠ []) (h1 : xs.length < 1000000000) (k : ∀ x d', x ∈ xs → Q (x, d')) : Ok (oOf d xs) Q := by
  have hp := List.length_pos_iff.mpr h0
  obtain ⟨v, d', e, v0, v1⟩ := oAny_ok d (bound := (xs.length : Int)) (by omega) (by omega)
  obtain ⟨x, hx, ex⟩ := atI_of v0 v1
  exact ⟨(x, d'), by unfold oOf; rw [e]; show Option.map _ (atI xs v) = _; rw [ex]; rfl, k x d' hx⟩
theorem oMixN_ok : ∀ (n : Nat) (d : Deal) (xs ys : List α), xs.length ≤ n → n < 1000000000 → ∃ zs d', oMixN n d xs ys = some (zs, d') ∧ zs.Perm (ys ++ xs)
  | 0, d, [], ys, _, _ => ⟨ys, d, rfl, by simp⟩
  | n + 1, d, [], ys, _, _ => ⟨ys, d, rfl, by simp⟩
  | 0, d, x :: xs, ys, h, _ => by simp at h
  | n + 1, d, x :: xs, ys, h, hn => by
    obtain ⟨v, d', e, v0, v1⟩ := oAny_ok d (bound := ((x :: xs).length : Int)) (by rw [List.length_cons]; omega) (by rw [List.length_cons] at h ⊢; omega)
    have hv : v.toNat < (x :: xs).length := by omega
    obtain ⟨zs, d2, e2, p⟩ := oMixN_ok n d' ((x :: xs).eraseIdx v.toNat) (ys ++ [(x :: xs)[v.toNat]]) (by rw [List.length_eraseIdx_of_lt hv]; simp at h ⊢; omega) (by omega)
    refine ⟨zs, d2, ?_, ?_⟩
    · show ((oAny d (x :: xs).length).bind fun r => ((x :: xs)[r.1.toNat]?).bind fun y => oMixN n r.2 ((x :: xs).eraseIdx r.1.toNat) (ys ++ [y])) = _
      rw [e]
      show (((x :: xs)[v.toNat]?).bind fun y => oMixN n d' ((x :: xs).eraseIdx v.toNat) (ys ++ [y])) = _
      rw [List.getElem?_eq_getElem hv]
      exact e2
    · refine p.trans ?_
      rw [List.append_assoc]
      exact List.Perm.append_left _ (erase_perm (x :: xs) v.toNat hv)
theorem ok_mixed {xs : List α} {Q : List α × Deal → Prop} (h : xs.length ≤ 100000) (k : ∀ ys d', ys.Perm xs → Q (ys, d')) : Ok (oMixed d xs) Q := by
  obtain ⟨zs, d', e, p⟩ := oMixN_ok xs.length d xs [] (Nat.le_refl _) (by omega)
  exact ⟨_, by unfold oMixed; rw [if_pos h]; exact e, k zs d' (by simpa using p)⟩
/-! lists -/
theorem ok_app {xs : List α} {x : α} {Q : List α → Prop} (h : xs.length ≤ 1000000) (k : Q (xs ++ [x])) : Ok (oApp xs x) Q := ⟨_, if_pos (szlt h), k⟩
theorem ok_cat {xs ys : List α} {Q : List α → Prop} (h : xs.length + ys.length ≤ 1000000) (k : Q (xs ++ ys)) : Ok (oCat xs ys) Q := ⟨_, if_pos (szl h), k⟩
theorem ok_rng {i j : Int} {Q : List Int → Prop} (h0 : -1000000000 ≤ i) (h1 : i ≤ 1000000000) (h2 : -1000000000 ≤ j) (h3 : j ≤ 1000000000) (k : Q (rngL i (j - i).toNat)) : Ok (oRng i j) Q :=
  ⟨_, if_pos (by unfold smB; simp; omega), k⟩
theorem ok_rgl {i j : Int} {Q : List Int → Prop} (h0 : -1000000 ≤ i) (h1 : i ≤ 1000000) (h2 : -1000000 ≤ j) (h3 : j ≤ 1000000) (k : Q (rngL i (j - i).toNat)) : Ok (oRgL i j) Q :=
  ⟨_, if_pos (by unfold smB; simp; omega), k⟩
theorem ok_mul {i j : Int} {Q : Int → Prop} (h : (-(2 ^ 64) < i ∧ i < 2 ^ 64) ∨ (-(2 ^ 64) < j ∧ j < 2 ^ 64)) (k : Q (i * j)) : Ok (oMul i j) Q := ⟨_, if_pos (.inl h), k⟩
theorem ok_div {i j : Int} {Q : Int → Prop} (h : 0 < j) (h2 : j < 1073741824) (k : Q (i / j)) : Ok (oDiv i j) Q := ⟨_, if_pos ⟨h, .inl (by omega)⟩, k⟩
theorem ok_mod {i j : Int} {Q : Int → Prop} (h : 0 < j) (k : Q (i % j)) : Ok (oMod i j) Q := ⟨_, if_pos h, k⟩
theorem oIx_nat {xs : List α} {i : Nat} {x : α} (h : xs[i]? = some x) : oIx xs (i : Int) = some x := atI_nat h
theorem ok_ix {xs : List α} {i : Int} {Q : α → Prop} (h0 : 0 ≤ i) (h1 : i < xs.length) (k : ∀ h : i.toNat < xs.length, Q xs[i.toNat]) : Ok (oIx xs i) Q := by
  have hv : i.toNat < xs.length := by omega
  refine ⟨xs[i.toNat], ?_, k hv⟩
  have := oIx_nat (List.getElem?_eq_getElem hv)
  rwa [Int.toNat_of_nonneg h0] at this
theorem ok_ixn {xs : List α} {i : Int} {n : Nat} {x : α} {Q : α → Prop} (e : i = (n : Int)) (h : xs[n]? = some x) (k : Q x) : Ok (oIx xs i) Q := ⟨x, by rw [e]; exact oIx_nat h, k⟩
theorem ok_last {xs : List α} {i : Int} {x : α} {Q : α → Prop} (e : i = -1) (h : xs.getLast? = some x) (k : Q x) : Ok (oIx xs i) Q := by
  obtain ⟨ys, rfl⟩ := List.getLast?_eq_some_iff.mp h
  exact ⟨x, by rw [e]; exact atI_last ys x, k⟩
theorem ok_opt {o : Option α} {a : α} {Q : α → Prop} (h : o = some a) (k : Q a) : Ok o Q := ⟨a, h, k⟩
theorem ok_pop {xs ys : List α} {x : α} {Q : α × List α → Prop} (h : xs = ys ++ [x]) (k : Q (x, ys)) : Ok (oPop xs) Q := ⟨_, by subst h; simp [oPop], k⟩
theorem ok_max {xs : List Int} {Q : Int → Prop} (h : xs ≠ []) (k : ∀ m, m ∈ xs → (∀ y ∈ xs, y ≤ m) → Q m) : Ok (oMax xs) Q := by
  unfold oMax
  cases q : xs.max? with
  | none => exact absurd (List.max?_eq_none_iff.mp q) h
  | some m => have := List.max?_eq_some_iff.mp q; exact ⟨m, rfl, k m this.1 this.2⟩
theorem ok_min {xs : List Int} {Q : Int → Prop} (h : xs ≠ []) (k : ∀ m, m ∈ xs → (∀ y ∈ xs, m ≤ y) → Q m) : Ok (oMin xs) Q := by
  unfold oMin
  cases q : xs.min? with
  | none => exact absurd (List.min?_eq_none_iff.mp q) h
  | some m => have := List.min?_eq_some_iff.mp q; exact ⟨m, rfl, k m this.1 this.2⟩
/-! loops -/
theorem ok_foldN {f : α → σ → Option σ} {Q : σ → Prop} (I : Nat → σ → Prop) : ∀ {xs : List α} (k : Nat) {s0 : σ}, I k s0 → (∀ i x s, xs[i]? = some x → I (k + i) s → Ok (f x s) (I (k + i + 1))) → (∀ s, I (k + xs.length) s → Q s) → Ok (oFold xs s0 f) Q
  | [], k, s0, h0, _, hq => ok_some (hq s0 h0)
  | x :: xs, k, s0, h0, hb, hq => ok_bind ((hb 0 x s0 rfl h0).imp fun s h => ok_foldN I (xs := xs) (k + 1) h (fun i x s e hi => by
      have := hb (i + 1) x s (by simpa using e) (by rwa [show k + (i + 1) = k + 1 + i by omega])
      rwa [show k + (i + 1) + 1 = k + 1 + i + 1 by omega] at this) fun s h => hq s (by rwa [List.length_cons, show k + (xs.length + 1) = k + 1 + xs.length by omega]))
/-- a loop by what holds ahead of turn i -/
theorem ok_fold {xs : List α} {f : α → σ → Option σ} {s0 : σ} {Q : σ → Prop} (I : Nat → σ → Prop) (h0 : I 0 s0) (hb : ∀ i x s, xs[i]? = some x → I i s → Ok (f x s) (I (i + 1))) (hq : ∀ s, I xs.length s → Q s) : Ok (oFold xs s0 f) Q :=
  ok_foldN I 0 h0 (fun i x s e h => by simpa using hb i x s e (by simpa using h)) fun s h => hq s (by simpa using h)
/-- a loop by what always holds -/
theorem ok_foldM {xs : List α} {f : α → σ → Option σ} {s0 : σ} {Q : σ → Prop} (I : σ → Prop) (h0 : I s0) (hb : ∀ x s, x ∈ xs → I s → Ok (f x s) I) (hq : ∀ s, I s → Q s) : Ok (oFold xs s0 f) Q :=
  ok_fold (fun _ => I) h0 (fun i x s e h => hb x s (List.mem_of_getElem? e) h) hq
/-- a loop that does what a function does, turn by turn -/
theorem fold_eq {f : α → σ → Option σ} {g : σ → α → σ} (I : σ → Prop) : ∀ {xs : List α} {s0 : σ}, I s0 → (∀ x s, x ∈ xs → I s → f x s = some (g s x) ∧ I (g s x)) → oFold xs s0 f = some (xs.foldl g s0)
  | [], s0, _, _ => rfl
  | x :: xs, s0, h0, hb => by
    obtain ⟨e, hi⟩ := hb x s0 List.mem_cons_self h0
    show (f x s0).bind _ = _
    rw [e]
    exact fold_eq I hi fun y s hy hs => hb y s (List.mem_cons_of_mem _ hy) hs
/-- a loop by what holds of the rest -/
theorem ok_foldR {f : α → σ → Option σ} {Q : σ → Prop} (I : List α → σ → Prop) : ∀ {xs : List α} {s0 : σ}, I xs s0 → (∀ x t s, I (x :: t) s → Ok (f x s) (I t)) → (∀ s, I [] s → Q s) → Ok (oFold xs s0 f) Q
  | [], s0, h0, _, hq => ok_some (hq s0 h0)
  | x :: xs, s0, h0, hb, hq => ok_bind ((hb x xs s0 h0).imp fun s h => ok_foldR I h hb hq)
/-- what is wanted of a turn's end -/
def StQ (I J : σ → Prop) (R : ρ → Prop) : Stp σ ρ → Prop
  | .nx s => I s
  | .bk s => J s
  | .rt r => R r
theorem ok_forN {f : α → σ → Option (Stp σ ρ)} {Q : Stp σ ρ → Prop} (I : Nat → σ → Prop) (J : σ → Prop) (R : ρ → Prop) : ∀ {xs : List α} (k : Nat) {s0 : σ}, I k s0 → (∀ i x s, xs[i]? = some x → I (k + i) s → Ok (f x s) (StQ (I (k + i + 1)) J R)) → (∀ s, I (k + xs.length) s ∨ J s → Q (.nx s)) → (∀ r, R r → Q (.rt r)) → Ok (oFor xs s0 f) Q
  | [], k, s0, h0, _, hq, _ => ok_some (hq s0 (.inl h0))
  | x :: xs, k, s0, h0, hb, hq, hr => ok_bind ((hb 0 x s0 rfl h0).imp fun st h => by
    cases st with
    | nx s => exact ok_forN I J R (xs := xs) (k + 1) h (fun i x s e hi => by
        have := hb (i + 1) x s (by simpa using e) (by rwa [show k + (i + 1) = k + 1 + i by omega])
        rwa [show k + (i + 1) + 1 = k + 1 + i + 1 by omega] at this) (fun s h => hq s (h.imp (fun h => by rwa [List.length_cons, show k + (xs.length + 1) = k + 1 + xs.length by omega]) id)) hr
    | bk s => exact ok_some (hq s (.inr h))
    | rt r => exact ok_some (hr r h))
/-- a loop with return or break, and what follows it -/
theorem ok_for {xs : List α} {f : α → σ → Option (Stp σ ρ)} {s0 : σ} {q : ρ → Option τ} {k : σ → Option τ} {Q : τ → Prop} (I : Nat → σ → Prop) (J : σ → Prop) (R : ρ → Prop) (h0 : I 0 s0) (hb : ∀ i x s, xs[i]? = some x → I i s → Ok (f x s) (StQ (I (i + 1)) J R))
    (hk : ∀ s, I xs.length s ∨ J s → Ok (k s) Q) (hr : ∀ r, R r → Ok (q r) Q) : Ok ((oFor xs s0 f).bind fun st => oThen st q k) Q :=
  ok_bind (ok_forN I J R 0 h0 (fun i x s e h => by simpa using hb i x s e (by simpa using h)) (fun s h => hk s (by rw [Nat.zero_add] at h; exact h)) fun r h => hr r h)
theorem ok_forR0 {f : α → σ → Option (Stp σ ρ)} {Q : Stp σ ρ → Prop} (I : List α → σ → Prop) (J : σ → Prop) (R : ρ → Prop) : ∀ {xs : List α} {s0 : σ}, I xs s0 → (∀ x t s, I (x :: t) s → Ok (f x s) (StQ (I t) J R)) → (∀ s, I [] s ∨ J s → Q (.nx s)) → (∀ r, R r → Q (.rt r)) → Ok (oFor xs s0 f) Q
  | [], s0, h0, _, hq, _ => ok_some (hq s0 (.inl h0))
  | x :: xs, s0, h0, hb, hq, hr => ok_bind ((hb x xs s0 h0).imp fun st h => by
    cases st with
    | nx s => exact ok_forR0 I J R h hb hq hr
    | bk s => exact ok_some (hq s (.inr h))
    | rt r => exact ok_some (hr r h))
/-- the same by what holds of the rest -/
theorem ok_forR {xs : List α} {f : α → σ → Option (Stp σ ρ)} {s0 : σ} {q : ρ → Option τ} {k : σ → Option τ} {Q : τ → Prop} (I : List α → σ → Prop) (J : σ → Prop) (R : ρ → Prop) (h0 : I xs s0) (hb : ∀ x t s, I (x :: t) s → Ok (f x s) (StQ (I t) J R))
    (hk : ∀ s, I [] s ∨ J s → Ok (k s) Q) (hr : ∀ r, R r → Ok (q r) Q) : Ok ((oFor xs s0 f).bind fun st => oThen st q k) Q :=
  ok_bind (ok_forR0 I J R h0 hb (fun s h => hk s h) fun r h => hr r h)
/-- a loop that never leaves early -/
theorem ok_forM {xs : List α} {f : α → σ → Option (Stp σ ρ)} {s0 : σ} {q : ρ → Option τ} {k : σ → Option τ} {Q : τ → Prop} (I : σ → Prop) (h0 : I s0) (hb : ∀ x s, x ∈ xs → I s → Ok (f x s) (StQ I (fun _ => False) (fun _ => False)))
    (hk : ∀ s, I s → Ok (k s) Q) : Ok ((oFor xs s0 f).bind fun st => oThen st q k) Q :=
  ok_for (fun _ => I) (fun _ => False) (fun _ => False) h0 (fun i x s e h => hb x s (List.mem_of_getElem? e) h) (fun s h => hk s (h.elim id False.elim)) fun r h => h.elim
theorem ok_whileN {c : σ → Option Bool} {f : σ → Option (Stp σ ρ)} {Q : Stp σ ρ → Prop} (I : Nat → σ → Prop) (J : σ → Prop) (R : ρ → Prop) (hc : ∀ m s, I m s → Ok (c s) fun b => if b = true then Ok (f s) (StQ (fun s' => ∃ m', m' < m ∧ I m' s') J R) else J s)
    (hq : ∀ s, J s → Q (.nx s)) (hr : ∀ r, R r → Q (.rt r)) : ∀ (n m : Nat) {s0 : σ}, m < n → I m s0 → Ok (oWhile n s0 c f) Q
  | 0, m, s0, h, _ => by omega
  | n + 1, m, s0, hm, h0 => ok_bind ((hc m s0 h0).imp fun b hb => by
    cases b with
    | false => exact ok_some (hq s0 hb)
    | true =>
      refine ok_bind ((show Ok (f s0) _ from hb).imp fun st h => ?_)
      cases st with
      | nx s => obtain ⟨m', h1, h2⟩ := h; exact ok_whileN I J R hc hq hr n m' (by omega) h2
      | bk s => exact ok_some (hq s h)
      | rt r => exact ok_some (hr r h))
/-- a while, by a number that falls -/
theorem ok_while {c : σ → Option Bool} {f : σ → Option (Stp σ ρ)} {s0 : σ} {q : ρ → Option τ} {k : σ → Option τ} {Q : τ → Prop} (I : Nat → σ → Prop) (J : σ → Prop) (R : ρ → Prop) {m : Nat} (hm : m < 1000000000) (h0 : I m s0)
    (hc : ∀ m s, I m s → Ok (c s) fun b => if b = true then Ok (f s) (StQ (fun s' => ∃ m', m' < m ∧ I m' s') J R) else J s) (hk : ∀ s, J s → Ok (k s) Q) (hr : ∀ r, R r → Ok (q r) Q) : Ok ((oWhile fuel s0 c f).bind fun st => oThen st q k) Q :=
  ok_bind (ok_whileN I J R hc (fun s h => hk s h) (fun r h => hr r h) fuel m (by unfold fuel; exact hm) h0)
/-! comprehensions -/
theorem compN_eq {f : α → Option (Option β)} {g : α → Option β} : ∀ {xs : List α}, (∀ x ∈ xs, f x = some (g x)) → oCompN xs f = some (xs.filterMap g)
  | [], _ => rfl
  | x :: xs, h => by
    show (f x).bind _ = _
    rw [h x List.mem_cons_self]
    show (oCompN xs f).bind _ = _
    rw [compN_eq fun y hy => h y (List.mem_cons_of_mem _ hy)]
    rw [List.filterMap_cons]
    cases g x <;> rfl
theorem ok_comp {xs : List α} {f : α → Option (Option β)} {Q : List β → Prop} (g : α → Option β) (hl : xs.length ≤ 1000000) (h : ∀ x ∈ xs, f x = some (g x)) (k : Q (xs.filterMap g)) : Ok (oComp xs f) Q := ⟨_, by unfold oComp; rw [if_pos (szl hl)]; exact compN_eq h, k⟩
theorem ok_compMap {xs : List α} {f : α → Option (Option β)} {Q : List β → Prop} (g : α → β) (hl : xs.length ≤ 1000000) (h : ∀ x ∈ xs, f x = some (some (g x))) (k : Q (xs.map g)) : Ok (oComp xs f) Q :=
  ok_comp (fun x => some (g x)) hl h (by rw [show (fun x => some (g x)) = some ∘ g from rfl, List.filterMap_eq_map]; exact k)
/-- a comprehension of which nothing is left -/
theorem ok_compNil {xs : List α} {f : α → Option (Option β)} {Q : List β → Prop} (hl : xs.length ≤ 1000000) (h : ∀ x ∈ xs, f x = some none) (k : Q []) : Ok (oComp xs f) Q :=
  ok_comp (fun _ => none) hl h (by
    have : xs.filterMap (fun _ => (none : Option β)) = [] := List.filterMap_eq_nil_iff.mpr fun _ _ => rfl
    rw [this]; exact k)
theorem filterMap_if {p : α → Bool} {g : α → β} (xs : List α) : xs.filterMap (fun x => if p x = true then some (g x) else none) = (xs.filter p).map g := by
  induction xs with
  | nil => rfl
  | cons x xs ih =>
    rw [List.filterMap_cons, List.filter_cons]
    cases h : p x with
    | true => simp [ih]
    | false => simp [ih]
theorem ok_compF {xs : List α} {f : α → Option (Option β)} {Q : List β → Prop} (p : α → Bool) (g : α → β) (hl : xs.length ≤ 1000000) (h : ∀ x ∈ xs, f x = if p x = true then some (some (g x)) else some none) (k : Q ((xs.filter p).map g)) : Ok (oComp xs f) Q :=
  ok_comp (fun x => if p x = true then some (g x) else none) hl (fun x hx => by rw [h x hx]; split <;> rfl) (by rw [filterMap_if]; exact k)
/-! sameness -/
theorem sh_int {n : Nat} {i : Int} : shOk n (eI i) = true := rfl
theorem sh_bl {n : Nat} {i : Bool} : shOk n (eB i) = true := rfl
theorem sh_non {n : Nat} : shOk n .non = true := rfl
theorem sh_tup {n : Nat} {e : α → Dv} {xs : List α} (hl : xs.length ≤ 1000000) (h : ∀ x ∈ xs, shOk n (e x) = true) : shOk (n + 1) (eT e xs) = true := by
  simp only [shOk, Nat.add_sub_cancel, List.length_map, decide_eq_true (szl hl)]
  simp
  exact shOks_iff.mpr fun d hd => by obtain ⟨x, hx, rfl⟩ := List.mem_map.mp hd; exact h x hx
theorem sh_lst {n : Nat} {e : α → Dv} {xs : List α} (hl : xs.length ≤ 1000000) (h : ∀ x ∈ xs, shOk n (e x) = true) : shOk (n + 1) (eL e xs) = true := by
  simp only [shOk, Nat.add_sub_cancel, List.length_map, decide_eq_true (szl hl)]
  simp
  exact shOks_iff.mpr fun d hd => by obtain ⟨x, hx, rfl⟩ := List.mem_map.mp hd; exact h x hx
theorem sh_pair {n : Nat} {e : α → Dv} {f : β → Dv} {p : α × β} (h : shOk n (e p.1) = true) (k : shOk n (f p.2) = true) : shOk (n + 1) (eP e f p) = true := by
  have : (2 : Nat) ≤ sizeLine := by decide
  simp [shOk, shOks, h, k, this]
theorem sh_p3 {n : Nat} {e : α → Dv} {f : β → Dv} {g : γ → Dv} {p : α × β × γ} (h : shOk n (e p.1) = true) (k : shOk n (f p.2.1) = true) (l : shOk n (g p.2.2) = true) : shOk (n + 1) (eP3 e f g p) = true := by
  have : (3 : Nat) ≤ sizeLine := by decide
  simp [shOk, shOks, h, k, l, this]
theorem sh_opt {n : Nat} {e : α → Dv} {o : Option α} (h : ∀ x, shOk n (e x) = true) : shOk n (eO e o) = true := by
  cases o with
  | none => rfl
  | some x => exact h x
theorem ok_same {e : α → Dv} {f : β → Dv} {x : α} {y : β} {Q : Bool → Prop} (hs : shOk 11 (e x) = true) (h : e x = f y) (k : Q true) : Ok (oSameM e f x y) Q := by
  refine ⟨true, ?_, k⟩
  unfold oSameM
  rw [← h, hs, sameD_refl 11 _ hs]
  rfl
/-! places in lists -/
theorem enumL_length (xs : List α) : ∀ k, (enumL k xs).length = xs.length := by
  induction xs with
  | nil => intro k; rfl
  | cons x xs ih => intro k; simp [enumL, ih]
theorem enumL_get (xs : List α) : ∀ (k i : Nat), (enumL k xs)[i]? = (xs[i]?).map fun x => (((k + i : Nat) : Int), x) := by
  induction xs with
  | nil => intro k i; simp [enumL]
  | cons x xs ih =>
    intro k i
    cases i with
    | zero => simp [enumL]
    | succ i =>
      simp only [enumL, List.getElem?_cons_succ]
      rw [ih, show k + 1 + i = k + (i + 1) by omega]
theorem enumL_at {xs : List α} {i : Nat} {p : Int × α} (h : (enumL 0 xs)[i]? = some p) : ∃ x, xs[i]? = some x ∧ p = ((i : Int), x) := by
  rw [enumL_get] at h
  obtain ⟨x, hx, e⟩ := Option.map_eq_some_iff.mp h
  exact ⟨x, hx, by rw [← e, Nat.zero_add]⟩
theorem enumL_mem {xs : List α} {p : Int × α} (h : p ∈ enumL 0 xs) : ∃ i : Nat, xs[i]? = some p.2 ∧ p.1 = (i : Int) := by
  obtain ⟨i, hi, e⟩ := List.mem_iff_getElem.mp h
  obtain ⟨x, hx, rfl⟩ := enumL_at (by rw [List.getElem?_eq_getElem hi, e])
  exact ⟨i, hx, rfl⟩
theorem rngL_length (lo : Int) (n : Nat) : (rngL lo n).length = n := by simp [rngL]
theorem rngL_get {lo : Int} {n i : Nat} {x : Int} (h : (rngL lo n)[i]? = some x) : i < n ∧ x = lo + i := by
  unfold rngL at h
  have hi : i < n := by have := (List.getElem?_eq_some_iff.mp h).1; simpa using this
  rw [List.getElem?_map, List.getElem?_range hi] at h
  exact ⟨hi, (Option.some.inj h).symm⟩
theorem rngL_mem {lo : Int} {n : Nat} {x : Int} : x ∈ rngL lo n ↔ lo ≤ x ∧ x < lo + n := by
  unfold rngL
  simp only [List.mem_map, List.mem_range]
  constructor
  · rintro ⟨k, hk, rfl⟩; omega
  · rintro ⟨h1, h2⟩; exact ⟨(x - lo).toNat, by omega, by omega⟩
theorem rngL_succ (lo : Int) (n : Nat) : rngL lo (n + 1) = rngL lo n ++ [lo + n] := by simp [rngL, List.range_succ]
theorem rngL_nodup (lo : Int) (n : Nat) : (rngL lo n).Nodup := by
  unfold rngL
  rw [List.Nodup, List.pairwise_map]
  exact List.nodup_range.imp fun h => by omega
theorem cut_none (xs : List α) : cut xs none none = xs := by unfold cut HT.sIx; simp
theorem cut_to {xs : List α} {n : Int} (h : 0 ≤ n) : cut xs none (some n) = xs.take n.toNat := by
  unfold cut HT.sIx
  dsimp only
  rw [if_neg (by omega)]
  simp only [List.drop_zero, Nat.sub_zero]
  by_cases q : n.toNat ≤ xs.length
  · rw [Nat.min_eq_left q]
  · rw [Nat.min_eq_right (by omega), List.take_length, List.take_of_length_le (by omega)]
theorem cut_from {xs : List α} {n : Int} (h : 0 ≤ n) : cut xs (some n) none = xs.drop n.toNat := by
  unfold cut HT.sIx
  dsimp only
  rw [if_neg (by omega)]
  by_cases q : n.toNat ≤ xs.length
  · rw [Nat.min_eq_left q, List.take_of_length_le (by rw [List.length_drop]; omega)]
  · rw [Nat.min_eq_right (by omega), List.drop_eq_nil_of_le (Nat.le_refl _), List.drop_eq_nil_of_le (by omega)]; simp
theorem cut_len (xs : List α) (lo hi : Option Int) : (cut xs lo hi).length ≤ xs.length := by
  unfold cut; rw [List.length_take, List.length_drop]; omega
theorem zip_get {xs : List α} {ys : List β} {p : α × β} (h : p ∈ xs.zip ys) : ∃ i : Nat, xs[i]? = some p.1 ∧ ys[i]? = some p.2 := by
  obtain ⟨i, hi, e⟩ := List.mem_iff_getElem.mp h
  have : (xs.zip ys)[i]? = some p := by rw [List.getElem?_eq_getElem hi, e]
  rw [List.getElem?_zip_eq_some] at this
  exact ⟨i, this.1, this.2⟩
end
end DL

set_option Elab.async false
set_option linter.all false
set_option maxRecDepth 100000
set_option maxHeartbeats 4000000
namespace Law
open PySem L2 DL
def m_is_integer (value : Int) : Option Bool :=
  if true then (
    some (!false))
  else some false
def m_is_number (value : Int) : Option Bool :=
  (m_is_integer value).bind fun r =>
  if r then (
    some (decide (value ≥ 0)))
  else some false
def m_is_index (value : Int) (many : Int) : Option Bool :=
  (m_is_number value).bind fun r =>
  if r then (
    some (decide (value < many)))
  else some false
def m_is_row_of (value : Dv) (sizes : (List Int)) : Option Bool :=
  (oIsi (eA value) "tuple").bind fun is =>
  if is then (
    (oLenA value).bind fun n =>
    some (decide (n ∈ sizes)))
  else some false
def m_is_tape (value : (List Int)) (many : Int) : Option Bool :=
  (m_is_row_of ((eT eI) value) ([many] : (List Int))).bind fun r =>
  if (!r) then (
    some false)
  else (
    (oComp value (fun one => ((m_is_index one many).bind fun r1 => some (some r1) : Option (Option Bool)))).bind fun l =>
    if (!(l.all id)) then (
      some false)
    else (
      (oLenSet value).bind fun n =>
      some (decide (n = many))))
def m_crossed (one : (List Int)) (other : (List Int)) : Option Int :=
  (oComp (enumL 0 other) (fun (at_, block) => (some (some (block, at_)) : Option (Option (Int × Int))))).bind fun l =>
  (some ((tMerge [] l) : (List (Int × Int)))).bind fun spot =>
  (oComp one (fun block1 => ((tGet spot block1).bind fun it => some (some it) : Option (Option Int)))).bind fun l1 =>
  (oRng 0 (l1.length : Int)).bind fun r =>
  (oComp2 r (fun at_1 => ((oRng (at_1 + 1) (l1.length : Int)).bind fun r1 => oComp r1 (fun later => ((oIx l1 at_1).bind fun it1 => (oIx l1 later).bind fun it2 => if (decide (it1 > it2)) then ( some (some 1)) else some none : Option (Option Int))) : Option (List Int)))).bind fun l2 =>
  some (l2.length : Int)
def m_laid_ahead (tape : (List Int)) (block : Int) (place : Int) : Option (List Int) :=
  (oComp tape (fun one => (if (!decide (one = block)) then ( some (some one)) else some none : Option (Option Int)))).bind fun l =>
  (oCat (cut l none (some place)) ([block] : (List Int))).bind fun l1 =>
  (oCat l1 (cut l (some place) none)).bind fun l2 =>
  some l2
def m_is_tape_way (tape : (List Int)) (asks : (List Int)) (value : (List ((List Int) × Int))) : Option Bool :=
  (m_is_row_of ((eT (eP (eT eI) eI)) value) ([(asks.length : Int)] : (List Int))).bind fun r =>
  if (!r) then (
    some false)
  else (
    (oFor (asks.zip value) () (fun (block1, pair1) (_ : Unit) => (
      (m_is_row_of ((eP (eT eI) eI) pair1) ([2] : (List Int))).bind fun r4 =>
      if (!r4) then (
        some (.rt false))
      else (
        (m_is_tape pair1.1 (tape.length : Int)).bind fun r5 =>
        if (!r5) then (
          some (.rt false))
        else (
          (oIdx pair1.1 block1).bind fun at_1 =>
          (m_is_index pair1.2 (at_1 + 1)).bind fun r6 =>
          if (!r6) then (
            some (.rt false))
          else (
            some (.nx ())))) : Option (Stp Unit Bool)))).bind fun fl => oThen fl (fun r => some r) fun (_ : Unit) =>
    some true)
def m_way_costs (tape : (List Int)) (asks : (List Int)) (way : (List ((List Int) × Int))) : Option (Int × Int × Int) :=
  (some ((0, 0, 0, tape) : (Int × Int × Int × (List Int)))).bind fun t_ =>
  (oFold (asks.zip way) ((t_.1, t_.2.1, t_.2.2.1, t_.2.2.2) : (Int × Int × Int × (List Int))) (fun (block1, (found1, place1)) (steps2, exchanges2, free2, lies1) => (
    (oIdx found1 block1).bind fun at_1 =>
    (some (((steps2 + at_1) + 1) : Int)).bind fun steps3 =>
    (m_crossed lies1 found1).bind fun r2 =>
    (some ((exchanges2 + r2) : Int)).bind fun exchanges3 =>
    (some (((free2 + at_1) - place1) : Int)).bind fun free3 =>
    (m_laid_ahead found1 block1 place1).bind fun r3 =>
    some (steps3, exchanges3, free3, r3) : Option (Int × Int × Int × (List Int))))).bind fun (steps4, exchanges4, free4, lies2) =>
  some (steps4, exchanges4, free4)
def m_front_way (tape : (List Int)) (asks : (List Int)) : Option (List ((List Int) × Int)) :=
  (oFold asks ((tape, ([] : (List ((List Int) × Int)))) : ((List Int) × (List ((List Int) × Int)))) (fun block1 (lies1, found2) => (
    (oApp found2 (lies1, 0)).bind fun found3 =>
    (m_laid_ahead lies1 block1 0).bind fun r1 =>
    some (r1, found3) : Option ((List Int) × (List ((List Int) × Int)))))).bind fun (lies2, found4) =>
  some found4
def m_front_steps (tape : (List Int)) (asks : (List Int)) : Option Int :=
  (m_front_way tape asks).bind fun r =>
  (m_way_costs tape asks r).bind fun r1 =>
  some r1.1
def m_tape_potentials (tape : (List Int)) (asks : (List Int)) (way : (List ((List Int) × Int))) : Option (List Int) :=
  (some (([0] : (List Int)) : (List Int))).bind fun found =>
  (oFold (asks.zip way) ((tape, found) : ((List Int) × (List Int))) (fun (block1, (other1, place1)) (lies1, found3) => (
    (m_laid_ahead lies1 block1 0).bind fun r3 =>
    (m_laid_ahead other1 block1 place1).bind fun r4 =>
    (m_crossed r3 r4).bind fun r5 =>
    (oApp found3 r5).bind fun found4 =>
    some (r3, found4) : Option ((List Int) × (List Int))))).bind fun (lies2, found5) =>
  some found5
def m_law_asks (deal_ : Deal) (pages : Int) (most : Int) : Option ((List Int) × Deal) :=
  (oAny deal_ (most + 1)).bind fun (v, deal_1) =>
  (oAny deal_1 5).bind fun (v1, deal_2) =>
  (oRgL 0 pages).bind fun r =>
  (oRng 0 v).bind fun r1 =>
  (oFold r1 ((deal_2, r, ([] : (List Int))) : (Deal × (List Int) × (List Int))) (fun time_1 (deal_11, some_2, found3) => (
    if (decide (v1 = 1)) then (
      (oDiv time_1 pages).bind fun n2 =>
      (oMul n2 pages).bind fun n3 =>
      (oApp found3 (time_1 - n3)).bind fun found4 =>
      some (deal_11, some_2, found4))
    else (
      (if (decide (v1 = 2)) then ((if (!decide (found3 = ([] : (List Int)))) then ((oAny deal_11 3).bind fun (v7, deal_12) => some ((decide (v7 > 0)), deal_12)) else some (false, deal_11)).bind fun (c2, deal_13) => some (c2, deal_13)) else some (false, deal_11)).bind fun (c3, deal_14) =>
      if c3 then (
        (oAny deal_14 6).bind fun (v8, deal_15) =>
        (oIx found3 (max 0 (((found3.length : Int) - 1) - v8))).bind fun it1 =>
        (oApp found3 it1).bind fun found5 =>
        some (deal_15, some_2, found5))
      else (
        if ((decide (v1 = 3)) && (decide ((some_2.length : Int) > 0))) then (
          (oAny deal_14 8).bind fun (v9, deal_16) =>
          (if (decide (v9 = 0)) then (
            (oRgL 0 pages).bind fun r3 =>
            (oMixed deal_16 r3).bind fun (v10, deal_17) =>
            (oAny deal_17 pages).bind fun (v11, deal_18) =>
            (some ((cut v10 none (some (1 + v11))) : (List Int))).bind fun some_3 =>
            some (deal_18, some_3))
          else (
            some (deal_16, some_2)) : Option (Deal × (List Int))).bind fun (deal_19, some_4) =>
          (oOf deal_19 some_4).bind fun (v12, deal_20) =>
          (oApp found3 v12).bind fun found6 =>
          some (deal_20, some_4, found6))
        else (
          (oAny deal_14 pages).bind fun (v13, deal_21) =>
          (oApp found3 v13).bind fun found7 =>
          some (deal_21, some_2, found7)))) : Option (Deal × (List Int) × (List Int))))).bind fun (deal_22, some_5, found8) =>
  some (found8, deal_22)
def m_law_ahead (tape : (List Int)) (block : Int) (place : Int) : Option (List Int) :=
  (oComp tape (fun one => (if (!decide (one = block)) then ( some (some one)) else some none : Option (Option Int)))).bind fun l =>
  (oCat (cut l none (some place)) ([block] : (List Int))).bind fun l1 =>
  (oCat l1 (cut l (some place) none)).bind fun l2 =>
  some l2
def m_law_crossed (one : (List Int)) (other : (List Int)) : Option Int :=
  (oComp (enumL 0 other) (fun (at_, block) => (some (some (block, at_)) : Option (Option (Int × Int))))).bind fun l =>
  (some (((tMerge [] l), 0) : ((List (Int × Int)) × Int))).bind fun t_ =>
  (oFold (enumL 0 one) (t_.2 : Int) (fun (at_2, block2) found2 => (
    (oComp (cut one none (some at_2)) (fun more1 => ((tGet t_.1 more1).bind fun it2 => (tGet t_.1 block2).bind fun it3 => if (decide (it2 > it3)) then ( some (some more1)) else some none : Option (Option Int)))).bind fun l2 =>
    (some ((found2 + (l2.length : Int)) : Int)).bind fun found3 =>
    some found3 : Option Int))).bind fun found4 =>
  some found4
def m_law_rising (asks : (List Int)) (front : (List ((List Int) × Int))) (way : (List ((List Int) × Int))) : Option (List Int) :=
  (some (([0] : (List Int)) : (List Int))).bind fun found =>
  (oFold (asks.zip (front.zip way)) (found : (List Int)) (fun (block1, (lies1, spot1), (order1, place1)) found3 => (
    (m_law_ahead lies1 block1 0).bind fun r3 =>
    (m_law_ahead order1 block1 place1).bind fun r4 =>
    (m_law_crossed r3 r4).bind fun r5 =>
    (oApp found3 r5).bind fun found4 =>
    some found4 : Option (List Int)))).bind fun found5 =>
  some found5
def m_law_front (tape : (List Int)) (asks : (List Int)) : Option (List ((List Int) × Int)) :=
  (oFold asks ((([] : (List ((List Int) × Int))), tape) : ((List ((List Int) × Int)) × (List Int))) (fun block1 (found2, lies1) => (
    (oApp found2 (lies1, 0)).bind fun found3 =>
    (m_law_ahead lies1 block1 0).bind fun r1 =>
    some (found3, r1) : Option ((List ((List Int) × Int)) × (List Int))))).bind fun (found4, lies2) =>
  some found4
def m_law_orders (many : Int) : Option (List (List Int)) :=
  (some (([([] : (List Int))] : (List (List Int))) : (List (List Int)))).bind fun found =>
  (oRng 0 many).bind fun r =>
  (oFold r (found : (List (List Int))) (fun block1 found2 => (
    (oFold found2 (([] : (List (List Int))) : (List (List Int))) (fun one2 later2 => (
      (oRng 0 (block1 + 1)).bind fun r3 =>
      (oComp r3 (fun at_2 => ((oCat (cut one2 none (some at_2)) ([block1] : (List Int))).bind fun l8 => (oCat l8 (cut one2 (some at_2) none)).bind fun l9 => some (some l9) : Option (Option (List Int))))).bind fun l10 =>
      (oCat later2 l10).bind fun l11 =>
      some l11 : Option (List (List Int))))).bind fun later3 =>
    some later3 : Option (List (List Int))))).bind fun found3 =>
  some found3
def m_law_keeping (order : (List Int)) (asks : (List Int)) : Option (List ((List Int) × Int)) :=
  (oComp asks (fun block => ((oIdx order block).bind fun at_ => some (some (order, at_)) : Option (Option ((List Int) × Int))))).bind fun l =>
  some l
def m_law_steps (order : (List Int)) (counts : (List Int)) : Option Int :=
  (oComp (enumL 0 order) (fun (at_, block) => ((oIx counts block).bind fun it => (oMul it (at_ + 1)).bind fun n => some (some n) : Option (Option Int)))).bind fun l =>
  some l.sum
def m_law (d0 : Deal) : Option Bool :=
  (oRng 0 2).bind fun r =>
  (oFor r (d0 : Deal) (fun turn1 deal_5 => (
    (oOf deal_5 ([1, 2, 3, 4, 5, 9, 30, (if (decide (turn1 = 0)) then 64 else 12)] : (List Int))).bind fun (v4, deal_6) =>
    (oRgL 0 v4).bind fun r7 =>
    (oMixed deal_6 r7).bind fun (v5, deal_7) =>
    (oOf deal_7 ([6, 20, 60, (if ((decide (turn1 = 0)) && (decide (v4 < 10))) then 400 else 30)] : (List Int))).bind fun (v6, deal_8) =>
    (m_law_asks deal_8 v4 v6).bind fun (v7, deal_9) =>
    (some ((if (decide (v4 > 20)) then (cut v7 none (some 10)) else v7) : (List Int))).bind fun asks1 =>
    (oRng 0 v4).bind fun r8 =>
    (oComp r8 (fun block4 => ((oComp asks1 (fun one1 => (if (decide (one1 = block4)) then ( some (some 1)) else some none : Option (Option Int)))).bind fun l4 => some (some (l4.length : Int)) : Option (Option Int)))).bind fun l5 =>
    (oRng 0 v4).bind fun r9 =>
    (oComp r9 (fun block5 => ((oIx l5 block5).bind fun it1 => some (some ((0 - it1), block5)) : Option (Option (Int × Int))))).bind fun l6 =>
    (oComp (srt leP l6) (fun (many1, block6) => (some (some block6) : Option (Option Int)))).bind fun l7 =>
    (m_front_steps v5 asks1).bind fun r10 =>
    (m_law_steps l7 l5).bind fun r11 =>
    (oFold asks1 ((v5, 0) : ((List Int) × Int)) (fun block8 (lies2, own4) => (
      (m_law_ahead lies2 block8 0).bind fun r13 =>
      (oIdx lies2 block8).bind fun at_2 =>
      (some (((own4 + at_2) + 1) : Int)).bind fun own5 =>
      some (r13, own5) : Option ((List Int) × Int)))).bind fun (lies3, own6) =>
    (oSameM eI eI r10 own6).bind fun same =>
    if (!same) then (
      some (.rt false))
    else (
      (oMul v4 (v4 - 1)).bind fun n =>
      if (decide ((2 * r10) > (((4 * r11) + n) - (2 * (asks1.length : Int))))) then (
        some (.rt false))
      else (
        (oRgL 0 v4).bind fun r14 =>
        (oMixed deal_9 r14).bind fun (v8, deal_10) =>
        (some (([l7, v5, v8] : (List (List Int))) : (List (List Int)))).bind fun some_ =>
        (if ((decide (v4 < 6)) && (decide (turn1 = 1))) then ((m_law_orders v4).bind fun r15 => some r15) else ( some ([] : (List (List Int))))).bind fun v9 =>
        (oCat some_ v9).bind fun l8 =>
        (oFor l8 () (fun order1 (_ : Unit) => (
          (m_law_steps order1 l5).bind fun r18 =>
          (m_law_crossed v5 order1).bind fun r19 =>
          if (decide (r18 < r11)) then (
            some (.rt false))
          else (
            if (decide (r10 > (((2 * r18) + r19) - (asks1.length : Int)))) then (
              some (.rt false))
            else (
              some (.nx ()))) : Option (Stp Unit Bool)))).bind fun fl => oThen fl (fun r => some (.rt r)) fun (_ : Unit) =>
        (oFor some_ () (fun order3 (_ : Unit) => (
          (m_law_keeping order3 asks1).bind fun r28 =>
          (m_law_steps order3 l5).bind fun r29 =>
          (if (!decide (asks1 = ([] : (List Int)))) then ((m_law_crossed v5 order3).bind fun r30 => some r30) else ( some 0)).bind fun v11 =>
          (some ((r29, v11, 0) : (Int × Int × Int))).bind fun costs1 =>
          (m_is_tape_way v5 asks1 r28).bind fun r31 =>
          (m_way_costs v5 asks1 r28).bind fun r32 =>
          (some (([(eB r31), ((eP3 eI eI eI) r32)] : (List Dv)) : (List Dv))).bind fun told1 =>
          (m_crossed v5 order3).bind fun r33 =>
          (oCat told1 ([(eI r33)] : (List Dv))).bind fun l11 =>
          (m_law_crossed v5 order3).bind fun r34 =>
          (oSameM (eL eA) (eL eA) l11 ([(eB true), ((eP3 eI eI eI) costs1), (eI r34)] : (List Dv))).bind fun same3 =>
          if (!same3) then (
            some (.rt false))
          else (
            (oComp r28 (fun (lies5, place1) => (some (some (lies5, (place1 + 1))) : Option (Option ((List Int) × Int))))).bind fun l12 =>
            (m_is_tape_way v5 asks1 l12).bind fun r35 =>
            (oSameM eB eB r35 (decide (asks1 = ([] : (List Int))))).bind fun same4 =>
            if (!same4) then (
              some (.rt false))
            else (
              some (.nx ()))) : Option (Stp Unit Bool)))).bind fun fl => oThen fl (fun r => some (.rt r)) fun (_ : Unit) =>
        (some ((cut asks1 none (some 20)) : (List Int))).bind fun few =>
        if (decide (v4 < 10)) then (
          (oIx some_ (-1)).bind fun it2 =>
          (m_law_keeping it2 few).bind fun r36 =>
          (m_law_front v5 few).bind fun r37 =>
          (m_law_rising few r37 r36).bind fun r38 =>
          (m_tape_potentials v5 few r36).bind fun r39 =>
          (oSameM (eT eI) (eT eI) r39 r38).bind fun same5 =>
          if (!same5) then (
            some (.rt false))
          else (
            some (.nx deal_10)))
        else (
          some (.nx deal_10)))) : Option (Stp Deal Bool)))).bind fun fl => oThen fl (fun r => some r) fun deal_11 =>
  some true
end Law

set_option Elab.async false
set_option linter.all false
set_option maxRecDepth 100000
set_option maxHeartbeats 4000000
namespace Law
open PySem L2 DL
def top (i : Nat) : Stmt := PySem.Challenge.pw_fewerpours_k22_whole_best_fixed_tapes.main.body.getD i (.Pass ⟨0, 0, 0, 0⟩)
abbrev s_is_integer : Stmt := top 1
theorem sc_is_integer : FnScope ["value"] ["value"] (defScope s_is_integer) := ⟨rfl, rfl, rfl, by decide +kernel, rfl, by decide +kernel, by decide +kernel⟩
abbrev s_is_number : Stmt := top 2
theorem sc_is_number : FnScope ["value"] ["value"] (defScope s_is_number) := ⟨rfl, rfl, rfl, by decide +kernel, rfl, by decide +kernel, by decide +kernel⟩
abbrev s_is_index : Stmt := top 3
theorem sc_is_index : FnScope ["value", "many"] ["value", "many"] (defScope s_is_index) := ⟨rfl, rfl, rfl, by decide +kernel, rfl, by decide +kernel, by decide +kernel⟩
abbrev s_is_row_of : Stmt := top 4
theorem sc_is_row_of : FnScope ["value", "sizes"] ["value", "sizes"] (defScope s_is_row_of) := ⟨rfl, rfl, rfl, by decide +kernel, rfl, by decide +kernel, by decide +kernel⟩
abbrev s_is_tape : Stmt := top 6
theorem sc_is_tape : FnScope ["value", "many", "one"] ["value", "many"] (defScope s_is_tape) := ⟨rfl, rfl, rfl, by decide +kernel, rfl, by decide +kernel, by decide +kernel⟩
abbrev s_crossed : Stmt := top 7
theorem sc_crossed : FnScope ["one", "other", "spot", "row", "block", "at", "later"] ["one", "other"] (defScope s_crossed) := ⟨rfl, rfl, rfl, by decide +kernel, rfl, by decide +kernel, by decide +kernel⟩
abbrev s_laid_ahead : Stmt := top 8
theorem sc_laid_ahead : FnScope ["tape", "block", "place", "rest", "one"] ["tape", "block", "place"] (defScope s_laid_ahead) := ⟨rfl, rfl, rfl, by decide +kernel, rfl, by decide +kernel, by decide +kernel⟩
abbrev s_is_tape_way : Stmt := top 9
theorem sc_is_tape_way : FnScope ["tape", "asks", "value", "block", "pair"] ["tape", "asks", "value"] (defScope s_is_tape_way) := ⟨rfl, rfl, rfl, by decide +kernel, rfl, by decide +kernel, by decide +kernel⟩
abbrev s_way_costs : Stmt := top 10
theorem sc_way_costs : FnScope ["tape", "asks", "way", "steps", "exchanges", "free", "lies", "block", "at", "found", "place"] ["tape", "asks", "way"] (defScope s_way_costs) := ⟨rfl, rfl, rfl, by decide +kernel, rfl, by decide +kernel, by decide +kernel⟩
abbrev s_front_way : Stmt := top 12
theorem sc_front_way : FnScope ["tape", "asks", "block", "lies", "found"] ["tape", "asks"] (defScope s_front_way) := ⟨rfl, rfl, rfl, by decide +kernel, rfl, by decide +kernel, by decide +kernel⟩
abbrev s_front_steps : Stmt := top 13
theorem sc_front_steps : FnScope ["tape", "asks"] ["tape", "asks"] (defScope s_front_steps) := ⟨rfl, rfl, rfl, by decide +kernel, rfl, by decide +kernel, by decide +kernel⟩
abbrev s_tape_potentials : Stmt := top 14
theorem sc_tape_potentials : FnScope ["tape", "asks", "way", "lies", "found", "block", "other", "place"] ["tape", "asks", "way"] (defScope s_tape_potentials) := ⟨rfl, rfl, rfl, by decide +kernel, rfl, by decide +kernel, by decide +kernel⟩
abbrev s_law_draw : Stmt := top 16
theorem sc_law_draw : FnScope ["script", "salt", "cells", "blend", "cell"] ["script", "salt"] (defScope s_law_draw) := ⟨rfl, rfl, rfl, by decide +kernel, rfl, by decide +kernel, by decide +kernel⟩
abbrev s_law_any : Stmt := top 17
theorem sc_law_any : FnScope ["deal", "bound", "rest"] ["deal", "bound"] (defScope s_law_any) := ⟨rfl, rfl, rfl, by decide +kernel, rfl, by decide +kernel, by decide +kernel⟩
abbrev s_law_of : Stmt := top 18
theorem sc_law_of : FnScope ["deal", "some"] ["deal", "some"] (defScope s_law_of) := ⟨rfl, rfl, rfl, by decide +kernel, rfl, by decide +kernel, by decide +kernel⟩
abbrev s_law_mixed : Stmt := top 19
theorem sc_law_mixed : FnScope ["deal", "some", "left", "found"] ["deal", "some"] (defScope s_law_mixed) := ⟨rfl, rfl, rfl, by decide +kernel, rfl, by decide +kernel, by decide +kernel⟩
abbrev s_law_same : Stmt := top 20
theorem sc_law_same : FnScope ["told", "due", "one", "other"] ["told", "due"] (defScope s_law_same) := ⟨rfl, rfl, rfl, by decide +kernel, rfl, by decide +kernel, by decide +kernel⟩
abbrev s_law_asks : Stmt := top 21
theorem sc_law_asks : FnScope ["deal", "pages", "most", "some", "time", "many", "form", "found"] ["deal", "pages", "most"] (defScope s_law_asks) := ⟨rfl, rfl, rfl, by decide +kernel, rfl, by decide +kernel, by decide +kernel⟩
abbrev s_law_ahead : Stmt := top 22
theorem sc_law_ahead : FnScope ["tape", "block", "place", "rest", "one"] ["tape", "block", "place"] (defScope s_law_ahead) := ⟨rfl, rfl, rfl, by decide +kernel, rfl, by decide +kernel, by decide +kernel⟩
abbrev s_law_crossed : Stmt := top 23
theorem sc_law_crossed : FnScope ["one", "other", "spot", "found", "at", "block", "more"] ["one", "other"] (defScope s_law_crossed) := ⟨rfl, rfl, rfl, by decide +kernel, rfl, by decide +kernel, by decide +kernel⟩
abbrev s_law_rising : Stmt := top 24
theorem sc_law_rising : FnScope ["asks", "front", "way", "found", "block", "lies", "spot", "order", "place"] ["asks", "front", "way"] (defScope s_law_rising) := ⟨rfl, rfl, rfl, by decide +kernel, rfl, by decide +kernel, by decide +kernel⟩
abbrev s_law_front : Stmt := top 25
theorem sc_law_front : FnScope ["tape", "asks", "block", "found", "lies"] ["tape", "asks"] (defScope s_law_front) := ⟨rfl, rfl, rfl, by decide +kernel, rfl, by decide +kernel, by decide +kernel⟩
abbrev s_law_orders : Stmt := top 26
theorem sc_law_orders : FnScope ["many", "found", "block", "later", "one", "at"] ["many"] (defScope s_law_orders) := ⟨rfl, rfl, rfl, by decide +kernel, rfl, by decide +kernel, by decide +kernel⟩
abbrev s_law_keeping : Stmt := top 27
theorem sc_law_keeping : FnScope ["order", "asks", "block"] ["order", "asks"] (defScope s_law_keeping) := ⟨rfl, rfl, rfl, by decide +kernel, rfl, by decide +kernel, by decide +kernel⟩
abbrev s_law_steps : Stmt := top 28
theorem sc_law_steps : FnScope ["order", "counts", "at", "block"] ["order", "counts"] (defScope s_law_steps) := ⟨rfl, rfl, rfl, by decide +kernel, rfl, by decide +kernel, by decide +kernel⟩
abbrev s_law : Stmt := top 29
theorem sc_law : FnScope ["script", "deal", "turn", "n", "tape", "asks", "counts", "best", "block", "some", "order", "few", "spent", "least", "lies", "own", "way", "costs", "told", "bent", "due", "steps", "pairs", "one", "many", "place"] ["script"] (defScope s_law) := ⟨rfl, rfl, rfl, by decide +kernel, rfl, by decide +kernel, by decide +kernel⟩
structure Bs (mg : Str → Option Value) : Prop where
  isinstance : mg "isinstance" = none
  bool : mg "bool" = none
  int : mg "int" = none
  len : mg "len" = none
  tuple : mg "tuple" = none
  set : mg "set" = none
  all : mg "all" = none
  range : mg "range" = none
  enumerate : mg "enumerate" = none
  zip : mg "zip" = none
  abs : mg "abs" = none
  list : mg "list" = none
  str : mg "str" = none
  max : mg "max" = none
  dict : mg "dict" = none
  sum : mg "sum" = none
  sorted : mg "sorted" = none
theorem kb_front_steps_0_tape_asks {K : PySem.W.Frag} {f : Addr} {fd : FuncData} (F : Fun K "front_steps" "front_steps" s_front_steps f fd) : KBinds K fd ["tape", "asks"] ["tape", "asks"] (permG .none 0 2 [0, 1]) (permG .non 0 2 [0, 1]) :=
  Fun.kbinds F (by decide) fun _ _ _ _ _ _ us ws h1 h2 => match us, ws, h1, h2 with | [], [_, _], _, _ => rfl
theorem kb_is_tape_way_0_value_asks_tape {K : PySem.W.Frag} {f : Addr} {fd : FuncData} (F : Fun K "is_tape_way" "is_tape_way" s_is_tape_way f fd) : KBinds K fd ["tape", "asks", "value"] ["value", "asks", "tape"] (permG .none 0 3 [2, 1, 0]) (permG .non 0 3 [2, 1, 0]) :=
  Fun.kbinds F (by decide) fun _ _ _ _ _ _ us ws h1 h2 => match us, ws, h1, h2 with | [], [_, _, _], _, _ => rfl
theorem kb_tape_potentials_0_way_asks_tape {K : PySem.W.Frag} {f : Addr} {fd : FuncData} (F : Fun K "tape_potentials" "tape_potentials" s_tape_potentials f fd) : KBinds K fd ["tape", "asks", "way"] ["way", "asks", "tape"] (permG .none 0 3 [2, 1, 0]) (permG .non 0 3 [2, 1, 0]) :=
  Fun.kbinds F (by decide) fun _ _ _ _ _ _ us ws h1 h2 => match us, ws, h1, h2 with | [], [_, _, _], _, _ => rfl
theorem kb_way_costs_0_way_asks_tape {K : PySem.W.Frag} {f : Addr} {fd : FuncData} (F : Fun K "way_costs" "way_costs" s_way_costs f fd) : KBinds K fd ["tape", "asks", "way"] ["way", "asks", "tape"] (permG .none 0 3 [2, 1, 0]) (permG .non 0 3 [2, 1, 0]) :=
  Fun.kbinds F (by decide) fun _ _ _ _ _ _ us ws h1 h2 => match us, ws, h1, h2 with | [], [_, _, _], _, _ => rfl
end Law

set_option Elab.async false
set_option linter.all false
set_option maxRecDepth 100000
set_option maxHeartbeats 4000000
namespace Law
open PySem L2 DL
def t_is_integer : DTS := (dRet (dAndV (dB isiF (dCons (dVar 0) (dCons (dC (.ty "int")) dNil))) (dNotV (dB isiF (dCons (dVar 0) (dCons (dC (.ty "bool")) dNil))))))
@[irreducible] def S_is_integer : FS := fun δ W => ∃ (value : Int) (r : Bool), δ = [.fz (eI value)] ∧ m_is_integer value = some r ∧ W (.fz (eB r)) []
theorem mono_is_integer : FMono S_is_integer := by unfold S_is_integer; exact fun δ W W' h ⟨value, r, e1, e2, k⟩ => ⟨value, r, e1, e2, h _ _ k⟩
theorem len_is_integer : ∀ δ W, S_is_integer δ W → δ.length = 1 := by unfold S_is_integer; exact fun δ W ⟨value, r, e1, e2, k⟩ => by rw [e1]; rfl
theorem use_is_integer {value : Int} {r : Bool} {W : Sl → List Sl → Prop} (h : m_is_integer value = some r) (k : W (.fz (eB r)) []) : S_is_integer [.fz (eI value)] W := by unfold S_is_integer; exact ⟨value, r, rfl, h, k⟩
theorem sem_is_integer : ∀ δ W, δ.length = 1 → S_is_integer δ W → t_is_integer { nx := endD 0 W (.fz .non), rt := endD 0 W } (startD 1 δ) := by
  intro δ W _ h
  unfold S_is_integer at h
  obtain ⟨value, r, rfl, h, k⟩ := h
  refine run_def (t := t_is_integer) (s := .fz (eB r)) (outs := []) ?_ trivial rfl k
  show DL.Run t_is_integer [some (.fz (eI value))] _
  unfold t_is_integer
  unfold m_is_integer at h
  refine run_ret_and (b := true) (ev_b2 (r := .fz (.bl true)) (ev_fz (i := 0) rfl) ev_c rfl rfl (fun W w => f_isiC (b := true) rfl (by decide) (by decide) w)) rfl (fun hc => ?_) (fun hc => ?_)
  · have h := ite_f hc h
    cases h
    exact ⟨rfl, rfl⟩
  · have h := ite_t hc h
    exact run_ret_fz (d := eB (!false)) (ev_notV (b := false) (ev_b2 (r := .fz (.bl false)) (ev_fz (i := 0) rfl) ev_c rfl rfl (fun W w => f_isiC (b := false) rfl (by decide) (by decide) w)) rfl rfl) (by cases h; exact ⟨rfl, rfl⟩)
def t_is_number : DTS := (dRet (dAndV (dCall S_is_integer (dCons (dVar 0) dNil)) (dBin geF (dVar 0) (dC (.int 0)))))
@[irreducible] def S_is_number : FS := fun δ W => ∃ (value : Int) (r : Bool), δ = [.fz (eI value)] ∧ m_is_number value = some r ∧ W (.fz (eB r)) []
theorem mono_is_number : FMono S_is_number := by unfold S_is_number; exact fun δ W W' h ⟨value, r, e1, e2, k⟩ => ⟨value, r, e1, e2, h _ _ k⟩
theorem len_is_number : ∀ δ W, S_is_number δ W → δ.length = 1 := by unfold S_is_number; exact fun δ W ⟨value, r, e1, e2, k⟩ => by rw [e1]; rfl
theorem use_is_number {value : Int} {r : Bool} {W : Sl → List Sl → Prop} (h : m_is_number value = some r) (k : W (.fz (eB r)) []) : S_is_number [.fz (eI value)] W := by unfold S_is_number; exact ⟨value, r, rfl, h, k⟩
theorem sem_is_number : ∀ δ W, δ.length = 1 → S_is_number δ W → t_is_number { nx := endD 0 W (.fz .non), rt := endD 0 W } (startD 1 δ) := by
  intro δ W _ h
  unfold S_is_number at h
  obtain ⟨value, r, rfl, h, k⟩ := h
  refine run_def (t := t_is_number) (s := .fz (eB r)) (outs := []) ?_ trivial rfl k
  show DL.Run t_is_number [some (.fz (eI value))] _
  unfold t_is_number
  unfold m_is_number at h
  obtain ⟨r, h_r, h⟩ := bnd h
  refine run_ret_and (b := r) (ev_call (r := .fz (eB r)) (eva_cons (ev_fz (i := 0) rfl) eva_nil) (mv_cons rfl mv_nil) (fun W w => use_is_integer h_r w) rfl) rfl (fun hc => ?_) (fun hc => ?_)
  · have h := ite_f hc h
    cases h
    exact ⟨rfl, rfl⟩
  · have h := ite_t hc h
    exact run_ret_fz (d := eB (decide (value ≥ 0))) (ev_bin (r := .fz (.bl (decide (value ≥ 0)))) (ev_fz (i := 0) rfl) ev_c rfl rfl (fun W w => w)) (by cases h; exact ⟨rfl, rfl⟩)
def t_is_index : DTS := (dRet (dAndV (dCall S_is_number (dCons (dVar 0) dNil)) (dBin ltF (dVar 0) (dVar 1))))
@[irreducible] def S_is_index : FS := fun δ W => ∃ (value : Int) (many : Int) (r : Bool), δ = [.fz (eI value), .fz (eI many)] ∧ m_is_index value many = some r ∧ W (.fz (eB r)) []
theorem mono_is_index : FMono S_is_index := by unfold S_is_index; exact fun δ W W' h ⟨value, many, r, e1, e2, k⟩ => ⟨value, many, r, e1, e2, h _ _ k⟩
theorem len_is_index : ∀ δ W, S_is_index δ W → δ.length = 2 := by unfold S_is_index; exact fun δ W ⟨value, many, r, e1, e2, k⟩ => by rw [e1]; rfl
theorem use_is_index {value : Int} {many : Int} {r : Bool} {W : Sl → List Sl → Prop} (h : m_is_index value many = some r) (k : W (.fz (eB r)) []) : S_is_index [.fz (eI value), .fz (eI many)] W := by unfold S_is_index; exact ⟨value, many, r, rfl, h, k⟩
theorem sem_is_index : ∀ δ W, δ.length = 2 → S_is_index δ W → t_is_index { nx := endD 0 W (.fz .non), rt := endD 0 W } (startD 2 δ) := by
  intro δ W _ h
  unfold S_is_index at h
  obtain ⟨value, many, r, rfl, h, k⟩ := h
  refine run_def (t := t_is_index) (s := .fz (eB r)) (outs := []) ?_ trivial rfl k
  show DL.Run t_is_index [some (.fz (eI value)), some (.fz (eI many))] _
  unfold t_is_index
  unfold m_is_index at h
  obtain ⟨r, h_r, h⟩ := bnd h
  refine run_ret_and (b := r) (ev_call (r := .fz (eB r)) (eva_cons (ev_fz (i := 0) rfl) eva_nil) (mv_cons rfl mv_nil) (fun W w => use_is_number h_r w) rfl) rfl (fun hc => ?_) (fun hc => ?_)
  · have h := ite_f hc h
    cases h
    exact ⟨rfl, rfl⟩
  · have h := ite_t hc h
    exact run_ret_fz (d := eB (decide (value < many))) (ev_bin (r := .fz (.bl (decide (value < many)))) (ev_fz (i := 0) rfl) (ev_fz (i := 1) rfl) rfl rfl (fun W w => w)) (by cases h; exact ⟨rfl, rfl⟩)
def t_is_row_of : DTS := (dRet (dAndV (dB isiF (dCons (dVar 0) (dCons (dC (.ty "tuple")) dNil))) (dBin inF (dB lenF (dCons (dVar 0) dNil)) (dVar 1))))
@[irreducible] def S_is_row_of : FS := fun δ W => ∃ (value : Dv) (sizes : (List Int)) (r : Bool), δ = [.fz (eA value), .fz ((eT eI) sizes)] ∧ m_is_row_of value sizes = some r ∧ W (.fz (eB r)) []
theorem mono_is_row_of : FMono S_is_row_of := by unfold S_is_row_of; exact fun δ W W' h ⟨value, sizes, r, e1, e2, k⟩ => ⟨value, sizes, r, e1, e2, h _ _ k⟩
theorem len_is_row_of : ∀ δ W, S_is_row_of δ W → δ.length = 2 := by unfold S_is_row_of; exact fun δ W ⟨value, sizes, r, e1, e2, k⟩ => by rw [e1]; rfl
theorem use_is_row_of {value : Dv} {sizes : (List Int)} {r : Bool} {W : Sl → List Sl → Prop} (h : m_is_row_of value sizes = some r) (k : W (.fz (eB r)) []) : S_is_row_of [.fz (eA value), .fz ((eT eI) sizes)] W := by unfold S_is_row_of; exact ⟨value, sizes, r, rfl, h, k⟩
theorem sem_is_row_of : ∀ δ W, δ.length = 2 → S_is_row_of δ W → t_is_row_of { nx := endD 0 W (.fz .non), rt := endD 0 W } (startD 2 δ) := by
  intro δ W _ h
  unfold S_is_row_of at h
  obtain ⟨value, sizes, r, rfl, h, k⟩ := h
  refine run_def (t := t_is_row_of) (s := .fz (eB r)) (outs := []) ?_ trivial rfl k
  show DL.Run t_is_row_of [some (.fz (eA value)), some (.fz ((eT eI) sizes))] _
  unfold t_is_row_of
  unfold m_is_row_of at h
  obtain ⟨is, h_is, h⟩ := bnd h
  refine run_ret_and (b := is) (ev_b2 (r := .fz (.bl is)) (ev_fz (i := 0) rfl) ev_c rfl rfl (fun W w => f_isiA h_is (by decide) w)) rfl (fun hc => ?_) (fun hc => ?_)
  · have h := ite_f hc h
    cases h
    exact ⟨rfl, rfl⟩
  · have h := ite_t hc h
    obtain ⟨n, h_n, h⟩ := bnd h
    exact run_ret_fz (d := eB (decide (n ∈ sizes))) (ev_bin (r := .fz (.bl (decide (n ∈ sizes)))) (ev_b1 (r := .fz (.int n)) (ev_fz (i := 0) rfl) rfl (fun W w => f_lenA h_n w)) (ev_fz (i := 1) rfl) rfl rfl (fun W w => f_inT (e := eI) (x := n) (xs := sizes) (n := 60) eqe_int fl_int w)) (by cases h; exact ⟨rfl, rfl⟩)
def t_is_tape : DTS := (dSeq (dIf (dOr (dNot (dTru (dCall S_is_row_of (dCons (dVar 0) (dCons (dTup (dCons (dVar 1) dNil)) dNil))))) (dNot (dTru (dB allF (dCons (dLC (dSeqI (dVar 0)) (dName 2) (dTests []) (dCall S_is_index (dCons (dVar 2) (dCons (dVar 1) dNil))) [2]) dNil)))))
  (dRet (dC (.bl false)))
  dNext)
  (dRet (dBin eqF (dLenSet (dVar 0)) (dVar 1))))
@[irreducible] def S_is_tape : FS := fun δ W => ∃ (value : (List Int)) (many : Int) (r : Bool), δ = [.fz ((eT eI) value), .fz (eI many)] ∧ m_is_tape value many = some r ∧ W (.fz (eB r)) []
theorem mono_is_tape : FMono S_is_tape := by unfold S_is_tape; exact fun δ W W' h ⟨value, many, r, e1, e2, k⟩ => ⟨value, many, r, e1, e2, h _ _ k⟩
theorem len_is_tape : ∀ δ W, S_is_tape δ W → δ.length = 2 := by unfold S_is_tape; exact fun δ W ⟨value, many, r, e1, e2, k⟩ => by rw [e1]; rfl
theorem use_is_tape {value : (List Int)} {many : Int} {r : Bool} {W : Sl → List Sl → Prop} (h : m_is_tape value many = some r) (k : W (.fz (eB r)) []) : S_is_tape [.fz ((eT eI) value), .fz (eI many)] W := by unfold S_is_tape; exact ⟨value, many, r, rfl, h, k⟩
theorem sem_is_tape : ∀ δ W, δ.length = 2 → S_is_tape δ W → t_is_tape { nx := endD 0 W (.fz .non), rt := endD 0 W } (startD 3 δ) := by
  intro δ W _ h
  unfold S_is_tape at h
  obtain ⟨value, many, r, rfl, h, k⟩ := h
  refine run_def (t := t_is_tape) (s := .fz (eB r)) (outs := []) ?_ trivial rfl k
  show DL.Run t_is_tape [some (.fz ((eT eI) value)), some (.fz (eI many)), none] _
  unfold t_is_tape
  unfold m_is_tape at h
  obtain ⟨r, h_r, h⟩ := bnd h
  refine run_orS (evt_not (evt_tru (b := r) (ev_call (r := .fz (eB r)) (eva_cons (ev_fz (i := 0) rfl) (eva_cons (ev_tup (eva_cons (ev_fz (i := 1) rfl) eva_nil) rfl (Nat.le_of_ble_eq_true rfl)) eva_nil)) (mv_cons rfl (mv_cons rfl mv_nil)) (fun W w => use_is_row_of h_r w) rfl) rfl rfl)) (fun hc => ?_) (fun hc => ?_)
  · have h := ite_t hc h
    exact run_retS_fz (d := eB false) ev_c (by cases h; exact ⟨rfl, rfl⟩)
  · have h := ite_f hc h
    obtain ⟨l, h_l, h⟩ := bnd h
    refine run_ifS (evt_not (evt_tru (b := (l.all id)) (ev_b1 (r := .fz (.bl (l.all id))) (ev_comp (e := eI) (eo := eB) (ei_tup (xs := value) (e := eI) (ev_fz (i := 0) rfl) rfl) (pl_cons rfl pl_none pl_nil) h_l (fun x_ o_ _ h => by obtain ⟨one, rfl⟩ : ∃ z, z = x_ := ⟨_, rfl⟩; exact ⟨[some (.fz ((eT eI) value)), some (.fz (eI many)), some (.fz (eI one))], true, [some (.fz ((eT eI) value)), some (.fz (eI many)), some (.fz (eI one))], (evg_fz rfl), evt_nilT, (fun hc_ => by exact absurd hc_ (by decide)), (fun hc_ => by obtain ⟨r1, h_r1, h⟩ := bnd h; cases h; exact ⟨_, _, _, _, (ev_call (r := .fz (eB r1)) (eva_cons (ev_fz (i := 2) rfl) (eva_cons (ev_fz (i := 1) rfl) eva_nil)) (mv_cons rfl (mv_cons rfl mv_nil)) (fun W w => use_is_index h_r1 w) rfl), rfl, rfl, rfl⟩)⟩)) rfl (fun W w => f_all (bs := l) w)) rfl rfl)) (fun hc => ?_) (fun hc => ?_)
    · have h := ite_t hc h
      exact run_retS_fz (d := eB false) ev_c (by cases h; exact ⟨rfl, rfl⟩)
    · have h := ite_f hc h
      refine run_skip ?_
      obtain ⟨n, h_n, h⟩ := bnd h
      exact run_ret_fz (d := eB (decide (n = many))) (ev_bin (r := .fz (.bl (decide (n = many)))) (ev_lenSetT (ns := value) (ev_fz (i := 0) rfl) rfl h_n) (ev_fz (i := 1) rfl) rfl rfl (fun W w => f_eq (e := eI) (x := n) (y := many) eqe_int w)) (by cases h; exact ⟨rfl, rfl⟩)
def t_crossed : DTS := (dSeq (dSet 2 (dDC (dEnum (dCons (dVar 1) dNil)) (dUnp 2 (gsCons (dName 5) (gsCons (dName 4) gsNil))) (dTests []) (dVar 4) (dVar 5) [5, 4]))
  (dSeq (dSet 3 (dLC (dSeqI (dVar 0)) (dName 4) (dTests []) (dBin ixF (dVar 2) (dVar 4)) [4]))
  (dRet (dB lenF (dCons (dLC2 (dRng1 (dCons (dB lenF (dCons (dVar 3) dNil)) dNil)) (dName 5) (dTests []) (dRng2 (dCons (dBin addF (dVar 5) (dC (.int 1))) (dCons (dB lenF (dCons (dVar 3) dNil)) dNil))) (dName 6) (dTest (dBin gtF (dBin ixF (dVar 3) (dVar 5)) (dBin ixF (dVar 3) (dVar 6)))) (dC (.int 1)) [5, 6] [6]) dNil)))))
@[irreducible] def S_crossed : FS := fun δ W => ∃ (one : (List Int)) (other : (List Int)) (r : Int), δ = [.fz ((eT eI) one), .fz ((eT eI) other)] ∧ m_crossed one other = some r ∧ W (.fz (eI r)) []
theorem mono_crossed : FMono S_crossed := by unfold S_crossed; exact fun δ W W' h ⟨one, other, r, e1, e2, k⟩ => ⟨one, other, r, e1, e2, h _ _ k⟩
theorem len_crossed : ∀ δ W, S_crossed δ W → δ.length = 2 := by unfold S_crossed; exact fun δ W ⟨one, other, r, e1, e2, k⟩ => by rw [e1]; rfl
theorem use_crossed {one : (List Int)} {other : (List Int)} {r : Int} {W : Sl → List Sl → Prop} (h : m_crossed one other = some r) (k : W (.fz (eI r)) []) : S_crossed [.fz ((eT eI) one), .fz ((eT eI) other)] W := by unfold S_crossed; exact ⟨one, other, r, rfl, h, k⟩
theorem sem_crossed : ∀ δ W, δ.length = 2 → S_crossed δ W → t_crossed { nx := endD 0 W (.fz .non), rt := endD 0 W } (startD 7 δ) := by
  intro δ W _ h
  unfold S_crossed at h
  obtain ⟨one, other, r, rfl, h, k⟩ := h
  refine run_def (t := t_crossed) (s := .fz (eI r)) (outs := []) ?_ trivial rfl k
  show DL.Run t_crossed [some (.fz ((eT eI) one)), some (.fz ((eT eI) other)), none, none, none, none, none] _
  unfold t_crossed
  unfold m_crossed at h
  obtain ⟨l, h_l, h⟩ := bnd h
  obtain ⟨spot, h_spot, h⟩ := bnds h
  refine run_seq (δ1 := [some (.fz ((eT eI) one)), some (.fz ((eT eI) other)), some (.md (dKs spot) (dVs eI spot)), none, none, none, none]) (rund_set (Ev.as (ev_dcomp (ei := (eP eI eI)) (e := eI) (ei_enum (xs := other) (e := eI) (ev_fz (i := 1) rfl) rfl) (pl_cons rfl pl_none (pl_cons rfl pl_none pl_nil)) h_l (fun x_ o_ _ h => by obtain ⟨at_, block⟩ := x_; exact ⟨[some (.fz ((eT eI) one)), some (.fz ((eT eI) other)), none, none, some (.fz (eI block)), some (.fz (eI at_)), none], true, [some (.fz ((eT eI) one)), some (.fz ((eT eI) other)), none, none, some (.fz (eI block)), some (.fz (eI at_)), none], (evg_unpT rfl rfl (evgs_cons (evg_fz rfl) (evgs_cons (evg_fz rfl) evgs_nil))), evt_nilT, (fun hc_ => by exact absurd hc_ (by decide)), (fun hc_ => by cases h; exact ⟨_, _, _, _, _, _, _, (ev_fz (i := 4) rfl), rfl, (ev_fz (i := 5) rfl), rfl, rfl, rfl⟩)⟩)) (congrArg (fun z => Sl.md (dKs z) (dVs eI z)) h_spot)) (evg_md rfl)) ?_
  obtain ⟨l1, h_l1, h⟩ := bnd h
  refine run_seq (δ1 := [some (.fz ((eT eI) one)), some (.fz ((eT eI) other)), some (.md (dKs spot) (dVs eI spot)), some (.ml (List.map eI l1)), none, none, none]) (rund_set (ev_comp (e := eI) (eo := eI) (ei_tup (xs := one) (e := eI) (ev_fz (i := 0) rfl) rfl) (pl_cons rfl pl_none pl_nil) h_l1 (fun x_ o_ _ h => by obtain ⟨block1, rfl⟩ : ∃ z, z = x_ := ⟨_, rfl⟩; exact ⟨[some (.fz ((eT eI) one)), some (.fz ((eT eI) other)), some (.md (dKs spot) (dVs eI spot)), none, some (.fz (eI block1)), none, none], true, [some (.fz ((eT eI) one)), some (.fz ((eT eI) other)), some (.md (dKs spot) (dVs eI spot)), none, some (.fz (eI block1)), none, none], (evg_fz rfl), evt_nilT, (fun hc_ => by exact absurd hc_ (by decide)), (fun hc_ => by obtain ⟨it, h_it, h⟩ := bnd h; cases h; exact ⟨_, _, _, _, (ev_bin (r := .fz (eI it)) (ev_md (i := 2) rfl) (ev_fz (i := 4) rfl) rfl rfl (fun W w => f_ixD (e := eI) (d := spot) h_it w)), rfl, rfl, rfl⟩)⟩)) (evg_ml rfl)) ?_
  obtain ⟨r, h_r, h⟩ := bnd h
  obtain ⟨l2, h_l2, h⟩ := bnd h
  exact run_ret_fz (d := eI (l2.length : Int)) (ev_b1 (r := .fz (.int (l2.length : Int))) (ev_comp2 (e := eI) (f := eI) (ei_rng1 (ev_b1 (r := .fz (.int (l1.length : Int))) (ev_ml (i := 3) rfl) rfl (fun W w => f_lenL (e := eI) (xs := l1) w)) rfl h_r) (pl_cons rfl pl_none (pl_cons rfl pl_none pl_nil)) h_l2 (fun x_ ys_ _ h => by obtain ⟨at_1, rfl⟩ : ∃ z, z = x_ := ⟨_, rfl⟩; exact ⟨[some (.fz ((eT eI) one)), some (.fz ((eT eI) other)), some (.md (dKs spot) (dVs eI spot)), some (.ml (List.map eI l1)), none, some (.fz (eI at_1)), none], true, [some (.fz ((eT eI) one)), some (.fz ((eT eI) other)), some (.md (dKs spot) (dVs eI spot)), some (.ml (List.map eI l1)), none, some (.fz (eI at_1)), none], (evg_fz rfl), evt_nilT, (fun hc_ => by exact absurd hc_ (by decide)), (fun hc_ => by obtain ⟨r1, h_r1, h⟩ := bnd h; exact Inner.mk (e1 := eI) (f := eI) (ei_rng2 (ev_bin (r := .fz (.int (at_1 + 1))) (ev_fz (i := 5) rfl) ev_c rfl rfl (fun W w => w)) (ev_b1 (r := .fz (.int (l1.length : Int))) (ev_ml (i := 3) rfl) rfl (fun W w => f_lenL (e := eI) (xs := l1) w)) rfl rfl h_r1) rfl (pl_cons rfl pl_none pl_nil) h (fun x1_ o1_ _ h => by obtain ⟨later, rfl⟩ : ∃ z, z = x1_ := ⟨_, rfl⟩; obtain ⟨it1, h_it1, h⟩ := bnd h; obtain ⟨it2, h_it2, h⟩ := bnd h; exact ⟨[some (.fz ((eT eI) one)), some (.fz ((eT eI) other)), some (.md (dKs spot) (dVs eI spot)), some (.ml (List.map eI l1)), none, some (.fz (eI at_1)), some (.fz (eI later))], (decide (it1 > it2)), [some (.fz ((eT eI) one)), some (.fz ((eT eI) other)), some (.md (dKs spot) (dVs eI spot)), some (.ml (List.map eI l1)), none, some (.fz (eI at_1)), some (.fz (eI later))], (evg_fz rfl), (evt_test (b := (decide (it1 > it2))) (ev_bin (r := .fz (.bl (decide (it1 > it2)))) (ev_bin (r := .fz (eI it1)) (ev_ml (i := 3) rfl) (ev_fz (i := 5) rfl) rfl rfl (fun W w => f_ixL (e := eI) (xs := l1) h_it1 w)) (ev_bin (r := .fz (eI it2)) (ev_ml (i := 3) rfl) (ev_fz (i := 6) rfl) rfl rfl (fun W w => f_ixL (e := eI) (xs := l1) h_it2 w)) rfl rfl (fun W w => w)) rfl), (fun hc1_ => by have h := ite_f hc1_ h; cases h; exact ⟨rfl, rfl⟩), (fun hc1_ => by have h := ite_t hc1_ h; cases h; exact ⟨_, _, _, _, ev_c, rfl, rfl, rfl⟩)⟩))⟩)) rfl (fun W w => f_lenL (e := eI) (xs := l2) w)) (by cases h; exact ⟨rfl, rfl⟩)
def t_laid_ahead : DTS := (dSeq (dSet 3 (dLC (dSeqI (dVar 0)) (dName 4) (dTest (dBin neF (dVar 4) (dVar 1))) (dVar 4) [4]))
  (dRet (dB tupleF (dCons (dBin addF (dBin addF (dSl (dVar 3) dNoPart (dPart (dVar 2))) (dLst (dCons (dVar 1) dNil))) (dSl (dVar 3) (dPart (dVar 2)) dNoPart)) dNil))))
@[irreducible] def S_laid_ahead : FS := fun δ W => ∃ (tape : (List Int)) (block : Int) (place : Int) (r : (List Int)), δ = [.fz ((eT eI) tape), .fz (eI block), .fz (eI place)] ∧ m_laid_ahead tape block place = some r ∧ W (.fz ((eT eI) r)) []
theorem mono_laid_ahead : FMono S_laid_ahead := by unfold S_laid_ahead; exact fun δ W W' h ⟨tape, block, place, r, e1, e2, k⟩ => ⟨tape, block, place, r, e1, e2, h _ _ k⟩
theorem len_laid_ahead : ∀ δ W, S_laid_ahead δ W → δ.length = 3 := by unfold S_laid_ahead; exact fun δ W ⟨tape, block, place, r, e1, e2, k⟩ => by rw [e1]; rfl
theorem use_laid_ahead {tape : (List Int)} {block : Int} {place : Int} {r : (List Int)} {W : Sl → List Sl → Prop} (h : m_laid_ahead tape block place = some r) (k : W (.fz ((eT eI) r)) []) : S_laid_ahead [.fz ((eT eI) tape), .fz (eI block), .fz (eI place)] W := by unfold S_laid_ahead; exact ⟨tape, block, place, r, rfl, h, k⟩
theorem sem_laid_ahead : ∀ δ W, δ.length = 3 → S_laid_ahead δ W → t_laid_ahead { nx := endD 0 W (.fz .non), rt := endD 0 W } (startD 5 δ) := by
  intro δ W _ h
  unfold S_laid_ahead at h
  obtain ⟨tape, block, place, r, rfl, h, k⟩ := h
  refine run_def (t := t_laid_ahead) (s := .fz ((eT eI) r)) (outs := []) ?_ trivial rfl k
  show DL.Run t_laid_ahead [some (.fz ((eT eI) tape)), some (.fz (eI block)), some (.fz (eI place)), none, none] _
  unfold t_laid_ahead
  unfold m_laid_ahead at h
  obtain ⟨l, h_l, h⟩ := bnd h
  refine run_seq (δ1 := [some (.fz ((eT eI) tape)), some (.fz (eI block)), some (.fz (eI place)), some (.ml (List.map eI l)), none]) (rund_set (ev_comp (e := eI) (eo := eI) (ei_tup (xs := tape) (e := eI) (ev_fz (i := 0) rfl) rfl) (pl_cons rfl pl_none pl_nil) h_l (fun x_ o_ _ h => by obtain ⟨one, rfl⟩ : ∃ z, z = x_ := ⟨_, rfl⟩; exact ⟨[some (.fz ((eT eI) tape)), some (.fz (eI block)), some (.fz (eI place)), none, some (.fz (eI one))], (!decide (one = block)), [some (.fz ((eT eI) tape)), some (.fz (eI block)), some (.fz (eI place)), none, some (.fz (eI one))], (evg_fz rfl), (evt_test (b := (!decide (one = block))) (ev_bin (r := .fz (.bl (!decide (one = block)))) (ev_fz (i := 4) rfl) (ev_fz (i := 1) rfl) rfl rfl (fun W w => f_ne (e := eI) (x := one) (y := block) eqe_int w)) rfl), (fun hc_ => by have h := ite_f hc_ h; cases h; exact ⟨rfl, rfl⟩), (fun hc_ => by have h := ite_t hc_ h; cases h; exact ⟨_, _, _, _, (ev_fz (i := 4) rfl), rfl, rfl, rfl⟩)⟩)) (evg_ml rfl)) ?_
  obtain ⟨l1, h_l1, h⟩ := bnd h
  obtain ⟨l2, h_l2, h⟩ := bnd h
  exact run_ret_fz (d := (eT eI) l2) (ev_b1 (r := .fz (.tup (List.map eI l2))) (ev_bin (r := .ml (List.map eI l2)) (ev_bin (r := .ml (List.map eI l1)) (ev_sl (r := .ml (List.map eI (cut l none (some place)))) (ev_ml (i := 3) rfl) evo_none (evo_some (n := place) (ev_fz (i := 2) rfl) rfl) rfl (fun W w => f_slL (e := eI) (xs := l) w)) (ev_lst (eva_cons (ev_fz (i := 1) rfl) eva_nil) rfl (Nat.le_of_ble_eq_true rfl)) rfl rfl (fun W w => f_catL (e := eI) (xs := (cut l none (some place))) (ys := ([block] : (List Int))) h_l1 w)) (ev_sl (r := .ml (List.map eI (cut l (some place) none))) (ev_ml (i := 3) rfl) (evo_some (n := place) (ev_fz (i := 2) rfl) rfl) evo_none rfl (fun W w => f_slL (e := eI) (xs := l) w)) rfl rfl (fun W w => f_catL (e := eI) (xs := l1) (ys := (cut l (some place) none)) h_l2 w)) rfl (fun W w => w)) (by cases h; exact ⟨rfl, rfl⟩)
def t_is_tape_way : DTS := (dSeq (dIf (dNot (dTru (dCall S_is_row_of (dCons (dVar 2) (dCons (dTup (dCons (dB lenF (dCons (dVar 1) dNil)) dNil)) dNil)))))
  (dRet (dC (.bl false)))
  dNext)
  (dSeq (dFor (dZip (dCons (dVar 1) (dCons (dVar 2) dNil))) (dUnp 2 (gsCons (dName 3) (gsCons (dName 4) gsNil)))
  (dSeq (dIf (dOr (dNot (dTru (dCall S_is_row_of (dCons (dVar 4) (dCons (dTup (dCons (dC (.int 2)) dNil)) dNil))))) (dNot (dTru (dCall S_is_tape (dCons (dBin ixF (dVar 4) (dC (.int 0))) (dCons (dB lenF (dCons (dVar 0) dNil)) dNil))))))
  (dRet (dC (.bl false)))
  dNext)
  (dIf (dNot (dTru (dCall S_is_index (dCons (dBin ixF (dVar 4) (dC (.int 1))) (dCons (dBin addF (dMq indexL indexT (dBin ixF (dVar 4) (dC (.int 0))) (dCons (dVar 3) dNil)) (dC (.int 1))) dNil)))))
  (dRet (dC (.bl false)))
  dNext)))
  (dRet (dC (.bl true)))))
@[irreducible] def S_is_tape_way : FS := fun δ W => ∃ (tape : (List Int)) (asks : (List Int)) (value : (List ((List Int) × Int))) (r : Bool), δ = [.fz ((eT eI) tape), .fz ((eT eI) asks), .fz ((eT (eP (eT eI) eI)) value)] ∧ m_is_tape_way tape asks value = some r ∧ W (.fz (eB r)) []
theorem mono_is_tape_way : FMono S_is_tape_way := by unfold S_is_tape_way; exact fun δ W W' h ⟨tape, asks, value, r, e1, e2, k⟩ => ⟨tape, asks, value, r, e1, e2, h _ _ k⟩
theorem len_is_tape_way : ∀ δ W, S_is_tape_way δ W → δ.length = 3 := by unfold S_is_tape_way; exact fun δ W ⟨tape, asks, value, r, e1, e2, k⟩ => by rw [e1]; rfl
theorem use_is_tape_way {tape : (List Int)} {asks : (List Int)} {value : (List ((List Int) × Int))} {r : Bool} {W : Sl → List Sl → Prop} (h : m_is_tape_way tape asks value = some r) (k : W (.fz (eB r)) []) : S_is_tape_way [.fz ((eT eI) tape), .fz ((eT eI) asks), .fz ((eT (eP (eT eI) eI)) value)] W := by unfold S_is_tape_way; exact ⟨tape, asks, value, r, rfl, h, k⟩
theorem sem_is_tape_way : ∀ δ W, δ.length = 3 → S_is_tape_way δ W → t_is_tape_way { nx := endD 0 W (.fz .non), rt := endD 0 W } (startD 5 δ) := by
  intro δ W _ h
  unfold S_is_tape_way at h
  obtain ⟨tape, asks, value, r, rfl, h, k⟩ := h
  refine run_def (t := t_is_tape_way) (s := .fz (eB r)) (outs := []) ?_ trivial rfl k
  show DL.Run t_is_tape_way [some (.fz ((eT eI) tape)), some (.fz ((eT eI) asks)), some (.fz ((eT (eP (eT eI) eI)) value)), none, none] _
  unfold t_is_tape_way
  unfold m_is_tape_way at h
  obtain ⟨r, h_r, h⟩ := bnd h
  refine run_ifS (evt_not (evt_tru (b := r) (ev_call (r := .fz (eB r)) (eva_cons (ev_fz (i := 2) rfl) (eva_cons (ev_tup (eva_cons (ev_b1 (r := .fz (.int (asks.length : Int))) (ev_fz (i := 1) rfl) rfl (fun W w => f_lenT (e := eI) (xs := asks) w)) eva_nil) rfl (Nat.le_of_ble_eq_true rfl)) eva_nil)) (mv_cons rfl (mv_cons rfl mv_nil)) (fun W w => use_is_row_of h_r w) rfl) rfl rfl)) (fun hc => ?_) (fun hc => ?_)
  · have h := ite_t hc h
    exact run_retS_fz (d := eB false) ev_c (by cases h; exact ⟨rfl, rfl⟩)
  · have h := ite_f hc h
    refine run_skip ?_
    refine run_for (vec := (fun (s : Unit) δ => ∃ (j3 : Option Sl), ∃ (j4 : Option Sl), δ = [some (.fz ((eT eI) tape)), some (.fz ((eT eI) asks)), some (.fz ((eT (eP (eT eI) eI)) value)), j3, j4])) (RT := (fun (r : Bool) => RetP (.fz (eB r)) [])) (e := (eP eI (eP (eT eI) eI))) (ei_zip (xs := asks) (ys := value) (e := eI) (f := (eP (eT eI) eI)) (ev_fz (i := 1) rfl) (ev_fz (i := 2) rfl) rfl rfl) ⟨_, _, rfl⟩ h (fun x_ s_ s1_ δ_ _ hv h => ?_) (fun a_ fl_ δ_ e_ q_ => by cases e_; exact q_) (fun s_ δ_ hv h => ?_)
    · obtain ⟨block1, pair1⟩ := x_
      obtain ⟨⟩ := s_
      obtain ⟨o_, o_1, rfl⟩ := hv
      refine run_tg (δ1 := [some (.fz ((eT eI) tape)), some (.fz ((eT eI) asks)), some (.fz ((eT (eP (eT eI) eI)) value)), some (.fz (eI block1)), some (.fz ((eP (eT eI) eI) pair1))]) (evg_unpT rfl rfl (evgs_cons (evg_fz rfl) (evgs_cons (evg_fz rfl) evgs_nil))) ?_
      obtain ⟨r4, h_r4, h⟩ := bnd h
      refine run_orS (evt_not (evt_tru (b := r4) (ev_call (r := .fz (eB r4)) (eva_cons (ev_fz (i := 4) rfl) (eva_cons (ev_tup (eva_cons ev_c eva_nil) rfl (Nat.le_of_ble_eq_true rfl)) eva_nil)) (mv_cons rfl (mv_cons rfl mv_nil)) (fun W w => use_is_row_of h_r4 w) rfl) rfl rfl)) (fun hc => ?_) (fun hc => ?_)
      · have h := ite_t hc h
        exact run_retS_fz (d := eB false) ev_c (by cases h; exact ⟨⟨_, rfl⟩, rfl, rfl⟩)
      · have h := ite_f hc h
        obtain ⟨r5, h_r5, h⟩ := bnd h
        refine run_ifS (evt_not (evt_tru (b := r5) (ev_call (r := .fz (eB r5)) (eva_cons (ev_bin (r := .fz ((eT eI) pair1.1)) (ev_fz (i := 4) rfl) ev_c rfl rfl (fun W w => f_ixP rfl w)) (eva_cons (ev_b1 (r := .fz (.int (tape.length : Int))) (ev_fz (i := 0) rfl) rfl (fun W w => f_lenT (e := eI) (xs := tape) w)) eva_nil)) (mv_cons rfl (mv_cons rfl mv_nil)) (fun W w => use_is_tape h_r5 w) rfl) rfl rfl)) (fun hc => ?_) (fun hc => ?_)
        · have h := ite_t hc h
          exact run_retS_fz (d := eB false) ev_c (by cases h; exact ⟨⟨_, rfl⟩, rfl, rfl⟩)
        · have h := ite_f hc h
          refine run_skip ?_
          obtain ⟨at_1, h_at_1, h⟩ := bnd h
          obtain ⟨r6, h_r6, h⟩ := bnd h
          refine run_if (evt_not (evt_tru (b := r6) (ev_call (r := .fz (eB r6)) (eva_cons (ev_bin (r := .fz (eI pair1.2)) (ev_fz (i := 4) rfl) ev_c rfl rfl (fun W w => f_ixP rfl w)) (eva_cons (ev_bin (r := .fz (.int (at_1 + 1))) (ev_index (e := eI) (xs := pair1.1) (x := block1) eqe_int eqe_int (ev_bin (r := .fz ((eT eI) pair1.1)) (ev_fz (i := 4) rfl) ev_c rfl rfl (fun W w => f_ixP rfl w)) (.inr ⟨rfl, rfl⟩) (ev_fz (i := 3) rfl) rfl h_at_1) ev_c rfl rfl (fun W w => w)) eva_nil)) (mv_cons rfl (mv_cons rfl mv_nil)) (fun W w => use_is_index h_r6 w) rfl) rfl rfl)) (fun hc => ?_) (fun hc => ?_)
          · have h := ite_t hc h
            exact run_ret_fz (d := eB false) ev_c (by cases h; exact ⟨⟨_, rfl⟩, rfl, rfl⟩)
          · have h := ite_f hc h
            cases h
            exact run_nx ⟨.inl rfl, ⟨_, _, rfl⟩⟩
    · obtain ⟨⟩ := s_
      obtain ⟨o_2, o_3, rfl⟩ := hv
      exact run_ret_fz (d := eB true) ev_c (by cases h; exact ⟨rfl, rfl⟩)
def t_way_costs : DTS := (dSeq (dAsg (dTup (dCons (dC (.int 0)) (dCons (dC (.int 0)) (dCons (dC (.int 0)) (dCons (dB tupleF (dCons (dVar 0) dNil)) dNil))))) (dUnp 4 (gsCons (dName 3) (gsCons (dName 4) (gsCons (dName 5) (gsCons (dName 6) gsNil))))))
  (dSeq (dFor (dZip (dCons (dVar 1) (dCons (dVar 2) dNil))) (dUnp 2 (gsCons (dName 7) (gsCons (dUnp 2 (gsCons (dName 9) (gsCons (dName 10) gsNil))) gsNil)))
  (dSeq (dSet 8 (dMq indexL indexT (dVar 9) (dCons (dVar 7) dNil)))
  (dSeq (dSet 3 (dBin addF (dBin addF (dVar 3) (dVar 8)) (dC (.int 1))))
  (dSeq (dSet 4 (dBin addF (dVar 4) (dCall S_crossed (dCons (dVar 6) (dCons (dVar 9) dNil)))))
  (dSeq (dSet 5 (dBin subF (dBin addF (dVar 5) (dVar 8)) (dVar 10)))
  (dSet 6 (dCall S_laid_ahead (dCons (dVar 9) (dCons (dVar 7) (dCons (dVar 10) dNil))))))))))
  (dRet (dTup (dCons (dVar 3) (dCons (dVar 4) (dCons (dVar 5) dNil)))))))
@[irreducible] def S_way_costs : FS := fun δ W => ∃ (tape : (List Int)) (asks : (List Int)) (way : (List ((List Int) × Int))) (r : (Int × Int × Int)), δ = [.fz ((eT eI) tape), .fz ((eT eI) asks), .fz ((eT (eP (eT eI) eI)) way)] ∧ m_way_costs tape asks way = some r ∧ W (.fz ((eP3 eI eI eI) r)) []
theorem mono_way_costs : FMono S_way_costs := by unfold S_way_costs; exact fun δ W W' h ⟨tape, asks, way, r, e1, e2, k⟩ => ⟨tape, asks, way, r, e1, e2, h _ _ k⟩
theorem len_way_costs : ∀ δ W, S_way_costs δ W → δ.length = 3 := by unfold S_way_costs; exact fun δ W ⟨tape, asks, way, r, e1, e2, k⟩ => by rw [e1]; rfl
theorem use_way_costs {tape : (List Int)} {asks : (List Int)} {way : (List ((List Int) × Int))} {r : (Int × Int × Int)} {W : Sl → List Sl → Prop} (h : m_way_costs tape asks way = some r) (k : W (.fz ((eP3 eI eI eI) r)) []) : S_way_costs [.fz ((eT eI) tape), .fz ((eT eI) asks), .fz ((eT (eP (eT eI) eI)) way)] W := by unfold S_way_costs; exact ⟨tape, asks, way, r, rfl, h, k⟩
theorem sem_way_costs : ∀ δ W, δ.length = 3 → S_way_costs δ W → t_way_costs { nx := endD 0 W (.fz .non), rt := endD 0 W } (startD 11 δ) := by
  intro δ W _ h
  unfold S_way_costs at h
  obtain ⟨tape, asks, way, r, rfl, h, k⟩ := h
  refine run_def (t := t_way_costs) (s := .fz ((eP3 eI eI eI) r)) (outs := []) ?_ trivial rfl k
  show DL.Run t_way_costs [some (.fz ((eT eI) tape)), some (.fz ((eT eI) asks)), some (.fz ((eT (eP (eT eI) eI)) way)), none, none, none, none, none, none, none, none] _
  unfold t_way_costs
  unfold m_way_costs at h
  obtain ⟨t_, h_t_, h⟩ := bnds h
  refine run_seq (δ1 := [some (.fz ((eT eI) tape)), some (.fz ((eT eI) asks)), some (.fz ((eT (eP (eT eI) eI)) way)), some (.fz (eI t_.1)), some (.fz (eI t_.2.1)), some (.fz (eI t_.2.2.1)), some (.fz ((eT eI) t_.2.2.2)), none, none, none, none]) (rund_asg (Ev.as (ev_tup (eva_cons ev_c (eva_cons ev_c (eva_cons ev_c (eva_cons (ev_b1 (r := .fz (.tup (List.map eI tape))) (ev_fz (i := 0) rfl) rfl (fun W w => w)) eva_nil)))) rfl (Nat.le_of_ble_eq_true rfl)) (congrArg (fun z => Sl.fz ((eP4 eI eI eI (eT eI)) z)) h_t_)) (evg_unpT rfl rfl (evgs_cons (evg_fz rfl) (evgs_cons (evg_fz rfl) (evgs_cons (evg_fz rfl) (evgs_cons (evg_fz rfl) evgs_nil)))))) ?_
  refine run_foldS (vec := (fun (s : (Int × Int × Int × (List Int))) δ => ∃ (j7 : Option Sl), ∃ (j8 : Option Sl), ∃ (j9 : Option Sl), ∃ (j10 : Option Sl), δ = [some (.fz ((eT eI) tape)), some (.fz ((eT eI) asks)), some (.fz ((eT (eP (eT eI) eI)) way)), some (.fz (eI s.1)), some (.fz (eI s.2.1)), some (.fz (eI s.2.2.1)), some (.fz ((eT eI) s.2.2.2)), j7, j8, j9, j10])) (e := (eP eI (eP (eT eI) eI))) (ei_zip (xs := asks) (ys := way) (e := eI) (f := (eP (eT eI) eI)) (ev_fz (i := 1) rfl) (ev_fz (i := 2) rfl) rfl rfl) ⟨_, _, _, _, rfl⟩ h (fun x_ s_ s1_ δ_ _ hv h => ?_) (fun s_ δ_ hv h => ?_)
  · obtain ⟨block1, ⟨found1, place1⟩⟩ := x_
    obtain ⟨steps2, exchanges2, free2, lies1⟩ := s_
    obtain ⟨o_, o_1, o_2, o_3, rfl⟩ := hv
    refine run_tg (δ1 := [some (.fz ((eT eI) tape)), some (.fz ((eT eI) asks)), some (.fz ((eT (eP (eT eI) eI)) way)), some (.fz (eI steps2)), some (.fz (eI exchanges2)), some (.fz (eI free2)), some (.fz ((eT eI) lies1)), some (.fz (eI block1)), o_1, some (.fz ((eT eI) found1)), some (.fz (eI place1))]) (evg_unpT rfl rfl (evgs_cons (evg_fz rfl) (evgs_cons (evg_unpT rfl rfl (evgs_cons (evg_fz rfl) (evgs_cons (evg_fz rfl) evgs_nil))) evgs_nil))) ?_
    obtain ⟨at_1, h_at_1, h⟩ := bnd h
    refine run_seq (δ1 := [some (.fz ((eT eI) tape)), some (.fz ((eT eI) asks)), some (.fz ((eT (eP (eT eI) eI)) way)), some (.fz (eI steps2)), some (.fz (eI exchanges2)), some (.fz (eI free2)), some (.fz ((eT eI) lies1)), some (.fz (eI block1)), some (.fz (eI at_1)), some (.fz ((eT eI) found1)), some (.fz (eI place1))]) (rund_set (ev_index (e := eI) (xs := found1) (x := block1) eqe_int eqe_int (ev_fz (i := 9) rfl) (.inr ⟨rfl, rfl⟩) (ev_fz (i := 7) rfl) rfl h_at_1) (evg_fz rfl)) ?_
    obtain ⟨steps3, h_steps3, h⟩ := bnds h
    refine run_seq (δ1 := [some (.fz ((eT eI) tape)), some (.fz ((eT eI) asks)), some (.fz ((eT (eP (eT eI) eI)) way)), some (.fz (eI steps3)), some (.fz (eI exchanges2)), some (.fz (eI free2)), some (.fz ((eT eI) lies1)), some (.fz (eI block1)), some (.fz (eI at_1)), some (.fz ((eT eI) found1)), some (.fz (eI place1))]) (rund_set (Ev.as (ev_bin (r := .fz (.int ((steps2 + at_1) + 1))) (ev_bin (r := .fz (.int (steps2 + at_1))) (ev_fz (i := 3) rfl) (ev_fz (i := 8) rfl) rfl rfl (fun W w => w)) ev_c rfl rfl (fun W w => w)) (congrArg (fun z => Sl.fz (eI z)) h_steps3)) (evg_fz rfl)) ?_
    obtain ⟨r2, h_r2, h⟩ := bnd h
    obtain ⟨exchanges3, h_exchanges3, h⟩ := bnds h
    refine run_seq (δ1 := [some (.fz ((eT eI) tape)), some (.fz ((eT eI) asks)), some (.fz ((eT (eP (eT eI) eI)) way)), some (.fz (eI steps3)), some (.fz (eI exchanges3)), some (.fz (eI free2)), some (.fz ((eT eI) lies1)), some (.fz (eI block1)), some (.fz (eI at_1)), some (.fz ((eT eI) found1)), some (.fz (eI place1))]) (rund_set (Ev.as (ev_bin (r := .fz (.int (exchanges2 + r2))) (ev_fz (i := 4) rfl) (ev_call (r := .fz (eI r2)) (eva_cons (ev_fz (i := 6) rfl) (eva_cons (ev_fz (i := 9) rfl) eva_nil)) (mv_cons rfl (mv_cons rfl mv_nil)) (fun W w => use_crossed h_r2 w) rfl) rfl rfl (fun W w => w)) (congrArg (fun z => Sl.fz (eI z)) h_exchanges3)) (evg_fz rfl)) ?_
    obtain ⟨free3, h_free3, h⟩ := bnds h
    refine run_seq (δ1 := [some (.fz ((eT eI) tape)), some (.fz ((eT eI) asks)), some (.fz ((eT (eP (eT eI) eI)) way)), some (.fz (eI steps3)), some (.fz (eI exchanges3)), some (.fz (eI free3)), some (.fz ((eT eI) lies1)), some (.fz (eI block1)), some (.fz (eI at_1)), some (.fz ((eT eI) found1)), some (.fz (eI place1))]) (rund_set (Ev.as (ev_bin (r := .fz (.int ((free2 + at_1) - place1))) (ev_bin (r := .fz (.int (free2 + at_1))) (ev_fz (i := 5) rfl) (ev_fz (i := 8) rfl) rfl rfl (fun W w => w)) (ev_fz (i := 10) rfl) rfl rfl (fun W w => w)) (congrArg (fun z => Sl.fz (eI z)) h_free3)) (evg_fz rfl)) ?_
    obtain ⟨r3, h_r3, h⟩ := bnd h
    refine run_last (δ1 := [some (.fz ((eT eI) tape)), some (.fz ((eT eI) asks)), some (.fz ((eT (eP (eT eI) eI)) way)), some (.fz (eI steps3)), some (.fz (eI exchanges3)), some (.fz (eI free3)), some (.fz ((eT eI) r3)), some (.fz (eI block1)), some (.fz (eI at_1)), some (.fz ((eT eI) found1)), some (.fz (eI place1))]) (rund_set (ev_call (r := .fz ((eT eI) r3)) (eva_cons (ev_fz (i := 9) rfl) (eva_cons (ev_fz (i := 7) rfl) (eva_cons (ev_fz (i := 10) rfl) eva_nil))) (mv_cons rfl (mv_cons rfl (mv_cons rfl mv_nil))) (fun W w => use_laid_ahead h_r3 w) rfl) (evg_fz rfl)) ?_
    cases h
    exact ⟨.inl rfl, ⟨_, _, _, _, rfl⟩⟩
  · obtain ⟨steps4, exchanges4, free4, lies2⟩ := s_
    obtain ⟨o_4, o_5, o_6, o_7, rfl⟩ := hv
    exact run_ret_fz (d := (eP3 eI eI eI) (steps4, exchanges4, free4)) (ev_tup (eva_cons (ev_fz (i := 3) rfl) (eva_cons (ev_fz (i := 4) rfl) (eva_cons (ev_fz (i := 5) rfl) eva_nil))) rfl (Nat.le_of_ble_eq_true rfl)) (by cases h; exact ⟨rfl, rfl⟩)
def t_front_way : DTS := (dSeq (dPar 3 4 (dCons (dB tupleF (dCons (dVar 0) dNil)) (dCons (dLst dNil) dNil)))
  (dSeq (dFor (dSeqI (dVar 1)) (dName 2)
  (dSeq (dDrop (dMt appendM (dVar 4) (dCons (dTup (dCons (dVar 3) (dCons (dC (.int 0)) dNil))) dNil)))
  (dSet 3 (dCall S_laid_ahead (dCons (dVar 3) (dCons (dVar 2) (dCons (dC (.int 0)) dNil)))))))
  (dRet (dB tupleF (dCons (dVar 4) dNil)))))
@[irreducible] def S_front_way : FS := fun δ W => ∃ (tape : (List Int)) (asks : (List Int)) (r : (List ((List Int) × Int))), δ = [.fz ((eT eI) tape), .fz ((eT eI) asks)] ∧ m_front_way tape asks = some r ∧ W (.fz ((eT (eP (eT eI) eI)) r)) []
theorem mono_front_way : FMono S_front_way := by unfold S_front_way; exact fun δ W W' h ⟨tape, asks, r, e1, e2, k⟩ => ⟨tape, asks, r, e1, e2, h _ _ k⟩
theorem len_front_way : ∀ δ W, S_front_way δ W → δ.length = 2 := by unfold S_front_way; exact fun δ W ⟨tape, asks, r, e1, e2, k⟩ => by rw [e1]; rfl
theorem use_front_way {tape : (List Int)} {asks : (List Int)} {r : (List ((List Int) × Int))} {W : Sl → List Sl → Prop} (h : m_front_way tape asks = some r) (k : W (.fz ((eT (eP (eT eI) eI)) r)) []) : S_front_way [.fz ((eT eI) tape), .fz ((eT eI) asks)] W := by unfold S_front_way; exact ⟨tape, asks, r, rfl, h, k⟩
theorem sem_front_way : ∀ δ W, δ.length = 2 → S_front_way δ W → t_front_way { nx := endD 0 W (.fz .non), rt := endD 0 W } (startD 5 δ) := by
  intro δ W _ h
  unfold S_front_way at h
  obtain ⟨tape, asks, r, rfl, h, k⟩ := h
  refine run_def (t := t_front_way) (s := .fz ((eT (eP (eT eI) eI)) r)) (outs := []) ?_ trivial rfl k
  show DL.Run t_front_way [some (.fz ((eT eI) tape)), some (.fz ((eT eI) asks)), none, none, none] _
  unfold t_front_way
  unfold m_front_way at h
  refine run_seq (δ1 := [some (.fz ((eT eI) tape)), some (.fz ((eT eI) asks)), none, some (.fz ((eT eI) tape)), some (.ml (List.map (eP (eT eI) eI) ([] : (List ((List Int) × Int)))))]) (rund_parE (a2 := ((.fz ((eT eI) tape)))) (b2 := ((.ml (List.map (eP (eT eI) eI) ([] : (List ((List Int) × Int))))))) (δ3 := [some (.fz ((eT eI) tape)), some (.fz ((eT eI) asks)), none, some (.fz ((eT eI) tape)), some (.ml (List.map (eP (eT eI) eI) ([] : (List ((List Int) × Int)))))]) (eva_cons (ev_b1 (r := .fz (.tup (List.map eI tape))) (ev_fz (i := 0) rfl) rfl (fun W w => w)) (eva_cons (ev_lst (ds := []) eva_nil rfl (Nat.zero_le _)) eva_nil)) rfl rfl rfl rfl) ?_
  refine run_foldS (vec := (fun (s : ((List Int) × (List ((List Int) × Int)))) δ => ∃ (j2 : Option Sl), δ = [some (.fz ((eT eI) tape)), some (.fz ((eT eI) asks)), j2, some (.fz ((eT eI) s.1)), some (.ml (List.map (eP (eT eI) eI) s.2))])) (e := eI) (ei_tup (xs := asks) (e := eI) (ev_fz (i := 1) rfl) rfl) ⟨_, rfl⟩ h (fun x_ s_ s1_ δ_ _ hv h => ?_) (fun s_ δ_ hv h => ?_)
  · obtain ⟨block1, rfl⟩ : ∃ z, z = x_ := ⟨_, rfl⟩
    obtain ⟨lies1, found2⟩ := s_
    obtain ⟨o_, rfl⟩ := hv
    refine run_tg (δ1 := [some (.fz ((eT eI) tape)), some (.fz ((eT eI) asks)), some (.fz (eI block1)), some (.fz ((eT eI) lies1)), some (.ml (List.map (eP (eT eI) eI) found2))]) (evg_fz rfl) ?_
    obtain ⟨found3, h_found3, h⟩ := bnd h
    refine run_seq (δ1 := [some (.fz ((eT eI) tape)), some (.fz ((eT eI) asks)), some (.fz (eI block1)), some (.fz ((eT eI) lies1)), some (.ml (List.map (eP (eT eI) eI) found3))]) (rund_drop (ev_append (k := 4) (ds := List.map (eP (eT eI) eI) found2) (d := (eP (eT eI) eI) (lies1, 0)) (δ4 := [some (.fz ((eT eI) tape)), some (.fz ((eT eI) asks)), some (.fz (eI block1)), some (.fz ((eT eI) lies1)), some (.ml (List.map (eP (eT eI) eI) found3))]) (ev_ml (i := 4) rfl) (by exact True.intro) (ev_tup (eva_cons (ev_fz (i := 3) rfl) (eva_cons ev_c eva_nil)) rfl (Nat.le_of_ble_eq_true rfl)) rfl rfl (app_lt h_found3) (app_eq (e := (eP (eT eI) eI)) h_found3 rfl))) ?_
    obtain ⟨r1, h_r1, h⟩ := bnd h
    refine run_last (δ1 := [some (.fz ((eT eI) tape)), some (.fz ((eT eI) asks)), some (.fz (eI block1)), some (.fz ((eT eI) r1)), some (.ml (List.map (eP (eT eI) eI) found3))]) (rund_set (ev_call (r := .fz ((eT eI) r1)) (eva_cons (ev_fz (i := 3) rfl) (eva_cons (ev_fz (i := 2) rfl) (eva_cons ev_c eva_nil))) (mv_cons rfl (mv_cons rfl (mv_cons rfl mv_nil))) (fun W w => use_laid_ahead h_r1 w) rfl) (evg_fz rfl)) ?_
    cases h
    exact ⟨.inl rfl, ⟨_, rfl⟩⟩
  · obtain ⟨lies2, found4⟩ := s_
    obtain ⟨o_1, rfl⟩ := hv
    exact run_ret_fz (d := (eT (eP (eT eI) eI)) found4) (ev_b1 (r := .fz (.tup (List.map (eP (eT eI) eI) found4))) (ev_ml (i := 4) rfl) rfl (fun W w => w)) (by cases h; exact ⟨rfl, rfl⟩)
def t_front_steps : DTS := (dRet (dBin ixF (dCall S_way_costs (dCons (dVar 0) (dCons (dVar 1) (dCons (dCall S_front_way (dCons (dVar 0) (dCons (dVar 1) dNil))) dNil)))) (dC (.int 0))))
@[irreducible] def S_front_steps : FS := fun δ W => ∃ (tape : (List Int)) (asks : (List Int)) (r : Int), δ = [.fz ((eT eI) tape), .fz ((eT eI) asks)] ∧ m_front_steps tape asks = some r ∧ W (.fz (eI r)) []
theorem mono_front_steps : FMono S_front_steps := by unfold S_front_steps; exact fun δ W W' h ⟨tape, asks, r, e1, e2, k⟩ => ⟨tape, asks, r, e1, e2, h _ _ k⟩
theorem len_front_steps : ∀ δ W, S_front_steps δ W → δ.length = 2 := by unfold S_front_steps; exact fun δ W ⟨tape, asks, r, e1, e2, k⟩ => by rw [e1]; rfl
theorem use_front_steps {tape : (List Int)} {asks : (List Int)} {r : Int} {W : Sl → List Sl → Prop} (h : m_front_steps tape asks = some r) (k : W (.fz (eI r)) []) : S_front_steps [.fz ((eT eI) tape), .fz ((eT eI) asks)] W := by unfold S_front_steps; exact ⟨tape, asks, r, rfl, h, k⟩
theorem sem_front_steps : ∀ δ W, δ.length = 2 → S_front_steps δ W → t_front_steps { nx := endD 0 W (.fz .non), rt := endD 0 W } (startD 2 δ) := by
  intro δ W _ h
  unfold S_front_steps at h
  obtain ⟨tape, asks, r, rfl, h, k⟩ := h
  refine run_def (t := t_front_steps) (s := .fz (eI r)) (outs := []) ?_ trivial rfl k
  show DL.Run t_front_steps [some (.fz ((eT eI) tape)), some (.fz ((eT eI) asks))] _
  unfold t_front_steps
  unfold m_front_steps at h
  obtain ⟨r, h_r, h⟩ := bnd h
  obtain ⟨r1, h_r1, h⟩ := bnd h
  exact run_ret_fz (d := eI r1.1) (ev_bin (r := .fz (eI r1.1)) (ev_call (r := .fz ((eP3 eI eI eI) r1)) (eva_cons (ev_fz (i := 0) rfl) (eva_cons (ev_fz (i := 1) rfl) (eva_cons (ev_call (r := .fz ((eT (eP (eT eI) eI)) r)) (eva_cons (ev_fz (i := 0) rfl) (eva_cons (ev_fz (i := 1) rfl) eva_nil)) (mv_cons rfl (mv_cons rfl mv_nil)) (fun W w => use_front_way h_r w) rfl) eva_nil))) (mv_cons rfl (mv_cons rfl (mv_cons rfl mv_nil))) (fun W w => use_way_costs h_r1 w) rfl) ev_c rfl rfl (fun W w => f_ixP rfl w)) (by cases h; exact ⟨rfl, rfl⟩)
def t_tape_potentials : DTS := (dSeq (dPar 3 4 (dCons (dB tupleF (dCons (dVar 0) dNil)) (dCons (dLst (dCons (dC (.int 0)) dNil)) dNil)))
  (dSeq (dFor (dZip (dCons (dVar 1) (dCons (dVar 2) dNil))) (dUnp 2 (gsCons (dName 5) (gsCons (dUnp 2 (gsCons (dName 6) (gsCons (dName 7) gsNil))) gsNil)))
  (dSeq (dSet 3 (dCall S_laid_ahead (dCons (dVar 3) (dCons (dVar 5) (dCons (dC (.int 0)) dNil)))))
  (dDrop (dMt appendM (dVar 4) (dCons (dCall S_crossed (dCons (dVar 3) (dCons (dCall S_laid_ahead (dCons (dVar 6) (dCons (dVar 5) (dCons (dVar 7) dNil)))) dNil))) dNil)))))
  (dRet (dB tupleF (dCons (dVar 4) dNil)))))
@[irreducible] def S_tape_potentials : FS := fun δ W => ∃ (tape : (List Int)) (asks : (List Int)) (way : (List ((List Int) × Int))) (r : (List Int)), δ = [.fz ((eT eI) tape), .fz ((eT eI) asks), .fz ((eT (eP (eT eI) eI)) way)] ∧ m_tape_potentials tape asks way = some r ∧ W (.fz ((eT eI) r)) []
theorem mono_tape_potentials : FMono S_tape_potentials := by unfold S_tape_potentials; exact fun δ W W' h ⟨tape, asks, way, r, e1, e2, k⟩ => ⟨tape, asks, way, r, e1, e2, h _ _ k⟩
theorem len_tape_potentials : ∀ δ W, S_tape_potentials δ W → δ.length = 3 := by unfold S_tape_potentials; exact fun δ W ⟨tape, asks, way, r, e1, e2, k⟩ => by rw [e1]; rfl
theorem use_tape_potentials {tape : (List Int)} {asks : (List Int)} {way : (List ((List Int) × Int))} {r : (List Int)} {W : Sl → List Sl → Prop} (h : m_tape_potentials tape asks way = some r) (k : W (.fz ((eT eI) r)) []) : S_tape_potentials [.fz ((eT eI) tape), .fz ((eT eI) asks), .fz ((eT (eP (eT eI) eI)) way)] W := by unfold S_tape_potentials; exact ⟨tape, asks, way, r, rfl, h, k⟩
theorem sem_tape_potentials : ∀ δ W, δ.length = 3 → S_tape_potentials δ W → t_tape_potentials { nx := endD 0 W (.fz .non), rt := endD 0 W } (startD 8 δ) := by
  intro δ W _ h
  unfold S_tape_potentials at h
  obtain ⟨tape, asks, way, r, rfl, h, k⟩ := h
  refine run_def (t := t_tape_potentials) (s := .fz ((eT eI) r)) (outs := []) ?_ trivial rfl k
  show DL.Run t_tape_potentials [some (.fz ((eT eI) tape)), some (.fz ((eT eI) asks)), some (.fz ((eT (eP (eT eI) eI)) way)), none, none, none, none, none] _
  unfold t_tape_potentials
  unfold m_tape_potentials at h
  obtain ⟨found, h_found, h⟩ := bnds h
  refine run_seq (δ1 := [some (.fz ((eT eI) tape)), some (.fz ((eT eI) asks)), some (.fz ((eT (eP (eT eI) eI)) way)), some (.fz ((eT eI) tape)), some (.ml (List.map eI found)), none, none, none]) (rund_parE (a2 := ((.fz ((eT eI) tape)))) (b2 := ((.ml (List.map eI found)))) (δ3 := [some (.fz ((eT eI) tape)), some (.fz ((eT eI) asks)), some (.fz ((eT (eP (eT eI) eI)) way)), some (.fz ((eT eI) tape)), some (.ml (List.map eI found)), none, none, none]) (eva_cons (ev_b1 (r := .fz (.tup (List.map eI tape))) (ev_fz (i := 0) rfl) rfl (fun W w => w)) (eva_cons (ev_lst (eva_cons ev_c eva_nil) rfl (Nat.le_of_ble_eq_true rfl)) eva_nil)) rfl rfl (congrArg (fun z => Sl.ml (List.map eI z)) h_found) rfl) ?_
  refine run_foldS (vec := (fun (s : ((List Int) × (List Int))) δ => ∃ (j5 : Option Sl), ∃ (j6 : Option Sl), ∃ (j7 : Option Sl), δ = [some (.fz ((eT eI) tape)), some (.fz ((eT eI) asks)), some (.fz ((eT (eP (eT eI) eI)) way)), some (.fz ((eT eI) s.1)), some (.ml (List.map eI s.2)), j5, j6, j7])) (e := (eP eI (eP (eT eI) eI))) (ei_zip (xs := asks) (ys := way) (e := eI) (f := (eP (eT eI) eI)) (ev_fz (i := 1) rfl) (ev_fz (i := 2) rfl) rfl rfl) ⟨_, _, _, rfl⟩ h (fun x_ s_ s1_ δ_ _ hv h => ?_) (fun s_ δ_ hv h => ?_)
  · obtain ⟨block1, ⟨other1, place1⟩⟩ := x_
    obtain ⟨lies1, found3⟩ := s_
    obtain ⟨o_, o_1, o_2, rfl⟩ := hv
    refine run_tg (δ1 := [some (.fz ((eT eI) tape)), some (.fz ((eT eI) asks)), some (.fz ((eT (eP (eT eI) eI)) way)), some (.fz ((eT eI) lies1)), some (.ml (List.map eI found3)), some (.fz (eI block1)), some (.fz ((eT eI) other1)), some (.fz (eI place1))]) (evg_unpT rfl rfl (evgs_cons (evg_fz rfl) (evgs_cons (evg_unpT rfl rfl (evgs_cons (evg_fz rfl) (evgs_cons (evg_fz rfl) evgs_nil))) evgs_nil))) ?_
    obtain ⟨r3, h_r3, h⟩ := bnd h
    refine run_seq (δ1 := [some (.fz ((eT eI) tape)), some (.fz ((eT eI) asks)), some (.fz ((eT (eP (eT eI) eI)) way)), some (.fz ((eT eI) r3)), some (.ml (List.map eI found3)), some (.fz (eI block1)), some (.fz ((eT eI) other1)), some (.fz (eI place1))]) (rund_set (ev_call (r := .fz ((eT eI) r3)) (eva_cons (ev_fz (i := 3) rfl) (eva_cons (ev_fz (i := 5) rfl) (eva_cons ev_c eva_nil))) (mv_cons rfl (mv_cons rfl (mv_cons rfl mv_nil))) (fun W w => use_laid_ahead h_r3 w) rfl) (evg_fz rfl)) ?_
    obtain ⟨r4, h_r4, h⟩ := bnd h
    obtain ⟨r5, h_r5, h⟩ := bnd h
    obtain ⟨found4, h_found4, h⟩ := bnd h
    refine run_last (δ1 := [some (.fz ((eT eI) tape)), some (.fz ((eT eI) asks)), some (.fz ((eT (eP (eT eI) eI)) way)), some (.fz ((eT eI) r3)), some (.ml (List.map eI found4)), some (.fz (eI block1)), some (.fz ((eT eI) other1)), some (.fz (eI place1))]) (rund_drop (ev_append (k := 4) (ds := List.map eI found3) (d := eI r5) (δ4 := [some (.fz ((eT eI) tape)), some (.fz ((eT eI) asks)), some (.fz ((eT (eP (eT eI) eI)) way)), some (.fz ((eT eI) r3)), some (.ml (List.map eI found4)), some (.fz (eI block1)), some (.fz ((eT eI) other1)), some (.fz (eI place1))]) (ev_ml (i := 4) rfl) (by exact True.intro) (ev_call (r := .fz (eI r5)) (eva_cons (ev_fz (i := 3) rfl) (eva_cons (ev_call (r := .fz ((eT eI) r4)) (eva_cons (ev_fz (i := 6) rfl) (eva_cons (ev_fz (i := 5) rfl) (eva_cons (ev_fz (i := 7) rfl) eva_nil))) (mv_cons rfl (mv_cons rfl (mv_cons rfl mv_nil))) (fun W w => use_laid_ahead h_r4 w) rfl) eva_nil)) (mv_cons rfl (mv_cons rfl mv_nil)) (fun W w => use_crossed h_r5 w) rfl) rfl rfl (app_lt h_found4) (app_eq (e := eI) h_found4 rfl))) ?_
    cases h
    exact ⟨.inl rfl, ⟨_, _, _, rfl⟩⟩
  · obtain ⟨lies2, found5⟩ := s_
    obtain ⟨o_3, o_4, o_5, rfl⟩ := hv
    exact run_ret_fz (d := (eT eI) found5) (ev_b1 (r := .fz (.tup (List.map eI found5))) (ev_ml (i := 4) rfl) rfl (fun W w => w)) (by cases h; exact ⟨rfl, rfl⟩)
def t_law_asks : DTS := (dSeq (dPar3 5 6 7 (dCons (dCallM S_law_any (dCons (dVar 0) (dCons (dBin addF (dVar 2) (dC (.int 1))) dNil))) (dCons (dCallM S_law_any (dCons (dVar 0) (dCons (dC (.int 5)) dNil))) (dCons (dLst dNil) dNil))))
  (dSeq (dSet 3 (dRgL .ml (dCons (dVar 1) dNil)))
  (dSeq (dFor (dRng1 (dCons (dVar 5) dNil)) (dName 4)
  (dIf (dTest (dBin eqF (dVar 6) (dC (.int 1))))
  (dDrop (dMt appendM (dVar 7) (dCons (dBin subF (dVar 4) (dBin mulF (dBin fdivF (dVar 4) (dVar 1)) (dVar 1))) dNil)))
  (dIf (dAnd (dTest (dBin eqF (dVar 6) (dC (.int 2)))) (dAnd (dTest (dBin neF (dVar 7) (dLst dNil))) (dTest (dBin gtF (dCallM S_law_any (dCons (dVar 0) (dCons (dC (.int 3)) dNil))) (dC (.int 0))))))
  (dDrop (dMt appendM (dVar 7) (dCons (dBin ixF (dVar 7) (dB maxF (dCons (dC (.int 0)) (dCons (dBin subF (dBin subF (dB lenF (dCons (dVar 7) dNil)) (dC (.int 1))) (dCallM S_law_any (dCons (dVar 0) (dCons (dC (.int 6)) dNil)))) dNil)))) dNil)))
  (dIf (dAnd (dTest (dBin eqF (dVar 6) (dC (.int 3)))) (dTest (dBin gtF (dB lenF (dCons (dVar 3) dNil)) (dC (.int 0)))))
  (dSeq (dIf (dTest (dBin eqF (dCallM S_law_any (dCons (dVar 0) (dCons (dC (.int 8)) dNil))) (dC (.int 0))))
  (dSet 3 (dSl (dCallM S_law_mixed (dCons (dVar 0) (dCons (dRgL .ml (dCons (dVar 1) dNil)) dNil))) dNoPart (dPart (dBin addF (dC (.int 1)) (dCallM S_law_any (dCons (dVar 0) (dCons (dVar 1) dNil)))))))
  dNext)
  (dDrop (dMt appendM (dVar 7) (dCons (dCallM S_law_of (dCons (dVar 0) (dCons (dVar 3) dNil))) dNil))))
  (dDrop (dMt appendM (dVar 7) (dCons (dCallM S_law_any (dCons (dVar 0) (dCons (dVar 1) dNil))) dNil)))))))
  (dRet (dB tupleF (dCons (dVar 7) dNil))))))
@[irreducible] def S_law_asks : FS := fun δ W => ∃ (deal_ : Deal) (pages : Int) (most : Int) (r : (List Int)) (d' : Deal), δ = [.deal deal_, .fz (eI pages), .fz (eI most)] ∧ m_law_asks deal_ pages most = some (r, d') ∧ W (.fz ((eT eI) r)) [.deal d']
theorem mono_law_asks : FMono S_law_asks := by unfold S_law_asks; exact fun δ W W' h ⟨deal_, pages, most, r, d', e1, e2, k⟩ => ⟨deal_, pages, most, r, d', e1, e2, h _ _ k⟩
theorem len_law_asks : ∀ δ W, S_law_asks δ W → δ.length = 3 := by unfold S_law_asks; exact fun δ W ⟨deal_, pages, most, r, d', e1, e2, k⟩ => by rw [e1]; rfl
theorem use_law_asks {deal_ : Deal} {pages : Int} {most : Int} {r : (List Int)} {d' : Deal} {W : Sl → List Sl → Prop} (h : m_law_asks deal_ pages most = some (r, d')) (k : W (.fz ((eT eI) r)) [.deal d']) : S_law_asks [.deal deal_, .fz (eI pages), .fz (eI most)] W := by unfold S_law_asks; exact ⟨deal_, pages, most, r, d', rfl, h, k⟩
theorem sem_law_asks : ∀ δ W, δ.length = 3 → S_law_asks δ W → t_law_asks { nx := endD 1 W (.fz .non), rt := endD 1 W } (startD 8 δ) := by
  intro δ W _ h
  unfold S_law_asks at h
  obtain ⟨deal_, pages, most, r, d', rfl, h, k⟩ := h
  refine run_def (t := t_law_asks) (s := .fz ((eT eI) r)) (outs := [.deal d']) ?_ trivial rfl k
  show DL.Run t_law_asks [some (.deal deal_), some (.fz (eI pages)), some (.fz (eI most)), none, none, none, none, none] _
  unfold t_law_asks
  unfold m_law_asks at h
  obtain ⟨⟨v, deal_1⟩, h_v, h⟩ := bnd h
  obtain ⟨⟨v1, deal_2⟩, h_v1, h⟩ := bnd h
  refine run_seq (δ1 := [some (.deal deal_2), some (.fz (eI pages)), some (.fz (eI most)), none, none, some (.fz (eI v)), some (.fz (eI v1)), some (.ml (List.map eI ([] : (List Int))))]) (rund_par3E (a2 := ((.fz (eI v)))) (b2 := ((.fz (eI v1)))) (c2 := ((.ml (List.map eI ([] : (List Int)))))) (δ3 := [some (.deal deal_2), some (.fz (eI pages)), some (.fz (eI most)), none, none, some (.fz (eI v)), some (.fz (eI v1)), some (.ml (List.map eI ([] : (List Int))))]) (eva_cons (ev_callM (k := 0) (r := .fz (.int v)) (w := .deal deal_1) (δ2 := [some (.deal deal_1), some (.fz (eI pages)), some (.fz (eI most)), none, none, none, none, none]) (eva_cons (ev_dl (i := 0) rfl) (eva_cons (ev_bin (r := .fz (.int (most + 1))) (ev_fz (i := 2) rfl) ev_c rfl rfl (fun W w => w)) eva_nil)) rfl (mv_cons rfl mv_nil) rfl (fun W w => use_any h_v w) rfl rfl) (eva_cons (ev_callM (k := 0) (r := .fz (.int v1)) (w := .deal deal_2) (δ2 := [some (.deal deal_2), some (.fz (eI pages)), some (.fz (eI most)), none, none, none, none, none]) (eva_cons (ev_dl (i := 0) rfl) (eva_cons ev_c eva_nil)) rfl (mv_cons rfl mv_nil) rfl (fun W w => use_any h_v1 w) rfl rfl) (eva_cons (ev_lst (ds := []) eva_nil rfl (Nat.zero_le _)) eva_nil))) rfl rfl rfl rfl rfl) ?_
  obtain ⟨r, h_r, h⟩ := bnd h
  refine run_seq (δ1 := [some (.deal deal_2), some (.fz (eI pages)), some (.fz (eI most)), some (.ml (List.map eI r)), none, some (.fz (eI v)), some (.fz (eI v1)), some (.ml (List.map eI ([] : (List Int))))]) (rund_set (ev_lrg1 (ev_fz (i := 1) rfl) rfl h_r) (evg_ml rfl)) ?_
  obtain ⟨r1, h_r1, h⟩ := bnd h
  refine run_foldS (vec := (fun (s : (Deal × (List Int) × (List Int))) δ => ∃ (j4 : Option Sl), δ = [some (.deal s.1), some (.fz (eI pages)), some (.fz (eI most)), some (.ml (List.map eI s.2.1)), j4, some (.fz (eI v)), some (.fz (eI v1)), some (.ml (List.map eI s.2.2))])) (e := eI) (ei_rng1 (ev_fz (i := 5) rfl) rfl h_r1) ⟨_, rfl⟩ h (fun x_ s_ s1_ δ_ _ hv h => ?_) (fun s_ δ_ hv h => ?_)
  · obtain ⟨time_1, rfl⟩ : ∃ z, z = x_ := ⟨_, rfl⟩
    obtain ⟨deal_11, some_2, found3⟩ := s_
    obtain ⟨o_, rfl⟩ := hv
    refine run_tg (δ1 := [some (.deal deal_11), some (.fz (eI pages)), some (.fz (eI most)), some (.ml (List.map eI some_2)), some (.fz (eI time_1)), some (.fz (eI v)), some (.fz (eI v1)), some (.ml (List.map eI found3))]) (evg_fz rfl) ?_
    refine run_if (evt_test (b := (decide (v1 = 1))) (ev_bin (r := .fz (.bl (decide (v1 = 1)))) (ev_fz (i := 6) rfl) ev_c rfl rfl (fun W w => f_eq (e := eI) (x := v1) (y := 1) eqe_int w)) rfl) (fun hc => ?_) (fun hc => ?_)
    · have h := ite_t hc h
      obtain ⟨n2, h_n2, h⟩ := bnd h
      obtain ⟨n3, h_n3, h⟩ := bnd h
      obtain ⟨found4, h_found4, h⟩ := bnd h
      refine run_last (δ1 := [some (.deal deal_11), some (.fz (eI pages)), some (.fz (eI most)), some (.ml (List.map eI some_2)), some (.fz (eI time_1)), some (.fz (eI v)), some (.fz (eI v1)), some (.ml (List.map eI found4))]) (rund_drop (ev_append (k := 7) (ds := List.map eI found3) (d := eI (time_1 - n3)) (δ4 := [some (.deal deal_11), some (.fz (eI pages)), some (.fz (eI most)), some (.ml (List.map eI some_2)), some (.fz (eI time_1)), some (.fz (eI v)), some (.fz (eI v1)), some (.ml (List.map eI found4))]) (ev_ml (i := 7) rfl) (by exact True.intro) (ev_bin (r := .fz (.int (time_1 - n3))) (ev_fz (i := 4) rfl) (ev_bin (r := .fz (.int n3)) (ev_bin (r := .fz (.int n2)) (ev_fz (i := 4) rfl) (ev_fz (i := 1) rfl) rfl rfl (fun W w => f_div h_n2 w)) (ev_fz (i := 1) rfl) rfl rfl (fun W w => f_mul h_n3 w)) rfl rfl (fun W w => w)) rfl rfl (app_lt h_found4) (app_eq (e := eI) h_found4 rfl))) ?_
      cases h
      exact ⟨.inl rfl, ⟨_, rfl⟩⟩
    · have h := ite_f hc h
      obtain ⟨⟨c3, deal_14⟩, h_c3, h⟩ := bnd h
      refine run_if (evt_andS (b := (decide (v1 = 2))) (δ2 := [some (.deal deal_14), some (.fz (eI pages)), some (.fz (eI most)), some (.ml (List.map eI some_2)), some (.fz (eI time_1)), some (.fz (eI v)), some (.fz (eI v1)), some (.ml (List.map eI found3))]) (evt_test (b := (decide (v1 = 2))) (ev_bin (r := .fz (.bl (decide (v1 = 2)))) (ev_fz (i := 6) rfl) ev_c rfl rfl (fun W w => f_eq (e := eI) (x := v1) (y := 2) eqe_int w)) rfl) h_c3 (fun h => by have q_ := Prod.mk.inj (Option.some.inj h); exact ⟨by rw [q_.2], q_.1.symm⟩) (fun h => by obtain ⟨⟨c2, deal_13⟩, h_c2, h⟩ := bnd h; have q_ := Prod.mk.inj (Option.some.inj h); exact EvT.as2 (evt_andS (b := (!decide (found3 = ([] : (List Int))))) (δ2 := [some (.deal deal_13), some (.fz (eI pages)), some (.fz (eI most)), some (.ml (List.map eI some_2)), some (.fz (eI time_1)), some (.fz (eI v)), some (.fz (eI v1)), some (.ml (List.map eI found3))]) (evt_test (b := (!decide (found3 = ([] : (List Int))))) (ev_bin (r := .fz (.bl (!decide (found3 = ([] : (List Int)))))) (ev_ml (i := 7) rfl) (ev_lst (ds := []) eva_nil rfl (Nat.zero_le _)) rfl rfl (fun W w => f_ne (e := (eL eI)) (x := found3) (y := ([] : (List Int))) (eqe_lst eqe_int) w)) rfl) h_c2 (fun h => by have q_ := Prod.mk.inj (Option.some.inj h); exact ⟨by rw [q_.2], q_.1.symm⟩) (fun h => by obtain ⟨⟨v7, deal_12⟩, h_v7, h⟩ := bnd h; have q_ := Prod.mk.inj (Option.some.inj h); exact EvT.as2 (evt_test (b := (decide (v7 > 0))) (ev_bin (r := .fz (.bl (decide (v7 > 0)))) (ev_callM (k := 0) (r := .fz (.int v7)) (w := .deal deal_12) (δ2 := [some (.deal deal_12), some (.fz (eI pages)), some (.fz (eI most)), some (.ml (List.map eI some_2)), some (.fz (eI time_1)), some (.fz (eI v)), some (.fz (eI v1)), some (.ml (List.map eI found3))]) (eva_cons (ev_dl (i := 0) rfl) (eva_cons ev_c eva_nil)) rfl (mv_cons rfl mv_nil) rfl (fun W w => use_any h_v7 w) rfl rfl) ev_c rfl rfl (fun W w => w)) rfl) q_.1 (by rw [q_.2]))) q_.1 (by rw [q_.2]))) (fun hc => ?_) (fun hc => ?_)
      · have h := ite_t hc h
        obtain ⟨⟨v8, deal_15⟩, h_v8, h⟩ := bnd h
        obtain ⟨it1, h_it1, h⟩ := bnd h
        obtain ⟨found5, h_found5, h⟩ := bnd h
        refine run_last (δ1 := [some (.deal deal_15), some (.fz (eI pages)), some (.fz (eI most)), some (.ml (List.map eI some_2)), some (.fz (eI time_1)), some (.fz (eI v)), some (.fz (eI v1)), some (.ml (List.map eI found5))]) (rund_drop (ev_append (k := 7) (ds := List.map eI found3) (d := eI it1) (δ4 := [some (.deal deal_15), some (.fz (eI pages)), some (.fz (eI most)), some (.ml (List.map eI some_2)), some (.fz (eI time_1)), some (.fz (eI v)), some (.fz (eI v1)), some (.ml (List.map eI found5))]) (ev_ml (i := 7) rfl) (by exact True.intro) (ev_bin (r := .fz (eI it1)) (ev_ml (i := 7) rfl) (ev_b2 (r := .fz (.int (max 0 (((found3.length : Int) - 1) - v8)))) ev_c (ev_bin (r := .fz (.int (((found3.length : Int) - 1) - v8))) (ev_bin (r := .fz (.int ((found3.length : Int) - 1))) (ev_b1 (r := .fz (.int (found3.length : Int))) (ev_ml (i := 7) rfl) rfl (fun W w => f_lenL (e := eI) (xs := found3) w)) ev_c rfl rfl (fun W w => w)) (ev_callM (k := 0) (r := .fz (.int v8)) (w := .deal deal_15) (δ2 := [some (.deal deal_15), some (.fz (eI pages)), some (.fz (eI most)), some (.ml (List.map eI some_2)), some (.fz (eI time_1)), some (.fz (eI v)), some (.fz (eI v1)), some (.ml (List.map eI found3))]) (eva_cons (ev_dl (i := 0) rfl) (eva_cons ev_c eva_nil)) rfl (mv_cons rfl mv_nil) rfl (fun W w => use_any h_v8 w) rfl rfl) rfl rfl (fun W w => w)) rfl rfl (fun W w => f_max2 w)) rfl rfl (fun W w => f_ixL (e := eI) (xs := found3) h_it1 w)) rfl rfl (app_lt h_found5) (app_eq (e := eI) h_found5 rfl))) ?_
        cases h
        exact ⟨.inl rfl, ⟨_, rfl⟩⟩
      · have h := ite_f hc h
        refine run_if (evt_and (evt_test (b := (decide (v1 = 3))) (ev_bin (r := .fz (.bl (decide (v1 = 3)))) (ev_fz (i := 6) rfl) ev_c rfl rfl (fun W w => f_eq (e := eI) (x := v1) (y := 3) eqe_int w)) rfl) (evt_test (b := (decide ((some_2.length : Int) > 0))) (ev_bin (r := .fz (.bl (decide ((some_2.length : Int) > 0)))) (ev_b1 (r := .fz (.int (some_2.length : Int))) (ev_ml (i := 3) rfl) rfl (fun W w => f_lenL (e := eI) (xs := some_2) w)) ev_c rfl rfl (fun W w => w)) rfl)) (fun hc => ?_) (fun hc => ?_)
        · have h := ite_t hc h
          obtain ⟨⟨v9, deal_16⟩, h_v9, h⟩ := bnd h
          obtain ⟨⟨deal_19, some_4⟩, hj, h⟩ := bnd h
          refine run_thru (vec := fun δ => δ = [some (.deal deal_19), some (.fz (eI pages)), some (.fz (eI most)), some (.ml (List.map eI some_4)), some (.fz (eI time_1)), some (.fz (eI v)), some (.fz (eI v1)), some (.ml (List.map eI found3))]) (run_if (evt_test (b := (decide (v9 = 0))) (ev_bin (r := .fz (.bl (decide (v9 = 0)))) (ev_callM (k := 0) (r := .fz (.int v9)) (w := .deal deal_16) (δ2 := [some (.deal deal_16), some (.fz (eI pages)), some (.fz (eI most)), some (.ml (List.map eI some_2)), some (.fz (eI time_1)), some (.fz (eI v)), some (.fz (eI v1)), some (.ml (List.map eI found3))]) (eva_cons (ev_dl (i := 0) rfl) (eva_cons ev_c eva_nil)) rfl (mv_cons rfl mv_nil) rfl (fun W w => use_any h_v9 w) rfl rfl) ev_c rfl rfl (fun W w => f_eq (e := eI) (x := v9) (y := 0) eqe_int w)) rfl) (fun hc => ?_) (fun hc => ?_)) (fun δ_ hv => ?_)
          · have h := ite_t hc hj
            obtain ⟨r3, h_r3, h⟩ := bnd h
            obtain ⟨⟨v10, deal_17⟩, h_v10, h⟩ := bnd h
            obtain ⟨⟨v11, deal_18⟩, h_v11, h⟩ := bnd h
            obtain ⟨some_3, h_some_3, h⟩ := bnds h
            refine run_last (δ1 := [some (.deal deal_18), some (.fz (eI pages)), some (.fz (eI most)), some (.ml (List.map eI some_3)), some (.fz (eI time_1)), some (.fz (eI v)), some (.fz (eI v1)), some (.ml (List.map eI found3))]) (rund_set (Ev.as (ev_sl (r := .ml (List.map eI (cut v10 none (some (1 + v11))))) (ev_callM (k := 0) (r := .ml (List.map eI v10)) (w := .deal deal_17) (δ2 := [some (.deal deal_17), some (.fz (eI pages)), some (.fz (eI most)), some (.ml (List.map eI some_2)), some (.fz (eI time_1)), some (.fz (eI v)), some (.fz (eI v1)), some (.ml (List.map eI found3))]) (eva_cons (ev_dl (i := 0) rfl) (eva_cons (ev_lrg1 (ev_fz (i := 1) rfl) rfl h_r3) eva_nil)) rfl (mv_cons rfl mv_nil) rfl (fun W w => use_mixedT (e := eI) (xs := r3) (ys := v10) eqe_int h_v10 w) rfl rfl) evo_none (evo_some (n := (1 + v11)) (ev_bin (r := .fz (.int (1 + v11))) ev_c (ev_callM (k := 0) (r := .fz (.int v11)) (w := .deal deal_18) (δ2 := [some (.deal deal_18), some (.fz (eI pages)), some (.fz (eI most)), some (.ml (List.map eI some_2)), some (.fz (eI time_1)), some (.fz (eI v)), some (.fz (eI v1)), some (.ml (List.map eI found3))]) (eva_cons (ev_dl (i := 0) rfl) (eva_cons (ev_fz (i := 1) rfl) eva_nil)) rfl (mv_cons rfl mv_nil) rfl (fun W w => use_any h_v11 w) rfl rfl) rfl rfl (fun W w => w)) rfl) rfl (fun W w => f_slL (e := eI) (xs := v10) w)) (congrArg (fun z => Sl.ml (List.map eI z)) h_some_3)) (evg_ml rfl)) ?_
            cases h
            exact ⟨rfl, rfl⟩
          · have h := ite_f hc hj
            cases h
            exact run_nx ⟨rfl, rfl⟩
          obtain ⟨rfl⟩ := hv
          obtain ⟨⟨v12, deal_20⟩, h_v12, h⟩ := bnd h
          obtain ⟨found6, h_found6, h⟩ := bnd h
          refine run_last (δ1 := [some (.deal deal_20), some (.fz (eI pages)), some (.fz (eI most)), some (.ml (List.map eI some_4)), some (.fz (eI time_1)), some (.fz (eI v)), some (.fz (eI v1)), some (.ml (List.map eI found6))]) (rund_drop (ev_append (k := 7) (ds := List.map eI found3) (d := eI v12) (δ4 := [some (.deal deal_20), some (.fz (eI pages)), some (.fz (eI most)), some (.ml (List.map eI some_4)), some (.fz (eI time_1)), some (.fz (eI v)), some (.fz (eI v1)), some (.ml (List.map eI found6))]) (ev_ml (i := 7) rfl) (by exact True.intro) (ev_callM (k := 0) (r := .fz (eI v12)) (w := .deal deal_20) (δ2 := [some (.deal deal_20), some (.fz (eI pages)), some (.fz (eI most)), some (.ml (List.map eI some_4)), some (.fz (eI time_1)), some (.fz (eI v)), some (.fz (eI v1)), some (.ml (List.map eI found3))]) (eva_cons (ev_dl (i := 0) rfl) (eva_cons (ev_ml (i := 3) rfl) eva_nil)) rfl (mv_cons rfl mv_nil) rfl (fun W w => use_ofT (e := eI) (xs := some_4) (x := v12) h_v12 w) (hn_fzM (nl_int _)) rfl) rfl rfl (app_lt h_found6) (app_eq (e := eI) h_found6 rfl))) ?_
          cases h
          exact ⟨.inl rfl, ⟨_, rfl⟩⟩
        · have h := ite_f hc h
          obtain ⟨⟨v13, deal_21⟩, h_v13, h⟩ := bnd h
          obtain ⟨found7, h_found7, h⟩ := bnd h
          refine run_last (δ1 := [some (.deal deal_21), some (.fz (eI pages)), some (.fz (eI most)), some (.ml (List.map eI some_2)), some (.fz (eI time_1)), some (.fz (eI v)), some (.fz (eI v1)), some (.ml (List.map eI found7))]) (rund_drop (ev_append (k := 7) (ds := List.map eI found3) (d := eI v13) (δ4 := [some (.deal deal_21), some (.fz (eI pages)), some (.fz (eI most)), some (.ml (List.map eI some_2)), some (.fz (eI time_1)), some (.fz (eI v)), some (.fz (eI v1)), some (.ml (List.map eI found7))]) (ev_ml (i := 7) rfl) (by exact True.intro) (ev_callM (k := 0) (r := .fz (.int v13)) (w := .deal deal_21) (δ2 := [some (.deal deal_21), some (.fz (eI pages)), some (.fz (eI most)), some (.ml (List.map eI some_2)), some (.fz (eI time_1)), some (.fz (eI v)), some (.fz (eI v1)), some (.ml (List.map eI found3))]) (eva_cons (ev_dl (i := 0) rfl) (eva_cons (ev_fz (i := 1) rfl) eva_nil)) rfl (mv_cons rfl mv_nil) rfl (fun W w => use_any h_v13 w) rfl rfl) rfl rfl (app_lt h_found7) (app_eq (e := eI) h_found7 rfl))) ?_
          cases h
          exact ⟨.inl rfl, ⟨_, rfl⟩⟩
  · obtain ⟨deal_22, some_5, found8⟩ := s_
    obtain ⟨o_1, rfl⟩ := hv
    exact run_ret_fz (d := (eT eI) found8) (ev_b1 (r := .fz (.tup (List.map eI found8))) (ev_ml (i := 7) rfl) rfl (fun W w => w)) (by cases h; exact ⟨rfl, rfl⟩)
end Law

set_option Elab.async false
set_option linter.all false
set_option maxRecDepth 100000
set_option maxHeartbeats 4000000
namespace Law
open PySem L2 DL
def t_law_ahead : DTS := (dSeq (dSet 3 (dLC (dSeqI (dVar 0)) (dName 4) (dTest (dBin neF (dVar 4) (dVar 1))) (dVar 4) [4]))
  (dRet (dB tupleF (dCons (dBin addF (dBin addF (dSl (dVar 3) dNoPart (dPart (dVar 2))) (dLst (dCons (dVar 1) dNil))) (dSl (dVar 3) (dPart (dVar 2)) dNoPart)) dNil))))
@[irreducible] def S_law_ahead : FS := fun δ W => ∃ (tape : (List Int)) (block : Int) (place : Int) (r : (List Int)), δ = [.fz ((eT eI) tape), .fz (eI block), .fz (eI place)] ∧ m_law_ahead tape block place = some r ∧ W (.fz ((eT eI) r)) []
theorem mono_law_ahead : FMono S_law_ahead := by unfold S_law_ahead; exact fun δ W W' h ⟨tape, block, place, r, e1, e2, k⟩ => ⟨tape, block, place, r, e1, e2, h _ _ k⟩
theorem len_law_ahead : ∀ δ W, S_law_ahead δ W → δ.length = 3 := by unfold S_law_ahead; exact fun δ W ⟨tape, block, place, r, e1, e2, k⟩ => by rw [e1]; rfl
theorem use_law_ahead {tape : (List Int)} {block : Int} {place : Int} {r : (List Int)} {W : Sl → List Sl → Prop} (h : m_law_ahead tape block place = some r) (k : W (.fz ((eT eI) r)) []) : S_law_ahead [.fz ((eT eI) tape), .fz (eI block), .fz (eI place)] W := by unfold S_law_ahead; exact ⟨tape, block, place, r, rfl, h, k⟩
theorem sem_law_ahead : ∀ δ W, δ.length = 3 → S_law_ahead δ W → t_law_ahead { nx := endD 0 W (.fz .non), rt := endD 0 W } (startD 5 δ) := by
  intro δ W _ h
  unfold S_law_ahead at h
  obtain ⟨tape, block, place, r, rfl, h, k⟩ := h
  refine run_def (t := t_law_ahead) (s := .fz ((eT eI) r)) (outs := []) ?_ trivial rfl k
  show DL.Run t_law_ahead [some (.fz ((eT eI) tape)), some (.fz (eI block)), some (.fz (eI place)), none, none] _
  unfold t_law_ahead
  unfold m_law_ahead at h
  obtain ⟨l, h_l, h⟩ := bnd h
  refine run_seq (δ1 := [some (.fz ((eT eI) tape)), some (.fz (eI block)), some (.fz (eI place)), some (.ml (List.map eI l)), none]) (rund_set (ev_comp (e := eI) (eo := eI) (ei_tup (xs := tape) (e := eI) (ev_fz (i := 0) rfl) rfl) (pl_cons rfl pl_none pl_nil) h_l (fun x_ o_ _ h => by obtain ⟨one, rfl⟩ : ∃ z, z = x_ := ⟨_, rfl⟩; exact ⟨[some (.fz ((eT eI) tape)), some (.fz (eI block)), some (.fz (eI place)), none, some (.fz (eI one))], (!decide (one = block)), [some (.fz ((eT eI) tape)), some (.fz (eI block)), some (.fz (eI place)), none, some (.fz (eI one))], (evg_fz rfl), (evt_test (b := (!decide (one = block))) (ev_bin (r := .fz (.bl (!decide (one = block)))) (ev_fz (i := 4) rfl) (ev_fz (i := 1) rfl) rfl rfl (fun W w => f_ne (e := eI) (x := one) (y := block) eqe_int w)) rfl), (fun hc_ => by have h := ite_f hc_ h; cases h; exact ⟨rfl, rfl⟩), (fun hc_ => by have h := ite_t hc_ h; cases h; exact ⟨_, _, _, _, (ev_fz (i := 4) rfl), rfl, rfl, rfl⟩)⟩)) (evg_ml rfl)) ?_
  obtain ⟨l1, h_l1, h⟩ := bnd h
  obtain ⟨l2, h_l2, h⟩ := bnd h
  exact run_ret_fz (d := (eT eI) l2) (ev_b1 (r := .fz (.tup (List.map eI l2))) (ev_bin (r := .ml (List.map eI l2)) (ev_bin (r := .ml (List.map eI l1)) (ev_sl (r := .ml (List.map eI (cut l none (some place)))) (ev_ml (i := 3) rfl) evo_none (evo_some (n := place) (ev_fz (i := 2) rfl) rfl) rfl (fun W w => f_slL (e := eI) (xs := l) w)) (ev_lst (eva_cons (ev_fz (i := 1) rfl) eva_nil) rfl (Nat.le_of_ble_eq_true rfl)) rfl rfl (fun W w => f_catL (e := eI) (xs := (cut l none (some place))) (ys := ([block] : (List Int))) h_l1 w)) (ev_sl (r := .ml (List.map eI (cut l (some place) none))) (ev_ml (i := 3) rfl) (evo_some (n := place) (ev_fz (i := 2) rfl) rfl) evo_none rfl (fun W w => f_slL (e := eI) (xs := l) w)) rfl rfl (fun W w => f_catL (e := eI) (xs := l1) (ys := (cut l (some place) none)) h_l2 w)) rfl (fun W w => w)) (by cases h; exact ⟨rfl, rfl⟩)
def t_law_crossed : DTS := (dSeq (dAsg (dTup (dCons (dB dictF (dCons (dLC (dEnum (dCons (dVar 1) dNil)) (dUnp 2 (gsCons (dName 4) (gsCons (dName 5) gsNil))) (dTests []) (dTup (dCons (dVar 5) (dCons (dVar 4) dNil))) [4, 5]) dNil)) (dCons (dC (.int 0)) dNil))) (dUnp 2 (gsCons (dName 2) (gsCons (dName 3) gsNil))))
  (dSeq (dFor (dEnum (dCons (dVar 0) dNil)) (dUnp 2 (gsCons (dName 4) (gsCons (dName 5) gsNil)))
  (dSet 3 (dBin addF (dVar 3) (dB lenF (dCons (dLC (dSeqI (dSl (dVar 0) dNoPart (dPart (dVar 4)))) (dName 6) (dTest (dBin gtF (dBin ixF (dVar 2) (dVar 6)) (dBin ixF (dVar 2) (dVar 5)))) (dVar 6) [6]) dNil)))))
  (dRet (dVar 3))))
@[irreducible] def S_law_crossed : FS := fun δ W => ∃ (one : (List Int)) (other : (List Int)) (r : Int), δ = [.fz ((eT eI) one), .fz ((eT eI) other)] ∧ m_law_crossed one other = some r ∧ W (.fz (eI r)) []
theorem mono_law_crossed : FMono S_law_crossed := by unfold S_law_crossed; exact fun δ W W' h ⟨one, other, r, e1, e2, k⟩ => ⟨one, other, r, e1, e2, h _ _ k⟩
theorem len_law_crossed : ∀ δ W, S_law_crossed δ W → δ.length = 2 := by unfold S_law_crossed; exact fun δ W ⟨one, other, r, e1, e2, k⟩ => by rw [e1]; rfl
theorem use_law_crossed {one : (List Int)} {other : (List Int)} {r : Int} {W : Sl → List Sl → Prop} (h : m_law_crossed one other = some r) (k : W (.fz (eI r)) []) : S_law_crossed [.fz ((eT eI) one), .fz ((eT eI) other)] W := by unfold S_law_crossed; exact ⟨one, other, r, rfl, h, k⟩
theorem sem_law_crossed : ∀ δ W, δ.length = 2 → S_law_crossed δ W → t_law_crossed { nx := endD 0 W (.fz .non), rt := endD 0 W } (startD 7 δ) := by
  intro δ W _ h
  unfold S_law_crossed at h
  obtain ⟨one, other, r, rfl, h, k⟩ := h
  refine run_def (t := t_law_crossed) (s := .fz (eI r)) (outs := []) ?_ trivial rfl k
  show DL.Run t_law_crossed [some (.fz ((eT eI) one)), some (.fz ((eT eI) other)), none, none, none, none, none] _
  unfold t_law_crossed
  unfold m_law_crossed at h
  obtain ⟨l, h_l, h⟩ := bnd h
  obtain ⟨t_, h_t_, h⟩ := bnds h
  refine run_seq (δ1 := [some (.fz ((eT eI) one)), some (.fz ((eT eI) other)), some (.fz ((eD eI) t_.1)), some (.fz (eI t_.2)), none, none, none]) (rund_asg (Ev.as (ev_tup (eva_cons (ev_b1 (r := .md (dKs (tMerge [] l)) (dVs eI (tMerge [] l))) (ev_comp (e := (eP eI eI)) (eo := (eP eI eI)) (ei_enum (xs := other) (e := eI) (ev_fz (i := 1) rfl) rfl) (pl_cons rfl pl_none (pl_cons rfl pl_none pl_nil)) h_l (fun x_ o_ _ h => by obtain ⟨at_, block⟩ := x_; exact ⟨[some (.fz ((eT eI) one)), some (.fz ((eT eI) other)), none, none, some (.fz (eI at_)), some (.fz (eI block)), none], true, [some (.fz ((eT eI) one)), some (.fz ((eT eI) other)), none, none, some (.fz (eI at_)), some (.fz (eI block)), none], (evg_unpT rfl rfl (evgs_cons (evg_fz rfl) (evgs_cons (evg_fz rfl) evgs_nil))), evt_nilT, (fun hc_ => by exact absurd hc_ (by decide)), (fun hc_ => by cases h; exact ⟨_, _, _, _, (ev_tup (eva_cons (ev_fz (i := 5) rfl) (eva_cons (ev_fz (i := 4) rfl) eva_nil)) rfl (Nat.le_of_ble_eq_true rfl)), rfl, rfl, rfl⟩)⟩)) rfl (fun W w => f_dict (e := eI) (d := l) w)) (eva_cons ev_c eva_nil)) rfl (Nat.le_of_ble_eq_true rfl)) (congrArg (fun z => Sl.fz ((eP (eD eI) eI) z)) h_t_)) (evg_unpT rfl rfl (evgs_cons (evg_fz rfl) (evgs_cons (evg_fz rfl) evgs_nil)))) ?_
  refine run_foldS (vec := (fun (s : Int) δ => ∃ (j4 : Option Sl), ∃ (j5 : Option Sl), pl j4 ∧ pl j5 ∧ δ = [some (.fz ((eT eI) one)), some (.fz ((eT eI) other)), some (.fz ((eD eI) t_.1)), some (.fz (eI s)), j4, j5, none])) (e := (eP eI eI)) (ei_enum (xs := one) (e := eI) (ev_fz (i := 0) rfl) rfl) ⟨_, _, pl_none, pl_none, rfl⟩ h (fun x_ s_ s1_ δ_ _ hv h => ?_) (fun s_ δ_ hv h => ?_)
  · obtain ⟨at_2, block2⟩ := x_
    obtain ⟨found2, rfl⟩ : ∃ z, z = s_ := ⟨_, rfl⟩
    obtain ⟨o_, o_1, pq, pq1, rfl⟩ := hv
    refine run_tg (δ1 := [some (.fz ((eT eI) one)), some (.fz ((eT eI) other)), some (.fz ((eD eI) t_.1)), some (.fz (eI found2)), some (.fz (eI at_2)), some (.fz (eI block2)), none]) (evg_unpT rfl rfl (evgs_cons (evg_fz rfl) (evgs_cons (evg_fz rfl) evgs_nil))) ?_
    obtain ⟨l2, h_l2, h⟩ := bnd h
    obtain ⟨found3, h_found3, h⟩ := bnds h
    refine run_last (δ1 := [some (.fz ((eT eI) one)), some (.fz ((eT eI) other)), some (.fz ((eD eI) t_.1)), some (.fz (eI found3)), some (.fz (eI at_2)), some (.fz (eI block2)), none]) (rund_set (Ev.as (ev_bin (r := .fz (.int (found2 + (l2.length : Int)))) (ev_fz (i := 3) rfl) (ev_b1 (r := .fz (.int (l2.length : Int))) (ev_comp (e := eI) (eo := eI) (ei_tup (xs := (cut one none (some at_2))) (e := eI) (ev_sl (r := .fz (.tup (List.map eI (cut one none (some at_2))))) (ev_fz (i := 0) rfl) evo_none (evo_some (n := at_2) (ev_fz (i := 4) rfl) rfl) rfl (fun W w => f_slT (e := eI) (xs := one) w)) rfl) (pl_cons rfl pl_none pl_nil) h_l2 (fun x_ o_ _ h => by obtain ⟨more1, rfl⟩ : ∃ z, z = x_ := ⟨_, rfl⟩; obtain ⟨it2, h_it2, h⟩ := bnd h; obtain ⟨it3, h_it3, h⟩ := bnd h; exact ⟨[some (.fz ((eT eI) one)), some (.fz ((eT eI) other)), some (.fz ((eD eI) t_.1)), some (.fz (eI found2)), some (.fz (eI at_2)), some (.fz (eI block2)), some (.fz (eI more1))], (decide (it2 > it3)), [some (.fz ((eT eI) one)), some (.fz ((eT eI) other)), some (.fz ((eD eI) t_.1)), some (.fz (eI found2)), some (.fz (eI at_2)), some (.fz (eI block2)), some (.fz (eI more1))], (evg_fz rfl), (evt_test (b := (decide (it2 > it3))) (ev_bin (r := .fz (.bl (decide (it2 > it3)))) (ev_bin (r := .fz (eI it2)) (ev_fz (i := 2) rfl) (ev_fz (i := 6) rfl) rfl rfl (fun W w => f_ixD (e := eI) (d := t_.1) h_it2 w)) (ev_bin (r := .fz (eI it3)) (ev_fz (i := 2) rfl) (ev_fz (i := 5) rfl) rfl rfl (fun W w => f_ixD (e := eI) (d := t_.1) h_it3 w)) rfl rfl (fun W w => w)) rfl), (fun hc_ => by have h := ite_f hc_ h; cases h; exact ⟨rfl, rfl⟩), (fun hc_ => by have h := ite_t hc_ h; cases h; exact ⟨_, _, _, _, (ev_fz (i := 6) rfl), rfl, rfl, rfl⟩)⟩)) rfl (fun W w => f_lenL (e := eI) (xs := l2) w)) rfl rfl (fun W w => w)) (congrArg (fun z => Sl.fz (eI z)) h_found3)) (evg_fz rfl)) ?_
    cases h
    exact ⟨.inl rfl, ⟨_, _, pl_fz, pl_fz, rfl⟩⟩
  · obtain ⟨found4, rfl⟩ : ∃ z, z = s_ := ⟨_, rfl⟩
    obtain ⟨o_2, o_3, pq2, pq3, rfl⟩ := hv
    exact run_ret_fz (d := eI found4) (ev_fz (i := 3) rfl) (by cases h; exact ⟨rfl, rfl⟩)
def t_law_rising : DTS := (dSeq (dSet 3 (dLst (dCons (dC (.int 0)) dNil)))
  (dSeq (dFor (dZip3 (dCons (dVar 0) (dCons (dVar 1) (dCons (dVar 2) dNil)))) (dUnp 3 (gsCons (dName 4) (gsCons (dUnp 2 (gsCons (dName 5) (gsCons (dName 6) gsNil))) (gsCons (dUnp 2 (gsCons (dName 7) (gsCons (dName 8) gsNil))) gsNil))))
  (dDrop (dMt appendM (dVar 3) (dCons (dCall S_law_crossed (dCons (dCall S_law_ahead (dCons (dVar 5) (dCons (dVar 4) (dCons (dC (.int 0)) dNil)))) (dCons (dCall S_law_ahead (dCons (dVar 7) (dCons (dVar 4) (dCons (dVar 8) dNil)))) dNil))) dNil))))
  (dRet (dB tupleF (dCons (dVar 3) dNil)))))
@[irreducible] def S_law_rising : FS := fun δ W => ∃ (asks : (List Int)) (front : (List ((List Int) × Int))) (way : (List ((List Int) × Int))) (r : (List Int)), δ = [.fz ((eT eI) asks), .fz ((eT (eP (eT eI) eI)) front), .fz ((eT (eP (eT eI) eI)) way)] ∧ m_law_rising asks front way = some r ∧ W (.fz ((eT eI) r)) []
theorem mono_law_rising : FMono S_law_rising := by unfold S_law_rising; exact fun δ W W' h ⟨asks, front, way, r, e1, e2, k⟩ => ⟨asks, front, way, r, e1, e2, h _ _ k⟩
theorem len_law_rising : ∀ δ W, S_law_rising δ W → δ.length = 3 := by unfold S_law_rising; exact fun δ W ⟨asks, front, way, r, e1, e2, k⟩ => by rw [e1]; rfl
theorem use_law_rising {asks : (List Int)} {front : (List ((List Int) × Int))} {way : (List ((List Int) × Int))} {r : (List Int)} {W : Sl → List Sl → Prop} (h : m_law_rising asks front way = some r) (k : W (.fz ((eT eI) r)) []) : S_law_rising [.fz ((eT eI) asks), .fz ((eT (eP (eT eI) eI)) front), .fz ((eT (eP (eT eI) eI)) way)] W := by unfold S_law_rising; exact ⟨asks, front, way, r, rfl, h, k⟩
theorem sem_law_rising : ∀ δ W, δ.length = 3 → S_law_rising δ W → t_law_rising { nx := endD 0 W (.fz .non), rt := endD 0 W } (startD 9 δ) := by
  intro δ W _ h
  unfold S_law_rising at h
  obtain ⟨asks, front, way, r, rfl, h, k⟩ := h
  refine run_def (t := t_law_rising) (s := .fz ((eT eI) r)) (outs := []) ?_ trivial rfl k
  show DL.Run t_law_rising [some (.fz ((eT eI) asks)), some (.fz ((eT (eP (eT eI) eI)) front)), some (.fz ((eT (eP (eT eI) eI)) way)), none, none, none, none, none, none] _
  unfold t_law_rising
  unfold m_law_rising at h
  obtain ⟨found, h_found, h⟩ := bnds h
  refine run_seq (δ1 := [some (.fz ((eT eI) asks)), some (.fz ((eT (eP (eT eI) eI)) front)), some (.fz ((eT (eP (eT eI) eI)) way)), some (.ml (List.map eI found)), none, none, none, none, none]) (rund_set (Ev.as (ev_lst (eva_cons ev_c eva_nil) rfl (Nat.le_of_ble_eq_true rfl)) (congrArg (fun z => Sl.ml (List.map eI z)) h_found)) (evg_ml rfl)) ?_
  refine run_foldS (vec := (fun (s : (List Int)) δ => ∃ (j4 : Option Sl), ∃ (j5 : Option Sl), ∃ (j6 : Option Sl), ∃ (j7 : Option Sl), ∃ (j8 : Option Sl), δ = [some (.fz ((eT eI) asks)), some (.fz ((eT (eP (eT eI) eI)) front)), some (.fz ((eT (eP (eT eI) eI)) way)), some (.ml (List.map eI s)), j4, j5, j6, j7, j8])) (e := (eP3 eI (eP (eT eI) eI) (eP (eT eI) eI))) (ei_zip3 (xs := asks) (ys := front) (zs := way) (e := eI) (f := (eP (eT eI) eI)) (g := (eP (eT eI) eI)) (ev_fz (i := 0) rfl) (ev_fz (i := 1) rfl) (ev_fz (i := 2) rfl) rfl rfl rfl) ⟨_, _, _, _, _, rfl⟩ h (fun x_ s_ s1_ δ_ _ hv h => ?_) (fun s_ δ_ hv h => ?_)
  · obtain ⟨block1, ⟨lies1, spot1⟩, ⟨order1, place1⟩⟩ := x_
    obtain ⟨found3, rfl⟩ : ∃ z, z = s_ := ⟨_, rfl⟩
    obtain ⟨o_, o_1, o_2, o_3, o_4, rfl⟩ := hv
    refine run_tg (δ1 := [some (.fz ((eT eI) asks)), some (.fz ((eT (eP (eT eI) eI)) front)), some (.fz ((eT (eP (eT eI) eI)) way)), some (.ml (List.map eI found3)), some (.fz (eI block1)), some (.fz ((eT eI) lies1)), some (.fz (eI spot1)), some (.fz ((eT eI) order1)), some (.fz (eI place1))]) (evg_unpT rfl rfl (evgs_cons (evg_fz rfl) (evgs_cons (evg_unpT rfl rfl (evgs_cons (evg_fz rfl) (evgs_cons (evg_fz rfl) evgs_nil))) (evgs_cons (evg_unpT rfl rfl (evgs_cons (evg_fz rfl) (evgs_cons (evg_fz rfl) evgs_nil))) evgs_nil)))) ?_
    obtain ⟨r3, h_r3, h⟩ := bnd h
    obtain ⟨r4, h_r4, h⟩ := bnd h
    obtain ⟨r5, h_r5, h⟩ := bnd h
    obtain ⟨found4, h_found4, h⟩ := bnd h
    refine run_last (δ1 := [some (.fz ((eT eI) asks)), some (.fz ((eT (eP (eT eI) eI)) front)), some (.fz ((eT (eP (eT eI) eI)) way)), some (.ml (List.map eI found4)), some (.fz (eI block1)), some (.fz ((eT eI) lies1)), some (.fz (eI spot1)), some (.fz ((eT eI) order1)), some (.fz (eI place1))]) (rund_drop (ev_append (k := 3) (ds := List.map eI found3) (d := eI r5) (δ4 := [some (.fz ((eT eI) asks)), some (.fz ((eT (eP (eT eI) eI)) front)), some (.fz ((eT (eP (eT eI) eI)) way)), some (.ml (List.map eI found4)), some (.fz (eI block1)), some (.fz ((eT eI) lies1)), some (.fz (eI spot1)), some (.fz ((eT eI) order1)), some (.fz (eI place1))]) (ev_ml (i := 3) rfl) (by exact True.intro) (ev_call (r := .fz (eI r5)) (eva_cons (ev_call (r := .fz ((eT eI) r3)) (eva_cons (ev_fz (i := 5) rfl) (eva_cons (ev_fz (i := 4) rfl) (eva_cons ev_c eva_nil))) (mv_cons rfl (mv_cons rfl (mv_cons rfl mv_nil))) (fun W w => use_law_ahead h_r3 w) rfl) (eva_cons (ev_call (r := .fz ((eT eI) r4)) (eva_cons (ev_fz (i := 7) rfl) (eva_cons (ev_fz (i := 4) rfl) (eva_cons (ev_fz (i := 8) rfl) eva_nil))) (mv_cons rfl (mv_cons rfl (mv_cons rfl mv_nil))) (fun W w => use_law_ahead h_r4 w) rfl) eva_nil)) (mv_cons rfl (mv_cons rfl mv_nil)) (fun W w => use_law_crossed h_r5 w) rfl) rfl rfl (app_lt h_found4) (app_eq (e := eI) h_found4 rfl))) ?_
    cases h
    exact ⟨.inl rfl, ⟨_, _, _, _, _, rfl⟩⟩
  · obtain ⟨found5, rfl⟩ : ∃ z, z = s_ := ⟨_, rfl⟩
    obtain ⟨o_5, o_6, o_7, o_8, o_9, rfl⟩ := hv
    exact run_ret_fz (d := (eT eI) found5) (ev_b1 (r := .fz (.tup (List.map eI found5))) (ev_ml (i := 3) rfl) rfl (fun W w => w)) (by cases h; exact ⟨rfl, rfl⟩)
def t_law_front : DTS := (dSeq (dPar 3 4 (dCons (dLst dNil) (dCons (dVar 0) dNil)))
  (dSeq (dFor (dSeqI (dVar 1)) (dName 2)
  (dSeq (dDrop (dMt appendM (dVar 3) (dCons (dTup (dCons (dVar 4) (dCons (dC (.int 0)) dNil))) dNil)))
  (dSet 4 (dCall S_law_ahead (dCons (dVar 4) (dCons (dVar 2) (dCons (dC (.int 0)) dNil)))))))
  (dRet (dB tupleF (dCons (dVar 3) dNil)))))
@[irreducible] def S_law_front : FS := fun δ W => ∃ (tape : (List Int)) (asks : (List Int)) (r : (List ((List Int) × Int))), δ = [.fz ((eT eI) tape), .fz ((eT eI) asks)] ∧ m_law_front tape asks = some r ∧ W (.fz ((eT (eP (eT eI) eI)) r)) []
theorem mono_law_front : FMono S_law_front := by unfold S_law_front; exact fun δ W W' h ⟨tape, asks, r, e1, e2, k⟩ => ⟨tape, asks, r, e1, e2, h _ _ k⟩
theorem len_law_front : ∀ δ W, S_law_front δ W → δ.length = 2 := by unfold S_law_front; exact fun δ W ⟨tape, asks, r, e1, e2, k⟩ => by rw [e1]; rfl
theorem use_law_front {tape : (List Int)} {asks : (List Int)} {r : (List ((List Int) × Int))} {W : Sl → List Sl → Prop} (h : m_law_front tape asks = some r) (k : W (.fz ((eT (eP (eT eI) eI)) r)) []) : S_law_front [.fz ((eT eI) tape), .fz ((eT eI) asks)] W := by unfold S_law_front; exact ⟨tape, asks, r, rfl, h, k⟩
theorem sem_law_front : ∀ δ W, δ.length = 2 → S_law_front δ W → t_law_front { nx := endD 0 W (.fz .non), rt := endD 0 W } (startD 5 δ) := by
  intro δ W _ h
  unfold S_law_front at h
  obtain ⟨tape, asks, r, rfl, h, k⟩ := h
  refine run_def (t := t_law_front) (s := .fz ((eT (eP (eT eI) eI)) r)) (outs := []) ?_ trivial rfl k
  show DL.Run t_law_front [some (.fz ((eT eI) tape)), some (.fz ((eT eI) asks)), none, none, none] _
  unfold t_law_front
  unfold m_law_front at h
  refine run_seq (δ1 := [some (.fz ((eT eI) tape)), some (.fz ((eT eI) asks)), none, some (.ml (List.map (eP (eT eI) eI) ([] : (List ((List Int) × Int))))), some (.fz ((eT eI) tape))]) (rund_parE (a2 := ((.ml (List.map (eP (eT eI) eI) ([] : (List ((List Int) × Int))))))) (b2 := ((.fz ((eT eI) tape)))) (δ3 := [some (.fz ((eT eI) tape)), some (.fz ((eT eI) asks)), none, some (.ml (List.map (eP (eT eI) eI) ([] : (List ((List Int) × Int))))), some (.fz ((eT eI) tape))]) (eva_cons (ev_lst (ds := []) eva_nil rfl (Nat.zero_le _)) (eva_cons (ev_fz (i := 0) rfl) eva_nil)) rfl rfl rfl rfl) ?_
  refine run_foldS (vec := (fun (s : ((List ((List Int) × Int)) × (List Int))) δ => ∃ (j2 : Option Sl), δ = [some (.fz ((eT eI) tape)), some (.fz ((eT eI) asks)), j2, some (.ml (List.map (eP (eT eI) eI) s.1)), some (.fz ((eT eI) s.2))])) (e := eI) (ei_tup (xs := asks) (e := eI) (ev_fz (i := 1) rfl) rfl) ⟨_, rfl⟩ h (fun x_ s_ s1_ δ_ _ hv h => ?_) (fun s_ δ_ hv h => ?_)
  · obtain ⟨block1, rfl⟩ : ∃ z, z = x_ := ⟨_, rfl⟩
    obtain ⟨found2, lies1⟩ := s_
    obtain ⟨o_, rfl⟩ := hv
    refine run_tg (δ1 := [some (.fz ((eT eI) tape)), some (.fz ((eT eI) asks)), some (.fz (eI block1)), some (.ml (List.map (eP (eT eI) eI) found2)), some (.fz ((eT eI) lies1))]) (evg_fz rfl) ?_
    obtain ⟨found3, h_found3, h⟩ := bnd h
    refine run_seq (δ1 := [some (.fz ((eT eI) tape)), some (.fz ((eT eI) asks)), some (.fz (eI block1)), some (.ml (List.map (eP (eT eI) eI) found3)), some (.fz ((eT eI) lies1))]) (rund_drop (ev_append (k := 3) (ds := List.map (eP (eT eI) eI) found2) (d := (eP (eT eI) eI) (lies1, 0)) (δ4 := [some (.fz ((eT eI) tape)), some (.fz ((eT eI) asks)), some (.fz (eI block1)), some (.ml (List.map (eP (eT eI) eI) found3)), some (.fz ((eT eI) lies1))]) (ev_ml (i := 3) rfl) (by exact True.intro) (ev_tup (eva_cons (ev_fz (i := 4) rfl) (eva_cons ev_c eva_nil)) rfl (Nat.le_of_ble_eq_true rfl)) rfl rfl (app_lt h_found3) (app_eq (e := (eP (eT eI) eI)) h_found3 rfl))) ?_
    obtain ⟨r1, h_r1, h⟩ := bnd h
    refine run_last (δ1 := [some (.fz ((eT eI) tape)), some (.fz ((eT eI) asks)), some (.fz (eI block1)), some (.ml (List.map (eP (eT eI) eI) found3)), some (.fz ((eT eI) r1))]) (rund_set (ev_call (r := .fz ((eT eI) r1)) (eva_cons (ev_fz (i := 4) rfl) (eva_cons (ev_fz (i := 2) rfl) (eva_cons ev_c eva_nil))) (mv_cons rfl (mv_cons rfl (mv_cons rfl mv_nil))) (fun W w => use_law_ahead h_r1 w) rfl) (evg_fz rfl)) ?_
    cases h
    exact ⟨.inl rfl, ⟨_, rfl⟩⟩
  · obtain ⟨found4, lies2⟩ := s_
    obtain ⟨o_1, rfl⟩ := hv
    exact run_ret_fz (d := (eT (eP (eT eI) eI)) found4) (ev_b1 (r := .fz (.tup (List.map (eP (eT eI) eI) found4))) (ev_ml (i := 3) rfl) rfl (fun W w => w)) (by cases h; exact ⟨rfl, rfl⟩)
def t_law_orders : DTS := (dSeq (dSet 1 (dLst (dCons (dTup dNil) dNil)))
  (dSeq (dFrz 1 (dFor (dRng1 (dCons (dVar 0) dNil)) (dName 2)
  (dSeq (dSet 3 (dLst dNil))
  (dSeq (dFor (dSeqI (dVar 1)) (dName 4)
  (dSet 3 (dBin addF (dVar 3) (dLC (dRng1 (dCons (dBin addF (dVar 2) (dC (.int 1))) dNil)) (dName 5) (dTests []) (dBin addF (dBin addF (dSl (dVar 4) dNoPart (dPart (dVar 5))) (dTup (dCons (dVar 2) dNil))) (dSl (dVar 4) (dPart (dVar 5)) dNoPart)) [5]))))
  (dSet 1 (dVar 3))))))
  (dRet (dVar 1))))
@[irreducible] def S_law_orders : FS := fun δ W => ∃ (many : Int) (r : (List (List Int))), δ = [.fz (eI many)] ∧ m_law_orders many = some r ∧ W (.fz ((eL (eT eI)) r)) []
theorem mono_law_orders : FMono S_law_orders := by unfold S_law_orders; exact fun δ W W' h ⟨many, r, e1, e2, k⟩ => ⟨many, r, e1, e2, h _ _ k⟩
theorem len_law_orders : ∀ δ W, S_law_orders δ W → δ.length = 1 := by unfold S_law_orders; exact fun δ W ⟨many, r, e1, e2, k⟩ => by rw [e1]; rfl
theorem use_law_orders {many : Int} {r : (List (List Int))} {W : Sl → List Sl → Prop} (h : m_law_orders many = some r) (k : W (.fz ((eL (eT eI)) r)) []) : S_law_orders [.fz (eI many)] W := by unfold S_law_orders; exact ⟨many, r, rfl, h, k⟩
theorem sem_law_orders : ∀ δ W, δ.length = 1 → S_law_orders δ W → t_law_orders { nx := endD 0 W (.fz .non), rt := endD 0 W } (startD 6 δ) := by
  intro δ W _ h
  unfold S_law_orders at h
  obtain ⟨many, r, rfl, h, k⟩ := h
  refine run_def (t := t_law_orders) (s := .fz ((eL (eT eI)) r)) (outs := []) ?_ trivial rfl k
  show DL.Run t_law_orders [some (.fz (eI many)), none, none, none, none, none] _
  unfold t_law_orders
  unfold m_law_orders at h
  obtain ⟨found, h_found, h⟩ := bnds h
  refine run_seq (δ1 := [some (.fz (eI many)), some (.ml (List.map (eT eI) found)), none, none, none, none]) (rund_set (Ev.as (ev_lst (eva_cons (ev_tup (ds := []) eva_nil rfl (Nat.zero_le _)) eva_nil) rfl (Nat.le_of_ble_eq_true rfl)) (congrArg (fun z => Sl.ml (List.map (eT eI) z)) h_found)) (evg_ml rfl)) ?_
  refine run_frzS (δ1 := [some (.fz (eI many)), some (.fz ((eL (eT eI)) found)), none, none, none, none]) rfl (fun _ q => nomatch q) ?_
  obtain ⟨r, h_r, h⟩ := bnd h
  refine run_foldS (vec := (fun (s : (List (List Int))) δ => ∃ (j2 : Option Sl), ∃ (j3 : Option Sl), ∃ (j4 : Option Sl), δ = [some (.fz (eI many)), some (.fz ((eL (eT eI)) s)), j2, j3, j4, none])) (e := eI) (ei_rng1 (ev_fz (i := 0) rfl) rfl h_r) ⟨_, _, _, rfl⟩ h (fun x_ s_ s1_ δ_ _ hv h => ?_) (fun s_ δ_ hv h => ?_)
  · obtain ⟨block1, rfl⟩ : ∃ z, z = x_ := ⟨_, rfl⟩
    obtain ⟨found2, rfl⟩ : ∃ z, z = s_ := ⟨_, rfl⟩
    obtain ⟨o_, o_1, o_2, rfl⟩ := hv
    refine run_tg (δ1 := [some (.fz (eI many)), some (.fz ((eL (eT eI)) found2)), some (.fz (eI block1)), o_1, o_2, none]) (evg_fz rfl) ?_
    refine run_seq (δ1 := [some (.fz (eI many)), some (.fz ((eL (eT eI)) found2)), some (.fz (eI block1)), some (.ml (List.map (eT eI) ([] : (List (List Int))))), o_2, none]) (rund_set (ev_lst (ds := []) eva_nil rfl (Nat.zero_le _)) (evg_ml rfl)) ?_
    refine run_foldS (vec := (fun (s : (List (List Int))) δ => ∃ (j4 : Option Sl), δ = [some (.fz (eI many)), some (.fz ((eL (eT eI)) found2)), some (.fz (eI block1)), some (.ml (List.map (eT eI) s)), j4, none])) (e := (eT eI)) (ei_lst (xs := found2) (e := (eT eI)) (ev_fz (i := 1) rfl) rfl) ⟨_, rfl⟩ h (fun x_ s_ s1_ δ_ _ hv h => ?_) (fun s_ δ_ hv h => ?_)
    · obtain ⟨one2, rfl⟩ : ∃ z, z = x_ := ⟨_, rfl⟩
      obtain ⟨later2, rfl⟩ : ∃ z, z = s_ := ⟨_, rfl⟩
      obtain ⟨o_3, rfl⟩ := hv
      refine run_tg (δ1 := [some (.fz (eI many)), some (.fz ((eL (eT eI)) found2)), some (.fz (eI block1)), some (.ml (List.map (eT eI) later2)), some (.fz ((eT eI) one2)), none]) (evg_fz rfl) ?_
      obtain ⟨r3, h_r3, h⟩ := bnd h
      obtain ⟨l10, h_l10, h⟩ := bnd h
      obtain ⟨l11, h_l11, h⟩ := bnd h
      refine run_last (δ1 := [some (.fz (eI many)), some (.fz ((eL (eT eI)) found2)), some (.fz (eI block1)), some (.ml (List.map (eT eI) l11)), some (.fz ((eT eI) one2)), none]) (rund_set (ev_bin (r := .ml (List.map (eT eI) l11)) (ev_ml (i := 3) rfl) (ev_comp (e := eI) (eo := (eT eI)) (ei_rng1 (ev_bin (r := .fz (.int (block1 + 1))) (ev_fz (i := 2) rfl) ev_c rfl rfl (fun W w => w)) rfl h_r3) (pl_cons rfl pl_none pl_nil) h_l10 (fun x_ o_ _ h => by obtain ⟨at_2, rfl⟩ : ∃ z, z = x_ := ⟨_, rfl⟩; exact ⟨[some (.fz (eI many)), some (.fz ((eL (eT eI)) found2)), some (.fz (eI block1)), some (.ml (List.map (eT eI) later2)), some (.fz ((eT eI) one2)), some (.fz (eI at_2))], true, [some (.fz (eI many)), some (.fz ((eL (eT eI)) found2)), some (.fz (eI block1)), some (.ml (List.map (eT eI) later2)), some (.fz ((eT eI) one2)), some (.fz (eI at_2))], (evg_fz rfl), evt_nilT, (fun hc_ => by exact absurd hc_ (by decide)), (fun hc_ => by obtain ⟨l8, h_l8, h⟩ := bnd h; obtain ⟨l9, h_l9, h⟩ := bnd h; cases h; exact ⟨_, _, _, _, (ev_bin (r := .fz ((eT eI) l9)) (ev_bin (r := .fz ((eT eI) l8)) (ev_sl (r := .fz (.tup (List.map eI (cut one2 none (some at_2))))) (ev_fz (i := 4) rfl) evo_none (evo_some (n := at_2) (ev_fz (i := 5) rfl) rfl) rfl (fun W w => f_slT (e := eI) (xs := one2) w)) (ev_tup (eva_cons (ev_fz (i := 2) rfl) eva_nil) rfl (Nat.le_of_ble_eq_true rfl)) rfl rfl (fun W w => f_catT (e := eI) (xs := (cut one2 none (some at_2))) (ys := ([block1] : (List Int))) h_l8 w)) (ev_sl (r := .fz (.tup (List.map eI (cut one2 (some at_2) none)))) (ev_fz (i := 4) rfl) (evo_some (n := at_2) (ev_fz (i := 5) rfl) rfl) evo_none rfl (fun W w => f_slT (e := eI) (xs := one2) w)) rfl rfl (fun W w => f_catT (e := eI) (xs := l8) (ys := (cut one2 (some at_2) none)) h_l9 w)), rfl, rfl, rfl⟩)⟩)) rfl rfl (fun W w => f_catL (e := (eT eI)) (xs := later2) (ys := l10) h_l11 w)) (evg_ml rfl)) ?_
      cases h
      exact ⟨.inl rfl, ⟨_, rfl⟩⟩
    · obtain ⟨later3, rfl⟩ : ∃ z, z = s_ := ⟨_, rfl⟩
      obtain ⟨o_4, rfl⟩ := hv
      refine run_last (δ1 := [some (.fz (eI many)), some (.fz ((eL (eT eI)) later3)), some (.fz (eI block1)), some (.fz ((eL (eT eI)) later3)), o_4, none]) (rund_set (ev_ml (i := 3) rfl) (evg_al rfl rfl)) ?_
      cases h
      exact ⟨.inl rfl, ⟨_, _, _, rfl⟩⟩
  · obtain ⟨found3, rfl⟩ : ∃ z, z = s_ := ⟨_, rfl⟩
    obtain ⟨o_5, o_6, o_7, rfl⟩ := hv
    exact run_ret_fz (d := (eL (eT eI)) found3) (ev_fz (i := 1) rfl) (by cases h; exact ⟨rfl, rfl⟩)
def t_law_keeping : DTS := (dRet (dB tupleF (dCons (dLC (dSeqI (dVar 1)) (dName 2) (dTests []) (dTup (dCons (dVar 0) (dCons (dMq indexL indexT (dVar 0) (dCons (dVar 2) dNil)) dNil))) [2]) dNil)))
@[irreducible] def S_law_keeping : FS := fun δ W => ∃ (order : (List Int)) (asks : (List Int)) (r : (List ((List Int) × Int))), δ = [.fz ((eT eI) order), .fz ((eT eI) asks)] ∧ m_law_keeping order asks = some r ∧ W (.fz ((eT (eP (eT eI) eI)) r)) []
theorem mono_law_keeping : FMono S_law_keeping := by unfold S_law_keeping; exact fun δ W W' h ⟨order, asks, r, e1, e2, k⟩ => ⟨order, asks, r, e1, e2, h _ _ k⟩
theorem len_law_keeping : ∀ δ W, S_law_keeping δ W → δ.length = 2 := by unfold S_law_keeping; exact fun δ W ⟨order, asks, r, e1, e2, k⟩ => by rw [e1]; rfl
theorem use_law_keeping {order : (List Int)} {asks : (List Int)} {r : (List ((List Int) × Int))} {W : Sl → List Sl → Prop} (h : m_law_keeping order asks = some r) (k : W (.fz ((eT (eP (eT eI) eI)) r)) []) : S_law_keeping [.fz ((eT eI) order), .fz ((eT eI) asks)] W := by unfold S_law_keeping; exact ⟨order, asks, r, rfl, h, k⟩
theorem sem_law_keeping : ∀ δ W, δ.length = 2 → S_law_keeping δ W → t_law_keeping { nx := endD 0 W (.fz .non), rt := endD 0 W } (startD 3 δ) := by
  intro δ W _ h
  unfold S_law_keeping at h
  obtain ⟨order, asks, r, rfl, h, k⟩ := h
  refine run_def (t := t_law_keeping) (s := .fz ((eT (eP (eT eI) eI)) r)) (outs := []) ?_ trivial rfl k
  show DL.Run t_law_keeping [some (.fz ((eT eI) order)), some (.fz ((eT eI) asks)), none] _
  unfold t_law_keeping
  unfold m_law_keeping at h
  obtain ⟨l, h_l, h⟩ := bnd h
  exact run_ret_fz (d := (eT (eP (eT eI) eI)) l) (ev_b1 (r := .fz (.tup (List.map (eP (eT eI) eI) l))) (ev_comp (e := eI) (eo := (eP (eT eI) eI)) (ei_tup (xs := asks) (e := eI) (ev_fz (i := 1) rfl) rfl) (pl_cons rfl pl_none pl_nil) h_l (fun x_ o_ _ h => by obtain ⟨block, rfl⟩ : ∃ z, z = x_ := ⟨_, rfl⟩; exact ⟨[some (.fz ((eT eI) order)), some (.fz ((eT eI) asks)), some (.fz (eI block))], true, [some (.fz ((eT eI) order)), some (.fz ((eT eI) asks)), some (.fz (eI block))], (evg_fz rfl), evt_nilT, (fun hc_ => by exact absurd hc_ (by decide)), (fun hc_ => by obtain ⟨at_, h_at_, h⟩ := bnd h; cases h; exact ⟨_, _, _, _, (ev_tup (eva_cons (ev_fz (i := 0) rfl) (eva_cons (ev_index (e := eI) (xs := order) (x := block) eqe_int eqe_int (ev_fz (i := 0) rfl) (.inr ⟨rfl, rfl⟩) (ev_fz (i := 2) rfl) rfl h_at_) eva_nil)) rfl (Nat.le_of_ble_eq_true rfl)), rfl, rfl, rfl⟩)⟩)) rfl (fun W w => w)) (by cases h; exact ⟨rfl, rfl⟩)
def t_law_steps : DTS := (dRet (dB sumF (dCons (dLC (dEnum (dCons (dVar 0) dNil)) (dUnp 2 (gsCons (dName 2) (gsCons (dName 3) gsNil))) (dTests []) (dBin mulF (dBin ixF (dVar 1) (dVar 3)) (dBin addF (dVar 2) (dC (.int 1)))) [2, 3]) dNil)))
@[irreducible] def S_law_steps : FS := fun δ W => ∃ (order : (List Int)) (counts : (List Int)) (r : Int), δ = [.fz ((eT eI) order), .fz ((eL eI) counts)] ∧ m_law_steps order counts = some r ∧ W (.fz (eI r)) []
theorem mono_law_steps : FMono S_law_steps := by unfold S_law_steps; exact fun δ W W' h ⟨order, counts, r, e1, e2, k⟩ => ⟨order, counts, r, e1, e2, h _ _ k⟩
theorem len_law_steps : ∀ δ W, S_law_steps δ W → δ.length = 2 := by unfold S_law_steps; exact fun δ W ⟨order, counts, r, e1, e2, k⟩ => by rw [e1]; rfl
theorem use_law_steps {order : (List Int)} {counts : (List Int)} {r : Int} {W : Sl → List Sl → Prop} (h : m_law_steps order counts = some r) (k : W (.fz (eI r)) []) : S_law_steps [.fz ((eT eI) order), .fz ((eL eI) counts)] W := by unfold S_law_steps; exact ⟨order, counts, r, rfl, h, k⟩
theorem sem_law_steps : ∀ δ W, δ.length = 2 → S_law_steps δ W → t_law_steps { nx := endD 0 W (.fz .non), rt := endD 0 W } (startD 4 δ) := by
  intro δ W _ h
  unfold S_law_steps at h
  obtain ⟨order, counts, r, rfl, h, k⟩ := h
  refine run_def (t := t_law_steps) (s := .fz (eI r)) (outs := []) ?_ trivial rfl k
  show DL.Run t_law_steps [some (.fz ((eT eI) order)), some (.fz ((eL eI) counts)), none, none] _
  unfold t_law_steps
  unfold m_law_steps at h
  obtain ⟨l, h_l, h⟩ := bnd h
  exact run_ret_fz (d := eI l.sum) (ev_b1 (r := .fz (.int l.sum)) (ev_comp (e := (eP eI eI)) (eo := eI) (ei_enum (xs := order) (e := eI) (ev_fz (i := 0) rfl) rfl) (pl_cons rfl pl_none (pl_cons rfl pl_none pl_nil)) h_l (fun x_ o_ _ h => by obtain ⟨at_, block⟩ := x_; exact ⟨[some (.fz ((eT eI) order)), some (.fz ((eL eI) counts)), some (.fz (eI at_)), some (.fz (eI block))], true, [some (.fz ((eT eI) order)), some (.fz ((eL eI) counts)), some (.fz (eI at_)), some (.fz (eI block))], (evg_unpT rfl rfl (evgs_cons (evg_fz rfl) (evgs_cons (evg_fz rfl) evgs_nil))), evt_nilT, (fun hc_ => by exact absurd hc_ (by decide)), (fun hc_ => by obtain ⟨it, h_it, h⟩ := bnd h; obtain ⟨n, h_n, h⟩ := bnd h; cases h; exact ⟨_, _, _, _, (ev_bin (r := .fz (.int n)) (ev_bin (r := .fz (eI it)) (ev_fz (i := 1) rfl) (ev_fz (i := 3) rfl) rfl rfl (fun W w => f_ixL (e := eI) (xs := counts) h_it w)) (ev_bin (r := .fz (.int (at_ + 1))) (ev_fz (i := 2) rfl) ev_c rfl rfl (fun W w => w)) rfl rfl (fun W w => f_mul h_n w)), rfl, rfl, rfl⟩)⟩)) rfl (fun W w => f_sum (ns := l) w)) (by cases h; exact ⟨rfl, rfl⟩)
def t_law : DTS := (dSeq (dSet 1 (dCall S_law_draw (dCons (dVar 0) (dCons (dC (.int 22)) dNil))))
  (dSeq (dFor (dRng1 (dCons (dC (.int 2)) dNil)) (dName 2)
  (dSeq (dSet 3 (dCallM S_law_of (dCons (dVar 1) (dCons (dLst (dCons (dC (.int 1)) (dCons (dC (.int 2)) (dCons (dC (.int 3)) (dCons (dC (.int 4)) (dCons (dC (.int 5)) (dCons (dC (.int 9)) (dCons (dC (.int 30)) (dCons (dIfE (dTest (dBin eqF (dVar 2) (dC (.int 0)))) (dC (.int 64)) (dC (.int 12))) dNil))))))))) dNil))))
  (dSeq (dSet 4 (dB tupleF (dCons (dCallM S_law_mixed (dCons (dVar 1) (dCons (dRgL .ml (dCons (dVar 3) dNil)) dNil))) dNil)))
  (dSeq (dSet 5 (dCallM S_law_asks (dCons (dVar 1) (dCons (dVar 3) (dCons (dCallM S_law_of (dCons (dVar 1) (dCons (dLst (dCons (dC (.int 6)) (dCons (dC (.int 20)) (dCons (dC (.int 60)) (dCons (dIfE (dAnd (dTest (dBin eqF (dVar 2) (dC (.int 0)))) (dTest (dBin ltF (dVar 3) (dC (.int 10))))) (dC (.int 400)) (dC (.int 30))) dNil))))) dNil))) dNil)))))
  (dSeq (dSet 5 (dIfE (dTest (dBin gtF (dVar 3) (dC (.int 20)))) (dSl (dVar 5) dNoPart (dPart (dC (.int 10)))) (dVar 5)))
  (dSeq (dSet 6 (dLC (dRng1 (dCons (dVar 3) dNil)) (dName 8) (dTests []) (dB lenF (dCons (dLC (dSeqI (dVar 5)) (dName 23) (dTest (dBin eqF (dVar 23) (dVar 8))) (dC (.int 1)) [23]) dNil)) [8]))
  (dSeq (dSet 7 (dB tupleF (dCons (dLC (dSeqI (dB sortedF (dCons (dLC (dRng1 (dCons (dVar 3) dNil)) (dName 8) (dTests []) (dTup (dCons (dBin subF (dC (.int 0)) (dBin ixF (dVar 6) (dVar 8))) (dCons (dVar 8) dNil))) [8]) dNil))) (dUnp 2 (gsCons (dName 24) (gsCons (dName 8) gsNil))) (dTests []) (dVar 8) [24, 8]) dNil)))
  (dSeq (dPar 12 13 (dCons (dCallK 0 2 [0, 1] S_front_steps dNil (dCons (dVar 4) (dCons (dVar 5) dNil))) (dCons (dCall S_law_steps (dCons (dVar 7) (dCons (dVar 6) dNil))) dNil)))
  (dSeq (dPar 14 15 (dCons (dVar 4) (dCons (dC (.int 0)) dNil)))
  (dSeq (dFor (dSeqI (dVar 5)) (dName 8)
  (dPar 14 15 (dCons (dCall S_law_ahead (dCons (dVar 14) (dCons (dVar 8) (dCons (dC (.int 0)) dNil)))) (dCons (dBin addF (dBin addF (dVar 15) (dMq indexL indexT (dVar 14) (dCons (dVar 8) dNil))) (dC (.int 1))) dNil))))
  (dSeq (dIf (dOr (dNot (dTru (dCall (S_same 12) (dCons (dVar 12) (dCons (dVar 15) dNil))))) (dTest (dBin gtF (dBin mulF (dC (.int 2)) (dVar 12)) (dBin subF (dBin addF (dBin mulF (dC (.int 4)) (dVar 13)) (dBin mulF (dVar 3) (dBin subF (dVar 3) (dC (.int 1))))) (dBin mulF (dC (.int 2)) (dB lenF (dCons (dVar 5) dNil)))))))
  (dRet (dC (.bl false)))
  dNext)
  (dSeq (dSet 9 (dLst (dCons (dVar 7) (dCons (dVar 4) (dCons (dB tupleF (dCons (dCallM S_law_mixed (dCons (dVar 1) (dCons (dRgL .ml (dCons (dVar 3) dNil)) dNil))) dNil)) dNil)))))
  (dSeq (dFor (dSeqI (dBin addF (dVar 9) (dIfE (dAnd (dTest (dBin ltF (dVar 3) (dC (.int 6)))) (dTest (dBin eqF (dVar 2) (dC (.int 1))))) (dCall S_law_orders (dCons (dVar 3) dNil)) (dLst dNil)))) (dName 10)
  (dSeq (dPar 21 22 (dCons (dCall S_law_steps (dCons (dVar 10) (dCons (dVar 6) dNil))) (dCons (dCall S_law_crossed (dCons (dVar 4) (dCons (dVar 10) dNil))) dNil)))
  (dIf (dOr (dTest (dBin ltF (dVar 21) (dVar 13))) (dTest (dBin gtF (dVar 12) (dBin subF (dBin addF (dBin mulF (dC (.int 2)) (dVar 21)) (dVar 22)) (dB lenF (dCons (dVar 5) dNil))))))
  (dRet (dC (.bl false)))
  dNext)))
  (dSeq (dFor (dSeqI (dVar 9)) (dName 10)
  (dSeq (dSet 16 (dCall S_law_keeping (dCons (dVar 10) (dCons (dVar 5) dNil))))
  (dSeq (dSet 17 (dTup (dCons (dCall S_law_steps (dCons (dVar 10) (dCons (dVar 6) dNil))) (dCons (dIfE (dTest (dBin neF (dVar 5) (dTup dNil))) (dCall S_law_crossed (dCons (dVar 4) (dCons (dVar 10) dNil))) (dC (.int 0))) (dCons (dC (.int 0)) dNil)))))
  (dSeq (dSet 18 (dLst (dCons (dCallK 0 3 [2, 1, 0] S_is_tape_way dNil (dCons (dVar 16) (dCons (dVar 5) (dCons (dVar 4) dNil)))) (dCons (dCallK 0 3 [2, 1, 0] S_way_costs dNil (dCons (dVar 16) (dCons (dVar 5) (dCons (dVar 4) dNil)))) dNil))))
  (dSeq (dIf (dNot (dTru (dCall (S_same 12) (dCons (dBin addF (dVar 18) (dLst (dCons (dCall S_crossed (dCons (dVar 4) (dCons (dVar 10) dNil))) dNil))) (dCons (dLst (dCons (dC (.bl true)) (dCons (dVar 17) (dCons (dCall S_law_crossed (dCons (dVar 4) (dCons (dVar 10) dNil))) dNil)))) dNil)))))
  (dRet (dC (.bl false)))
  dNext)
  (dSeq (dSet 19 (dB tupleF (dCons (dLC (dSeqI (dVar 16)) (dUnp 2 (gsCons (dName 14) (gsCons (dName 25) gsNil))) (dTests []) (dTup (dCons (dVar 14) (dCons (dBin addF (dVar 25) (dC (.int 1))) dNil))) [14, 25]) dNil)))
  (dIf (dNot (dTru (dCall (S_same 12) (dCons (dCall S_is_tape_way (dCons (dVar 4) (dCons (dVar 5) (dCons (dVar 19) dNil)))) (dCons (dBin eqF (dVar 5) (dTup dNil)) dNil)))))
  (dRet (dC (.bl false)))
  dNext)))))))
  (dSeq (dSet 11 (dSl (dVar 5) dNoPart (dPart (dC (.int 20)))))
  (dIf (dTest (dBin ltF (dVar 3) (dC (.int 10))))
  (dSeq (dSet 16 (dCall S_law_keeping (dCons (dBin ixF (dVar 9) (dNeg (dC (.int 1)))) (dCons (dVar 11) dNil))))
  (dSeq (dSet 20 (dCall S_law_rising (dCons (dVar 11) (dCons (dCall S_law_front (dCons (dVar 4) (dCons (dVar 11) dNil))) (dCons (dVar 16) dNil)))))
  (dIf (dNot (dTru (dCall (S_same 12) (dCons (dCallK 0 3 [2, 1, 0] S_tape_potentials dNil (dCons (dVar 16) (dCons (dVar 11) (dCons (dVar 4) dNil)))) (dCons (dVar 20) dNil)))))
  (dRet (dC (.bl false)))
  dNext)))
  dNext))))))))))))))))
  (dRet (dC (.bl true)))))
@[irreducible] def S_law : FS := fun δ W => ∃ ns : List Int, δ = [.fz (.scr ns)] ∧ ns.length ≤ 63 ∧ (∀ d, m_law d = some true) ∧ W (.fz (.bl true)) []
theorem mono_law : FMono S_law := by unfold S_law; exact fun δ W W' h ⟨ns, e1, e2, e3, k⟩ => ⟨ns, e1, e2, e3, h _ _ k⟩
theorem len_law : ∀ δ W, S_law δ W → δ.length = 1 := by unfold S_law; exact fun δ W ⟨ns, e1, _⟩ => by rw [e1]; rfl
theorem use_law {ns : List Int} {W : Sl → List Sl → Prop} (h1 : ns.length ≤ 63) (h2 : ∀ d, m_law d = some true) (k : W (.fz (.bl true)) []) : S_law [.fz (.scr ns)] W := by unfold S_law; exact ⟨ns, rfl, h1, h2, k⟩
theorem sem_law : ∀ δ W, δ.length = 1 → S_law δ W → t_law { nx := endD 0 W (.fz .non), rt := endD 0 W } (startD 26 δ) := by
  intro δ W _ h
  unfold S_law at h
  obtain ⟨script, rfl, _, hm, k⟩ := h
  refine run_def (t := t_law) (s := .fz (.bl true)) (outs := []) ?_ trivial rfl k
  show DL.Run t_law [some (.fz (.scr script)), none, none, none, none, none, none, none, none, none, none, none, none, none, none, none, none, none, none, none, none, none, none, none, none, none] _
  unfold t_law
  refine run_draw (i := 1) (ns := script) (n := 22) (eva_cons (ev_fz rfl) (eva_cons ev_c eva_nil)) (by decide) (fun d0 => ?_)
  have h := hm d0
  unfold m_law at h
  show DL.Run _ [some (.fz (.scr script)), some (.deal d0), none, none, none, none, none, none, none, none, none, none, none, none, none, none, none, none, none, none, none, none, none, none, none, none] _
  obtain ⟨r, h_r, h⟩ := bnd h
  refine run_for (vec := (fun (s : Deal) δ => ∃ (j2 : Option Sl), ∃ (j3 : Option Sl), ∃ (j4 : Option Sl), ∃ (j5 : Option Sl), ∃ (j6 : Option Sl), ∃ (j7 : Option Sl), ∃ (j8 : Option Sl), ∃ (j9 : Option Sl), ∃ (j10 : Option Sl), ∃ (j11 : Option Sl), ∃ (j12 : Option Sl), ∃ (j13 : Option Sl), ∃ (j14 : Option Sl), ∃ (j15 : Option Sl), ∃ (j16 : Option Sl), ∃ (j17 : Option Sl), ∃ (j18 : Option Sl), ∃ (j19 : Option Sl), ∃ (j20 : Option Sl), ∃ (j21 : Option Sl), ∃ (j22 : Option Sl), pl j8 ∧ pl j14 ∧ δ = [some (.fz (.scr script)), some (.deal s), j2, j3, j4, j5, j6, j7, j8, j9, j10, j11, j12, j13, j14, j15, j16, j17, j18, j19, j20, j21, j22, none, none, none])) (RT := (fun (r : Bool) => RetP (.fz (eB r)) [])) (e := eI) (ei_rng1 ev_c rfl h_r) ⟨_, _, _, _, _, _, _, _, _, _, _, _, _, _, _, _, _, _, _, _, _, pl_none, pl_none, rfl⟩ h (fun x_ s_ s1_ δ_ _ hv h => ?_) (fun a_ fl_ δ_ e_ q_ => by cases e_; exact q_) (fun s_ δ_ hv h => ?_)
  · obtain ⟨turn1, rfl⟩ : ∃ z, z = x_ := ⟨_, rfl⟩
    obtain ⟨deal_5, rfl⟩ : ∃ z, z = s_ := ⟨_, rfl⟩
    obtain ⟨o_, o_1, o_2, o_3, o_4, o_5, o_6, o_7, o_8, o_9, o_10, o_11, o_12, o_13, o_14, o_15, o_16, o_17, o_18, o_19, o_20, pq, pq1, rfl⟩ := hv
    refine run_tg (δ1 := [some (.fz (.scr script)), some (.deal deal_5), some (.fz (eI turn1)), o_1, o_2, o_3, o_4, o_5, o_6, o_7, o_8, o_9, o_10, o_11, o_12, o_13, o_14, o_15, o_16, o_17, o_18, o_19, o_20, none, none, none]) (evg_fz rfl) ?_
    obtain ⟨⟨v4, deal_6⟩, h_v4, h⟩ := bnd h
    refine run_seq (δ1 := [some (.fz (.scr script)), some (.deal deal_6), some (.fz (eI turn1)), some (.fz (eI v4)), o_2, o_3, o_4, o_5, o_6, o_7, o_8, o_9, o_10, o_11, o_12, o_13, o_14, o_15, o_16, o_17, o_18, o_19, o_20, none, none, none]) (rund_set (ev_callM (k := 1) (r := .fz (eI v4)) (w := .deal deal_6) (δ2 := [some (.fz (.scr script)), some (.deal deal_6), some (.fz (eI turn1)), o_1, o_2, o_3, o_4, o_5, o_6, o_7, o_8, o_9, o_10, o_11, o_12, o_13, o_14, o_15, o_16, o_17, o_18, o_19, o_20, none, none, none]) (eva_cons (ev_dl (i := 1) rfl) (eva_cons (ev_lst (eva_cons ev_c (eva_cons ev_c (eva_cons ev_c (eva_cons ev_c (eva_cons ev_c (eva_cons ev_c (eva_cons ev_c (eva_cons (ev_ifE (en := (fun z => Sl.fz (eI z))) (v := 64) (w := 12) (evt_test (b := (decide (turn1 = 0))) (ev_bin (r := .fz (.bl (decide (turn1 = 0)))) (ev_fz (i := 2) rfl) ev_c rfl rfl (fun W w => f_eq (e := eI) (x := turn1) (y := 0) eqe_int w)) rfl) ev_c ev_c) eva_nil)))))))) rfl (Nat.le_of_ble_eq_true rfl)) eva_nil)) rfl (mv_cons rfl mv_nil) rfl (fun W w => use_ofT (e := eI) (xs := ([1, 2, 3, 4, 5, 9, 30, (if (decide (turn1 = 0)) then 64 else 12)] : (List Int))) (x := v4) h_v4 w) rfl rfl) (evg_fz rfl)) ?_
    obtain ⟨r7, h_r7, h⟩ := bnd h
    obtain ⟨⟨v5, deal_7⟩, h_v5, h⟩ := bnd h
    refine run_seq (δ1 := [some (.fz (.scr script)), some (.deal deal_7), some (.fz (eI turn1)), some (.fz (eI v4)), some (.fz ((eT eI) v5)), o_3, o_4, o_5, o_6, o_7, o_8, o_9, o_10, o_11, o_12, o_13, o_14, o_15, o_16, o_17, o_18, o_19, o_20, none, none, none]) (rund_set (ev_b1 (r := .fz (.tup (List.map eI v5))) (ev_callM (k := 1) (r := .ml (List.map eI v5)) (w := .deal deal_7) (δ2 := [some (.fz (.scr script)), some (.deal deal_7), some (.fz (eI turn1)), some (.fz (eI v4)), o_2, o_3, o_4, o_5, o_6, o_7, o_8, o_9, o_10, o_11, o_12, o_13, o_14, o_15, o_16, o_17, o_18, o_19, o_20, none, none, none]) (eva_cons (ev_dl (i := 1) rfl) (eva_cons (ev_lrg1 (ev_fz (i := 3) rfl) rfl h_r7) eva_nil)) rfl (mv_cons rfl mv_nil) rfl (fun W w => use_mixedT (e := eI) (xs := r7) (ys := v5) eqe_int h_v5 w) rfl rfl) rfl (fun W w => w)) (evg_fz rfl)) ?_
    obtain ⟨⟨v6, deal_8⟩, h_v6, h⟩ := bnd h
    obtain ⟨⟨v7, deal_9⟩, h_v7, h⟩ := bnd h
    refine run_seq (δ1 := [some (.fz (.scr script)), some (.deal deal_9), some (.fz (eI turn1)), some (.fz (eI v4)), some (.fz ((eT eI) v5)), some (.fz ((eT eI) v7)), o_4, o_5, o_6, o_7, o_8, o_9, o_10, o_11, o_12, o_13, o_14, o_15, o_16, o_17, o_18, o_19, o_20, none, none, none]) (rund_set (ev_callM (k := 1) (r := .fz ((eT eI) v7)) (w := .deal deal_9) (δ2 := [some (.fz (.scr script)), some (.deal deal_9), some (.fz (eI turn1)), some (.fz (eI v4)), some (.fz ((eT eI) v5)), o_3, o_4, o_5, o_6, o_7, o_8, o_9, o_10, o_11, o_12, o_13, o_14, o_15, o_16, o_17, o_18, o_19, o_20, none, none, none]) (eva_cons (ev_dl (i := 1) rfl) (eva_cons (ev_fz (i := 3) rfl) (eva_cons (ev_callM (k := 1) (r := .fz (eI v6)) (w := .deal deal_8) (δ2 := [some (.fz (.scr script)), some (.deal deal_8), some (.fz (eI turn1)), some (.fz (eI v4)), some (.fz ((eT eI) v5)), o_3, o_4, o_5, o_6, o_7, o_8, o_9, o_10, o_11, o_12, o_13, o_14, o_15, o_16, o_17, o_18, o_19, o_20, none, none, none]) (eva_cons (ev_dl (i := 1) rfl) (eva_cons (ev_lst (eva_cons ev_c (eva_cons ev_c (eva_cons ev_c (eva_cons (ev_ifE (en := (fun z => Sl.fz (eI z))) (v := 400) (w := 30) (evt_and (evt_test (b := (decide (turn1 = 0))) (ev_bin (r := .fz (.bl (decide (turn1 = 0)))) (ev_fz (i := 2) rfl) ev_c rfl rfl (fun W w => f_eq (e := eI) (x := turn1) (y := 0) eqe_int w)) rfl) (evt_test (b := (decide (v4 < 10))) (ev_bin (r := .fz (.bl (decide (v4 < 10)))) (ev_fz (i := 3) rfl) ev_c rfl rfl (fun W w => w)) rfl)) ev_c ev_c) eva_nil)))) rfl (Nat.le_of_ble_eq_true rfl)) eva_nil)) rfl (mv_cons rfl mv_nil) rfl (fun W w => use_ofT (e := eI) (xs := ([6, 20, 60, (if ((decide (turn1 = 0)) && (decide (v4 < 10))) then 400 else 30)] : (List Int))) (x := v6) h_v6 w) rfl rfl) eva_nil))) rfl (mv_cons rfl (mv_cons rfl mv_nil)) rfl (fun W w => use_law_asks h_v7 w) rfl rfl) (evg_fz rfl)) ?_
    obtain ⟨asks1, h_asks1, h⟩ := bnds h
    refine run_seq (δ1 := [some (.fz (.scr script)), some (.deal deal_9), some (.fz (eI turn1)), some (.fz (eI v4)), some (.fz ((eT eI) v5)), some (.fz ((eT eI) asks1)), o_4, o_5, o_6, o_7, o_8, o_9, o_10, o_11, o_12, o_13, o_14, o_15, o_16, o_17, o_18, o_19, o_20, none, none, none]) (rund_set (Ev.as (ev_ifE (en := (fun z => Sl.fz ((eT eI) z))) (v := (cut v7 none (some 10))) (w := v7) (evt_test (b := (decide (v4 > 20))) (ev_bin (r := .fz (.bl (decide (v4 > 20)))) (ev_fz (i := 3) rfl) ev_c rfl rfl (fun W w => w)) rfl) (ev_sl (r := .fz (.tup (List.map eI (cut v7 none (some 10))))) (ev_fz (i := 5) rfl) evo_none (evo_some (n := 10) ev_c rfl) rfl (fun W w => f_slT (e := eI) (xs := v7) w)) (ev_fz (i := 5) rfl)) (congrArg (fun z => Sl.fz ((eT eI) z)) h_asks1)) (evg_fz rfl)) ?_
    obtain ⟨r8, h_r8, h⟩ := bnd h
    obtain ⟨l5, h_l5, h⟩ := bnd h
    refine run_seq (δ1 := [some (.fz (.scr script)), some (.deal deal_9), some (.fz (eI turn1)), some (.fz (eI v4)), some (.fz ((eT eI) v5)), some (.fz ((eT eI) asks1)), some (.ml (List.map eI l5)), o_5, o_6, o_7, o_8, o_9, o_10, o_11, o_12, o_13, o_14, o_15, o_16, o_17, o_18, o_19, o_20, none, none, none]) (rund_set (ev_comp (e := eI) (eo := eI) (ei_rng1 (ev_fz (i := 3) rfl) rfl h_r8) (pl_cons rfl pq pl_nil) h_l5 (fun x_ o_ _ h => by obtain ⟨block4, rfl⟩ : ∃ z, z = x_ := ⟨_, rfl⟩; exact ⟨[some (.fz (.scr script)), some (.deal deal_9), some (.fz (eI turn1)), some (.fz (eI v4)), some (.fz ((eT eI) v5)), some (.fz ((eT eI) asks1)), o_4, o_5, some (.fz (eI block4)), o_7, o_8, o_9, o_10, o_11, o_12, o_13, o_14, o_15, o_16, o_17, o_18, o_19, o_20, none, none, none], true, [some (.fz (.scr script)), some (.deal deal_9), some (.fz (eI turn1)), some (.fz (eI v4)), some (.fz ((eT eI) v5)), some (.fz ((eT eI) asks1)), o_4, o_5, some (.fz (eI block4)), o_7, o_8, o_9, o_10, o_11, o_12, o_13, o_14, o_15, o_16, o_17, o_18, o_19, o_20, none, none, none], (evg_fz rfl), evt_nilT, (fun hc_ => by exact absurd hc_ (by decide)), (fun hc_ => by obtain ⟨l4, h_l4, h⟩ := bnd h; cases h; exact ⟨_, _, _, _, (ev_b1 (r := .fz (.int (l4.length : Int))) (ev_comp (e := eI) (eo := eI) (ei_tup (xs := asks1) (e := eI) (ev_fz (i := 5) rfl) rfl) (pl_cons rfl pl_none pl_nil) h_l4 (fun x_ o_ _ h => by obtain ⟨one1, rfl⟩ : ∃ z, z = x_ := ⟨_, rfl⟩; exact ⟨[some (.fz (.scr script)), some (.deal deal_9), some (.fz (eI turn1)), some (.fz (eI v4)), some (.fz ((eT eI) v5)), some (.fz ((eT eI) asks1)), o_4, o_5, some (.fz (eI block4)), o_7, o_8, o_9, o_10, o_11, o_12, o_13, o_14, o_15, o_16, o_17, o_18, o_19, o_20, some (.fz (eI one1)), none, none], (decide (one1 = block4)), [some (.fz (.scr script)), some (.deal deal_9), some (.fz (eI turn1)), some (.fz (eI v4)), some (.fz ((eT eI) v5)), some (.fz ((eT eI) asks1)), o_4, o_5, some (.fz (eI block4)), o_7, o_8, o_9, o_10, o_11, o_12, o_13, o_14, o_15, o_16, o_17, o_18, o_19, o_20, some (.fz (eI one1)), none, none], (evg_fz rfl), (evt_test (b := (decide (one1 = block4))) (ev_bin (r := .fz (.bl (decide (one1 = block4)))) (ev_fz (i := 23) rfl) (ev_fz (i := 8) rfl) rfl rfl (fun W w => f_eq (e := eI) (x := one1) (y := block4) eqe_int w)) rfl), (fun hc_ => by have h := ite_f hc_ h; cases h; exact ⟨rfl, rfl⟩), (fun hc_ => by have h := ite_t hc_ h; cases h; exact ⟨_, _, _, _, ev_c, rfl, rfl, rfl⟩)⟩)) rfl (fun W w => f_lenL (e := eI) (xs := l4) w)), rfl, rfl, rfl⟩)⟩)) (evg_ml rfl)) ?_
    obtain ⟨r9, h_r9, h⟩ := bnd h
    obtain ⟨l6, h_l6, h⟩ := bnd h
    obtain ⟨l7, h_l7, h⟩ := bnd h
    refine run_seq (δ1 := [some (.fz (.scr script)), some (.deal deal_9), some (.fz (eI turn1)), some (.fz (eI v4)), some (.fz ((eT eI) v5)), some (.fz ((eT eI) asks1)), some (.ml (List.map eI l5)), some (.fz ((eT eI) l7)), o_6, o_7, o_8, o_9, o_10, o_11, o_12, o_13, o_14, o_15, o_16, o_17, o_18, o_19, o_20, none, none, none]) (rund_set (ev_b1 (r := .fz (.tup (List.map eI l7))) (ev_comp (e := (eP eI eI)) (eo := eI) (ei_lst (xs := (srt leP l6)) (e := (eP eI eI)) (ev_b1 (r := .ml (List.map (eP eI eI) (srt leP l6))) (ev_comp (e := eI) (eo := (eP eI eI)) (ei_rng1 (ev_fz (i := 3) rfl) rfl h_r9) (pl_cons rfl pq pl_nil) h_l6 (fun x_ o_ _ h => by obtain ⟨block5, rfl⟩ : ∃ z, z = x_ := ⟨_, rfl⟩; exact ⟨[some (.fz (.scr script)), some (.deal deal_9), some (.fz (eI turn1)), some (.fz (eI v4)), some (.fz ((eT eI) v5)), some (.fz ((eT eI) asks1)), some (.ml (List.map eI l5)), o_5, some (.fz (eI block5)), o_7, o_8, o_9, o_10, o_11, o_12, o_13, o_14, o_15, o_16, o_17, o_18, o_19, o_20, none, none, none], true, [some (.fz (.scr script)), some (.deal deal_9), some (.fz (eI turn1)), some (.fz (eI v4)), some (.fz ((eT eI) v5)), some (.fz ((eT eI) asks1)), some (.ml (List.map eI l5)), o_5, some (.fz (eI block5)), o_7, o_8, o_9, o_10, o_11, o_12, o_13, o_14, o_15, o_16, o_17, o_18, o_19, o_20, none, none, none], (evg_fz rfl), evt_nilT, (fun hc_ => by exact absurd hc_ (by decide)), (fun hc_ => by obtain ⟨it1, h_it1, h⟩ := bnd h; cases h; exact ⟨_, _, _, _, (ev_tup (eva_cons (ev_bin (r := .fz (.int (0 - it1))) ev_c (ev_bin (r := .fz (eI it1)) (ev_ml (i := 6) rfl) (ev_fz (i := 8) rfl) rfl rfl (fun W w => f_ixL (e := eI) (xs := l5) h_it1 w)) rfl rfl (fun W w => w)) (eva_cons (ev_fz (i := 8) rfl) eva_nil)) rfl (Nat.le_of_ble_eq_true rfl)), rfl, rfl, rfl⟩)⟩)) rfl (fun W w => f_sortP (ps := l6) w)) rfl) (pl_cons rfl pl_none (pl_cons rfl pq pl_nil)) h_l7 (fun x_ o_ _ h => by obtain ⟨many1, block6⟩ := x_; exact ⟨[some (.fz (.scr script)), some (.deal deal_9), some (.fz (eI turn1)), some (.fz (eI v4)), some (.fz ((eT eI) v5)), some (.fz ((eT eI) asks1)), some (.ml (List.map eI l5)), o_5, some (.fz (eI block6)), o_7, o_8, o_9, o_10, o_11, o_12, o_13, o_14, o_15, o_16, o_17, o_18, o_19, o_20, none, some (.fz (eI many1)), none], true, [some (.fz (.scr script)), some (.deal deal_9), some (.fz (eI turn1)), some (.fz (eI v4)), some (.fz ((eT eI) v5)), some (.fz ((eT eI) asks1)), some (.ml (List.map eI l5)), o_5, some (.fz (eI block6)), o_7, o_8, o_9, o_10, o_11, o_12, o_13, o_14, o_15, o_16, o_17, o_18, o_19, o_20, none, some (.fz (eI many1)), none], (evg_unpT rfl rfl (evgs_cons (evg_fz rfl) (evgs_cons (evg_fz rfl) evgs_nil))), evt_nilT, (fun hc_ => by exact absurd hc_ (by decide)), (fun hc_ => by cases h; exact ⟨_, _, _, _, (ev_fz (i := 8) rfl), rfl, rfl, rfl⟩)⟩)) rfl (fun W w => w)) (evg_fz rfl)) ?_
    obtain ⟨r10, h_r10, h⟩ := bnd h
    obtain ⟨r11, h_r11, h⟩ := bnd h
    refine run_seq (δ1 := [some (.fz (.scr script)), some (.deal deal_9), some (.fz (eI turn1)), some (.fz (eI v4)), some (.fz ((eT eI) v5)), some (.fz ((eT eI) asks1)), some (.ml (List.map eI l5)), some (.fz ((eT eI) l7)), o_6, o_7, o_8, o_9, some (.fz (eI r10)), some (.fz (eI r11)), o_12, o_13, o_14, o_15, o_16, o_17, o_18, o_19, o_20, none, none, none]) (rund_parE (a2 := ((.fz (eI r10)))) (b2 := ((.fz (eI r11)))) (δ3 := [some (.fz (.scr script)), some (.deal deal_9), some (.fz (eI turn1)), some (.fz (eI v4)), some (.fz ((eT eI) v5)), some (.fz ((eT eI) asks1)), some (.ml (List.map eI l5)), some (.fz ((eT eI) l7)), o_6, o_7, o_8, o_9, some (.fz (eI r10)), some (.fz (eI r11)), o_12, o_13, o_14, o_15, o_16, o_17, o_18, o_19, o_20, none, none, none]) (eva_cons (ev_callK (r := .fz (eI r10)) eva_nil (eva_cons (ev_fz (i := 4) rfl) (eva_cons (ev_fz (i := 5) rfl) eva_nil)) (mv_cons rfl (mv_cons rfl mv_nil)) ⟨rfl, rfl, by decide⟩ (fun W w => use_front_steps h_r10 w) rfl) (eva_cons (ev_call (r := .fz (eI r11)) (eva_cons (ev_fz (i := 7) rfl) (eva_cons (ev_ml (i := 6) rfl) eva_nil)) (mv_cons rfl (mv_cons rfl mv_nil)) (fun W w => use_law_steps h_r11 w) (hn_fz (nl_int _))) eva_nil)) rfl rfl rfl rfl) ?_
    refine run_seq (δ1 := [some (.fz (.scr script)), some (.deal deal_9), some (.fz (eI turn1)), some (.fz (eI v4)), some (.fz ((eT eI) v5)), some (.fz ((eT eI) asks1)), some (.ml (List.map eI l5)), some (.fz ((eT eI) l7)), o_6, o_7, o_8, o_9, some (.fz (eI r10)), some (.fz (eI r11)), some (.fz ((eT eI) v5)), some (.fz (eI 0)), o_14, o_15, o_16, o_17, o_18, o_19, o_20, none, none, none]) (rund_parE (a2 := ((.fz ((eT eI) v5)))) (b2 := ((.fz (eI 0)))) (δ3 := [some (.fz (.scr script)), some (.deal deal_9), some (.fz (eI turn1)), some (.fz (eI v4)), some (.fz ((eT eI) v5)), some (.fz ((eT eI) asks1)), some (.ml (List.map eI l5)), some (.fz ((eT eI) l7)), o_6, o_7, o_8, o_9, some (.fz (eI r10)), some (.fz (eI r11)), some (.fz ((eT eI) v5)), some (.fz (eI 0)), o_14, o_15, o_16, o_17, o_18, o_19, o_20, none, none, none]) (eva_cons (ev_fz (i := 4) rfl) (eva_cons ev_c eva_nil)) rfl rfl rfl rfl) ?_
    refine run_foldS (vec := (fun (s : ((List Int) × Int)) δ => ∃ (j8 : Option Sl), pl j8 ∧ δ = [some (.fz (.scr script)), some (.deal deal_9), some (.fz (eI turn1)), some (.fz (eI v4)), some (.fz ((eT eI) v5)), some (.fz ((eT eI) asks1)), some (.ml (List.map eI l5)), some (.fz ((eT eI) l7)), j8, o_7, o_8, o_9, some (.fz (eI r10)), some (.fz (eI r11)), some (.fz ((eT eI) s.1)), some (.fz (eI s.2)), o_14, o_15, o_16, o_17, o_18, o_19, o_20, none, none, none])) (e := eI) (ei_tup (xs := asks1) (e := eI) (ev_fz (i := 5) rfl) rfl) ⟨_, pq, rfl⟩ h (fun x_ s_ s1_ δ_ _ hv h => ?_) (fun s_ δ_ hv h => ?_)
    · obtain ⟨block8, rfl⟩ : ∃ z, z = x_ := ⟨_, rfl⟩
      obtain ⟨lies2, own4⟩ := s_
      obtain ⟨o_21, pq2, rfl⟩ := hv
      refine run_tg (δ1 := [some (.fz (.scr script)), some (.deal deal_9), some (.fz (eI turn1)), some (.fz (eI v4)), some (.fz ((eT eI) v5)), some (.fz ((eT eI) asks1)), some (.ml (List.map eI l5)), some (.fz ((eT eI) l7)), some (.fz (eI block8)), o_7, o_8, o_9, some (.fz (eI r10)), some (.fz (eI r11)), some (.fz ((eT eI) lies2)), some (.fz (eI own4)), o_14, o_15, o_16, o_17, o_18, o_19, o_20, none, none, none]) (evg_fz rfl) ?_
      obtain ⟨r13, h_r13, h⟩ := bnd h
      obtain ⟨at_2, h_at_2, h⟩ := bnd h
      obtain ⟨own5, h_own5, h⟩ := bnds h
      refine run_last (δ1 := [some (.fz (.scr script)), some (.deal deal_9), some (.fz (eI turn1)), some (.fz (eI v4)), some (.fz ((eT eI) v5)), some (.fz ((eT eI) asks1)), some (.ml (List.map eI l5)), some (.fz ((eT eI) l7)), some (.fz (eI block8)), o_7, o_8, o_9, some (.fz (eI r10)), some (.fz (eI r11)), some (.fz ((eT eI) r13)), some (.fz (eI own5)), o_14, o_15, o_16, o_17, o_18, o_19, o_20, none, none, none]) (rund_parE (a2 := ((.fz ((eT eI) r13)))) (b2 := ((.fz (eI own5)))) (δ3 := [some (.fz (.scr script)), some (.deal deal_9), some (.fz (eI turn1)), some (.fz (eI v4)), some (.fz ((eT eI) v5)), some (.fz ((eT eI) asks1)), some (.ml (List.map eI l5)), some (.fz ((eT eI) l7)), some (.fz (eI block8)), o_7, o_8, o_9, some (.fz (eI r10)), some (.fz (eI r11)), some (.fz ((eT eI) r13)), some (.fz (eI own5)), o_14, o_15, o_16, o_17, o_18, o_19, o_20, none, none, none]) (eva_cons (ev_call (r := .fz ((eT eI) r13)) (eva_cons (ev_fz (i := 14) rfl) (eva_cons (ev_fz (i := 8) rfl) (eva_cons ev_c eva_nil))) (mv_cons rfl (mv_cons rfl (mv_cons rfl mv_nil))) (fun W w => use_law_ahead h_r13 w) rfl) (eva_cons (ev_bin (r := .fz (.int ((own4 + at_2) + 1))) (ev_bin (r := .fz (.int (own4 + at_2))) (ev_fz (i := 15) rfl) (ev_index (e := eI) (xs := lies2) (x := block8) eqe_int eqe_int (ev_fz (i := 14) rfl) (.inr ⟨rfl, rfl⟩) (ev_fz (i := 8) rfl) rfl h_at_2) rfl rfl (fun W w => w)) ev_c rfl rfl (fun W w => w)) eva_nil)) rfl rfl (congrArg (fun z => Sl.fz (eI z)) h_own5) rfl) ?_
      cases h
      exact ⟨.inl rfl, ⟨_, pl_fz, rfl⟩⟩
    · obtain ⟨lies3, own6⟩ := s_
      obtain ⟨o_22, pq3, rfl⟩ := hv
      obtain ⟨same, h_same, h⟩ := bnd h
      refine run_orS (evt_not (evt_tru (b := same) (ev_call (r := .fz (.bl same)) (eva_cons (ev_fz (i := 12) rfl) (eva_cons (ev_fz (i := 15) rfl) eva_nil)) (mv_cons rfl (mv_cons rfl mv_nil)) (fun W w => use_sameT (e := eI) (f := eI) (x := r10) (y := own6) h_same w) rfl) rfl rfl)) (fun hc => ?_) (fun hc => ?_)
      · have h := ite_t hc h
        exact run_retS_fz (d := eB false) ev_c (by cases h; exact ⟨⟨_, rfl⟩, rfl, rfl⟩)
      · have h := ite_f hc h
        obtain ⟨n, h_n, h⟩ := bnd h
        refine run_ifS (evt_test (b := (decide ((2 * r10) > (((4 * r11) + n) - (2 * (asks1.length : Int)))))) (ev_bin (r := .fz (.bl (decide ((2 * r10) > (((4 * r11) + n) - (2 * (asks1.length : Int))))))) (ev_bin (r := .fz (.int (2 * r10))) ev_c (ev_fz (i := 12) rfl) rfl rfl (fun W w => f_mulL (by decide) w)) (ev_bin (r := .fz (.int (((4 * r11) + n) - (2 * (asks1.length : Int))))) (ev_bin (r := .fz (.int ((4 * r11) + n))) (ev_bin (r := .fz (.int (4 * r11))) ev_c (ev_fz (i := 13) rfl) rfl rfl (fun W w => f_mulL (by decide) w)) (ev_bin (r := .fz (.int n)) (ev_fz (i := 3) rfl) (ev_bin (r := .fz (.int (v4 - 1))) (ev_fz (i := 3) rfl) ev_c rfl rfl (fun W w => w)) rfl rfl (fun W w => f_mul h_n w)) rfl rfl (fun W w => w)) (ev_bin (r := .fz (.int (2 * (asks1.length : Int)))) ev_c (ev_b1 (r := .fz (.int (asks1.length : Int))) (ev_fz (i := 5) rfl) rfl (fun W w => f_lenT (e := eI) (xs := asks1) w)) rfl rfl (fun W w => f_mulL (by decide) w)) rfl rfl (fun W w => w)) rfl rfl (fun W w => w)) rfl) (fun hc => ?_) (fun hc => ?_)
        · have h := ite_t hc h
          exact run_retS_fz (d := eB false) ev_c (by cases h; exact ⟨⟨_, rfl⟩, rfl, rfl⟩)
        · have h := ite_f hc h
          refine run_skip ?_
          obtain ⟨r14, h_r14, h⟩ := bnd h
          obtain ⟨⟨v8, deal_10⟩, h_v8, h⟩ := bnd h
          obtain ⟨some_, h_some_, h⟩ := bnds h
          refine run_seq (δ1 := [some (.fz (.scr script)), some (.deal deal_10), some (.fz (eI turn1)), some (.fz (eI v4)), some (.fz ((eT eI) v5)), some (.fz ((eT eI) asks1)), some (.ml (List.map eI l5)), some (.fz ((eT eI) l7)), o_22, some (.ml (List.map (eT eI) some_)), o_8, o_9, some (.fz (eI r10)), some (.fz (eI r11)), some (.fz ((eT eI) lies3)), some (.fz (eI own6)), o_14, o_15, o_16, o_17, o_18, o_19, o_20, none, none, none]) (rund_set (Ev.as (ev_lst (eva_cons (ev_fz (i := 7) rfl) (eva_cons (ev_fz (i := 4) rfl) (eva_cons (ev_b1 (r := .fz (.tup (List.map eI v8))) (ev_callM (k := 1) (r := .ml (List.map eI v8)) (w := .deal deal_10) (δ2 := [some (.fz (.scr script)), some (.deal deal_10), some (.fz (eI turn1)), some (.fz (eI v4)), some (.fz ((eT eI) v5)), some (.fz ((eT eI) asks1)), some (.ml (List.map eI l5)), some (.fz ((eT eI) l7)), o_22, o_7, o_8, o_9, some (.fz (eI r10)), some (.fz (eI r11)), some (.fz ((eT eI) lies3)), some (.fz (eI own6)), o_14, o_15, o_16, o_17, o_18, o_19, o_20, none, none, none]) (eva_cons (ev_dl (i := 1) rfl) (eva_cons (ev_lrg1 (ev_fz (i := 3) rfl) rfl h_r14) eva_nil)) rfl (mv_cons rfl mv_nil) rfl (fun W w => use_mixedT (e := eI) (xs := r14) (ys := v8) eqe_int h_v8 w) rfl rfl) rfl (fun W w => w)) eva_nil))) rfl (Nat.le_of_ble_eq_true rfl)) (congrArg (fun z => Sl.ml (List.map (eT eI) z)) h_some_)) (evg_ml rfl)) ?_
          obtain ⟨v9, h_v9, h⟩ := bnd h
          obtain ⟨l8, h_l8, h⟩ := bnd h
          refine run_for (vec := (fun (s : Unit) δ => ∃ (j10 : Option Sl), ∃ (j21 : Option Sl), ∃ (j22 : Option Sl), δ = [some (.fz (.scr script)), some (.deal deal_10), some (.fz (eI turn1)), some (.fz (eI v4)), some (.fz ((eT eI) v5)), some (.fz ((eT eI) asks1)), some (.ml (List.map eI l5)), some (.fz ((eT eI) l7)), o_22, some (.ml (List.map (eT eI) some_)), j10, o_9, some (.fz (eI r10)), some (.fz (eI r11)), some (.fz ((eT eI) lies3)), some (.fz (eI own6)), o_14, o_15, o_16, o_17, o_18, j21, j22, none, none, none])) (RT := (fun (r : Bool) => RetP (.fz (eB r)) [])) (e := (eT eI)) (ei_lst (xs := l8) (e := (eT eI)) (ev_bin (r := .ml (List.map (eT eI) l8)) (ev_ml (i := 9) rfl) (ev_ifEV (e1 := (fun z => Sl.fz ((eL (eT eI)) z))) (e2 := (fun z => Sl.ml (List.map (eT eI) z))) (evt_and (evt_test (b := (decide (v4 < 6))) (ev_bin (r := .fz (.bl (decide (v4 < 6)))) (ev_fz (i := 3) rfl) ev_c rfl rfl (fun W w => w)) rfl) (evt_test (b := (decide (turn1 = 1))) (ev_bin (r := .fz (.bl (decide (turn1 = 1)))) (ev_fz (i := 2) rfl) ev_c rfl rfl (fun W w => f_eq (e := eI) (x := turn1) (y := 1) eqe_int w)) rfl)) h_v9 (fun _ h => by obtain ⟨r15, h_r15, h⟩ := bnd h; exact Ev.as (ev_call (r := .fz ((eL (eT eI)) r15)) (eva_cons (ev_fz (i := 3) rfl) eva_nil) (mv_cons rfl mv_nil) (fun W w => use_law_orders h_r15 w) rfl) (congrArg (fun z => Sl.fz ((eL (eT eI)) z)) (Option.some.inj h))) (fun _ h => by exact Ev.as (ev_lst (ds := []) eva_nil rfl (Nat.zero_le _)) (congrArg (fun z => Sl.ml (List.map (eT eI) z)) (Option.some.inj h)))) rfl (view_ite rfl rfl) (fun W w => f_catL (e := (eT eI)) (xs := some_) (ys := v9) h_l8 w)) rfl) ⟨_, _, _, rfl⟩ h (fun x_ s_ s1_ δ_ _ hv h => ?_) (fun a_ fl_ δ_ e_ q_ => by cases e_; exact ⟨⟨_, q_.1⟩, q_⟩) (fun s_ δ_ hv h => ?_)
          · obtain ⟨order1, rfl⟩ : ∃ z, z = x_ := ⟨_, rfl⟩
            obtain ⟨⟩ := s_
            obtain ⟨o_23, o_24, o_25, rfl⟩ := hv
            refine run_tg (δ1 := [some (.fz (.scr script)), some (.deal deal_10), some (.fz (eI turn1)), some (.fz (eI v4)), some (.fz ((eT eI) v5)), some (.fz ((eT eI) asks1)), some (.ml (List.map eI l5)), some (.fz ((eT eI) l7)), o_22, some (.ml (List.map (eT eI) some_)), some (.fz ((eT eI) order1)), o_9, some (.fz (eI r10)), some (.fz (eI r11)), some (.fz ((eT eI) lies3)), some (.fz (eI own6)), o_14, o_15, o_16, o_17, o_18, o_24, o_25, none, none, none]) (evg_fz rfl) ?_
            obtain ⟨r18, h_r18, h⟩ := bnd h
            obtain ⟨r19, h_r19, h⟩ := bnd h
            refine run_seq (δ1 := [some (.fz (.scr script)), some (.deal deal_10), some (.fz (eI turn1)), some (.fz (eI v4)), some (.fz ((eT eI) v5)), some (.fz ((eT eI) asks1)), some (.ml (List.map eI l5)), some (.fz ((eT eI) l7)), o_22, some (.ml (List.map (eT eI) some_)), some (.fz ((eT eI) order1)), o_9, some (.fz (eI r10)), some (.fz (eI r11)), some (.fz ((eT eI) lies3)), some (.fz (eI own6)), o_14, o_15, o_16, o_17, o_18, some (.fz (eI r18)), some (.fz (eI r19)), none, none, none]) (rund_parE (a2 := ((.fz (eI r18)))) (b2 := ((.fz (eI r19)))) (δ3 := [some (.fz (.scr script)), some (.deal deal_10), some (.fz (eI turn1)), some (.fz (eI v4)), some (.fz ((eT eI) v5)), some (.fz ((eT eI) asks1)), some (.ml (List.map eI l5)), some (.fz ((eT eI) l7)), o_22, some (.ml (List.map (eT eI) some_)), some (.fz ((eT eI) order1)), o_9, some (.fz (eI r10)), some (.fz (eI r11)), some (.fz ((eT eI) lies3)), some (.fz (eI own6)), o_14, o_15, o_16, o_17, o_18, some (.fz (eI r18)), some (.fz (eI r19)), none, none, none]) (eva_cons (ev_call (r := .fz (eI r18)) (eva_cons (ev_fz (i := 10) rfl) (eva_cons (ev_ml (i := 6) rfl) eva_nil)) (mv_cons rfl (mv_cons rfl mv_nil)) (fun W w => use_law_steps h_r18 w) (hn_fz (nl_int _))) (eva_cons (ev_call (r := .fz (eI r19)) (eva_cons (ev_fz (i := 4) rfl) (eva_cons (ev_fz (i := 10) rfl) eva_nil)) (mv_cons rfl (mv_cons rfl mv_nil)) (fun W w => use_law_crossed h_r19 w) rfl) eva_nil)) rfl rfl rfl rfl) ?_
            refine run_or (evt_test (b := (decide (r18 < r11))) (ev_bin (r := .fz (.bl (decide (r18 < r11)))) (ev_fz (i := 21) rfl) (ev_fz (i := 13) rfl) rfl rfl (fun W w => w)) rfl) (fun hc => ?_) (fun hc => ?_)
            · have h := ite_t hc h
              exact run_ret_fz (d := eB false) ev_c (by cases h; exact ⟨⟨_, rfl⟩, rfl, rfl⟩)
            · have h := ite_f hc h
              refine run_if (evt_test (b := (decide (r10 > (((2 * r18) + r19) - (asks1.length : Int))))) (ev_bin (r := .fz (.bl (decide (r10 > (((2 * r18) + r19) - (asks1.length : Int)))))) (ev_fz (i := 12) rfl) (ev_bin (r := .fz (.int (((2 * r18) + r19) - (asks1.length : Int)))) (ev_bin (r := .fz (.int ((2 * r18) + r19))) (ev_bin (r := .fz (.int (2 * r18))) ev_c (ev_fz (i := 21) rfl) rfl rfl (fun W w => f_mulL (by decide) w)) (ev_fz (i := 22) rfl) rfl rfl (fun W w => w)) (ev_b1 (r := .fz (.int (asks1.length : Int))) (ev_fz (i := 5) rfl) rfl (fun W w => f_lenT (e := eI) (xs := asks1) w)) rfl rfl (fun W w => w)) rfl rfl (fun W w => w)) rfl) (fun hc => ?_) (fun hc => ?_)
              · have h := ite_t hc h
                exact run_ret_fz (d := eB false) ev_c (by cases h; exact ⟨⟨_, rfl⟩, rfl, rfl⟩)
              · have h := ite_f hc h
                cases h
                exact run_nx ⟨.inl rfl, ⟨_, _, _, rfl⟩⟩
          · obtain ⟨⟩ := s_
            obtain ⟨o_26, o_27, o_28, rfl⟩ := hv
            refine run_for (vec := (fun (s : Unit) δ => ∃ (j10 : Option Sl), ∃ (j16 : Option Sl), ∃ (j17 : Option Sl), ∃ (j18 : Option Sl), ∃ (j19 : Option Sl), δ = [some (.fz (.scr script)), some (.deal deal_10), some (.fz (eI turn1)), some (.fz (eI v4)), some (.fz ((eT eI) v5)), some (.fz ((eT eI) asks1)), some (.ml (List.map eI l5)), some (.fz ((eT eI) l7)), o_22, some (.fz ((eL (eT eI)) some_)), j10, o_9, some (.fz (eI r10)), some (.fz (eI r11)), some (.fz ((eT eI) lies3)), some (.fz (eI own6)), j16, j17, j18, j19, o_18, o_27, o_28, none, none, none])) (RT := (fun (r : Bool) => RetP (.fz (eB r)) [])) (e := (eT eI)) (ei_lst (xs := some_) (e := (eT eI)) (ev_ml (i := 9) rfl) rfl) ⟨_, _, _, _, _, rfl⟩ h (fun x_ s_ s1_ δ_ _ hv h => ?_) (fun a_ fl_ δ_ e_ q_ => by cases e_; exact ⟨⟨_, q_.1⟩, q_⟩) (fun s_ δ_ hv h => ?_)
            · obtain ⟨order3, rfl⟩ : ∃ z, z = x_ := ⟨_, rfl⟩
              obtain ⟨⟩ := s_
              obtain ⟨o_29, o_30, o_31, o_32, o_33, rfl⟩ := hv
              refine run_tg (δ1 := [some (.fz (.scr script)), some (.deal deal_10), some (.fz (eI turn1)), some (.fz (eI v4)), some (.fz ((eT eI) v5)), some (.fz ((eT eI) asks1)), some (.ml (List.map eI l5)), some (.fz ((eT eI) l7)), o_22, some (.fz ((eL (eT eI)) some_)), some (.fz ((eT eI) order3)), o_9, some (.fz (eI r10)), some (.fz (eI r11)), some (.fz ((eT eI) lies3)), some (.fz (eI own6)), o_30, o_31, o_32, o_33, o_18, o_27, o_28, none, none, none]) (evg_fz rfl) ?_
              obtain ⟨r28, h_r28, h⟩ := bnd h
              refine run_seq (δ1 := [some (.fz (.scr script)), some (.deal deal_10), some (.fz (eI turn1)), some (.fz (eI v4)), some (.fz ((eT eI) v5)), some (.fz ((eT eI) asks1)), some (.ml (List.map eI l5)), some (.fz ((eT eI) l7)), o_22, some (.fz ((eL (eT eI)) some_)), some (.fz ((eT eI) order3)), o_9, some (.fz (eI r10)), some (.fz (eI r11)), some (.fz ((eT eI) lies3)), some (.fz (eI own6)), some (.fz ((eT (eP (eT eI) eI)) r28)), o_31, o_32, o_33, o_18, o_27, o_28, none, none, none]) (rund_set (ev_call (r := .fz ((eT (eP (eT eI) eI)) r28)) (eva_cons (ev_fz (i := 10) rfl) (eva_cons (ev_fz (i := 5) rfl) eva_nil)) (mv_cons rfl (mv_cons rfl mv_nil)) (fun W w => use_law_keeping h_r28 w) rfl) (evg_fz rfl)) ?_
              obtain ⟨r29, h_r29, h⟩ := bnd h
              obtain ⟨v11, h_v11, h⟩ := bnd h
              obtain ⟨costs1, h_costs1, h⟩ := bnds h
              refine run_seq (δ1 := [some (.fz (.scr script)), some (.deal deal_10), some (.fz (eI turn1)), some (.fz (eI v4)), some (.fz ((eT eI) v5)), some (.fz ((eT eI) asks1)), some (.ml (List.map eI l5)), some (.fz ((eT eI) l7)), o_22, some (.fz ((eL (eT eI)) some_)), some (.fz ((eT eI) order3)), o_9, some (.fz (eI r10)), some (.fz (eI r11)), some (.fz ((eT eI) lies3)), some (.fz (eI own6)), some (.fz ((eT (eP (eT eI) eI)) r28)), some (.fz ((eP3 eI eI eI) costs1)), o_32, o_33, o_18, o_27, o_28, none, none, none]) (rund_set (Ev.as (ev_tup (eva_cons (ev_call (r := .fz (eI r29)) (eva_cons (ev_fz (i := 10) rfl) (eva_cons (ev_ml (i := 6) rfl) eva_nil)) (mv_cons rfl (mv_cons rfl mv_nil)) (fun W w => use_law_steps h_r29 w) (hn_fz (nl_int _))) (eva_cons (ev_ifEM (evt_test (b := (!decide (asks1 = ([] : (List Int))))) (ev_bin (r := .fz (.bl (!decide (asks1 = ([] : (List Int)))))) (ev_fz (i := 5) rfl) (ev_tup (ds := []) eva_nil rfl (Nat.zero_le _)) rfl rfl (fun W w => f_ne (e := (eT eI)) (x := asks1) (y := ([] : (List Int))) (eqe_tup eqe_int) w)) rfl) h_v11 (fun _ h => by obtain ⟨r30, h_r30, h⟩ := bnd h; exact Ev.as (ev_call (r := .fz (eI r30)) (eva_cons (ev_fz (i := 4) rfl) (eva_cons (ev_fz (i := 10) rfl) eva_nil)) (mv_cons rfl (mv_cons rfl mv_nil)) (fun W w => use_law_crossed h_r30 w) rfl) (congrArg (fun z => Sl.fz (eI z)) (Option.some.inj h))) (fun _ h => by exact Ev.as ev_c (congrArg (fun z => Sl.fz (eI z)) (Option.some.inj h)))) (eva_cons ev_c eva_nil))) rfl (Nat.le_of_ble_eq_true rfl)) (congrArg (fun z => Sl.fz ((eP3 eI eI eI) z)) h_costs1)) (evg_fz rfl)) ?_
              obtain ⟨r31, h_r31, h⟩ := bnd h
              obtain ⟨r32, h_r32, h⟩ := bnd h
              obtain ⟨told1, h_told1, h⟩ := bnds h
              refine run_seq (δ1 := [some (.fz (.scr script)), some (.deal deal_10), some (.fz (eI turn1)), some (.fz (eI v4)), some (.fz ((eT eI) v5)), some (.fz ((eT eI) asks1)), some (.ml (List.map eI l5)), some (.fz ((eT eI) l7)), o_22, some (.fz ((eL (eT eI)) some_)), some (.fz ((eT eI) order3)), o_9, some (.fz (eI r10)), some (.fz (eI r11)), some (.fz ((eT eI) lies3)), some (.fz (eI own6)), some (.fz ((eT (eP (eT eI) eI)) r28)), some (.fz ((eP3 eI eI eI) costs1)), some (.ml (List.map eA told1)), o_33, o_18, o_27, o_28, none, none, none]) (rund_set (Ev.as (ev_lst (eva_cons (ev_callK (r := .fz (eB r31)) eva_nil (eva_cons (ev_fz (i := 16) rfl) (eva_cons (ev_fz (i := 5) rfl) (eva_cons (ev_fz (i := 4) rfl) eva_nil))) (mv_cons rfl (mv_cons rfl (mv_cons rfl mv_nil))) ⟨rfl, rfl, by decide⟩ (fun W w => use_is_tape_way h_r31 w) rfl) (eva_cons (ev_callK (r := .fz ((eP3 eI eI eI) r32)) eva_nil (eva_cons (ev_fz (i := 16) rfl) (eva_cons (ev_fz (i := 5) rfl) (eva_cons (ev_fz (i := 4) rfl) eva_nil))) (mv_cons rfl (mv_cons rfl (mv_cons rfl mv_nil))) ⟨rfl, rfl, by decide⟩ (fun W w => use_way_costs h_r32 w) rfl) eva_nil)) rfl (Nat.le_of_ble_eq_true rfl)) (congrArg (fun z => Sl.ml (List.map eA z)) h_told1)) (evg_ml rfl)) ?_
              obtain ⟨r33, h_r33, h⟩ := bnd h
              obtain ⟨l11, h_l11, h⟩ := bnd h
              obtain ⟨r34, h_r34, h⟩ := bnd h
              obtain ⟨same3, h_same3, h⟩ := bnd h
              refine run_ifS (evt_not (evt_tru (b := same3) (ev_call (r := .fz (.bl same3)) (eva_cons (ev_bin (r := .ml (List.map eA l11)) (ev_ml (i := 18) rfl) (ev_lst (eva_cons (ev_call (r := .fz (eI r33)) (eva_cons (ev_fz (i := 4) rfl) (eva_cons (ev_fz (i := 10) rfl) eva_nil)) (mv_cons rfl (mv_cons rfl mv_nil)) (fun W w => use_crossed h_r33 w) rfl) eva_nil) rfl (Nat.le_of_ble_eq_true rfl)) rfl rfl (fun W w => f_catL (e := eA) (xs := told1) (ys := ([(eI r33)] : (List Dv))) h_l11 w)) (eva_cons (ev_lst (eva_cons ev_c (eva_cons (ev_fz (i := 17) rfl) (eva_cons (ev_call (r := .fz (eI r34)) (eva_cons (ev_fz (i := 4) rfl) (eva_cons (ev_fz (i := 10) rfl) eva_nil)) (mv_cons rfl (mv_cons rfl mv_nil)) (fun W w => use_law_crossed h_r34 w) rfl) eva_nil))) rfl (Nat.le_of_ble_eq_true rfl)) eva_nil)) (mv_cons rfl (mv_cons rfl mv_nil)) (fun W w => use_sameT (e := (eL eA)) (f := (eL eA)) (x := l11) (y := ([(eB true), ((eP3 eI eI eI) costs1), (eI r34)] : (List Dv))) h_same3 w) rfl) rfl rfl)) (fun hc => ?_) (fun hc => ?_)
              · have h := ite_t hc h
                exact run_retS_fz (d := eB false) ev_c (by cases h; exact ⟨⟨_, rfl⟩, rfl, rfl⟩)
              · have h := ite_f hc h
                refine run_skip ?_
                obtain ⟨l12, h_l12, h⟩ := bnd h
                refine run_seq (δ1 := [some (.fz (.scr script)), some (.deal deal_10), some (.fz (eI turn1)), some (.fz (eI v4)), some (.fz ((eT eI) v5)), some (.fz ((eT eI) asks1)), some (.ml (List.map eI l5)), some (.fz ((eT eI) l7)), o_22, some (.fz ((eL (eT eI)) some_)), some (.fz ((eT eI) order3)), o_9, some (.fz (eI r10)), some (.fz (eI r11)), some (.fz ((eT eI) lies3)), some (.fz (eI own6)), some (.fz ((eT (eP (eT eI) eI)) r28)), some (.fz ((eP3 eI eI eI) costs1)), some (.ml (List.map eA told1)), some (.fz ((eT (eP (eT eI) eI)) l12)), o_18, o_27, o_28, none, none, none]) (rund_set (ev_b1 (r := .fz (.tup (List.map (eP (eT eI) eI) l12))) (ev_comp (e := (eP (eT eI) eI)) (eo := (eP (eT eI) eI)) (ei_tup (xs := r28) (e := (eP (eT eI) eI)) (ev_fz (i := 16) rfl) rfl) (pl_cons rfl pl_fz (pl_cons rfl pl_none pl_nil)) h_l12 (fun x_ o_ _ h => by obtain ⟨lies5, place1⟩ := x_; exact ⟨[some (.fz (.scr script)), some (.deal deal_10), some (.fz (eI turn1)), some (.fz (eI v4)), some (.fz ((eT eI) v5)), some (.fz ((eT eI) asks1)), some (.ml (List.map eI l5)), some (.fz ((eT eI) l7)), o_22, some (.fz ((eL (eT eI)) some_)), some (.fz ((eT eI) order3)), o_9, some (.fz (eI r10)), some (.fz (eI r11)), some (.fz ((eT eI) lies5)), some (.fz (eI own6)), some (.fz ((eT (eP (eT eI) eI)) r28)), some (.fz ((eP3 eI eI eI) costs1)), some (.ml (List.map eA told1)), o_33, o_18, o_27, o_28, none, none, some (.fz (eI place1))], true, [some (.fz (.scr script)), some (.deal deal_10), some (.fz (eI turn1)), some (.fz (eI v4)), some (.fz ((eT eI) v5)), some (.fz ((eT eI) asks1)), some (.ml (List.map eI l5)), some (.fz ((eT eI) l7)), o_22, some (.fz ((eL (eT eI)) some_)), some (.fz ((eT eI) order3)), o_9, some (.fz (eI r10)), some (.fz (eI r11)), some (.fz ((eT eI) lies5)), some (.fz (eI own6)), some (.fz ((eT (eP (eT eI) eI)) r28)), some (.fz ((eP3 eI eI eI) costs1)), some (.ml (List.map eA told1)), o_33, o_18, o_27, o_28, none, none, some (.fz (eI place1))], (evg_unpT rfl rfl (evgs_cons (evg_fz rfl) (evgs_cons (evg_fz rfl) evgs_nil))), evt_nilT, (fun hc_ => by exact absurd hc_ (by decide)), (fun hc_ => by cases h; exact ⟨_, _, _, _, (ev_tup (eva_cons (ev_fz (i := 14) rfl) (eva_cons (ev_bin (r := .fz (.int (place1 + 1))) (ev_fz (i := 25) rfl) ev_c rfl rfl (fun W w => w)) eva_nil)) rfl (Nat.le_of_ble_eq_true rfl)), rfl, rfl, rfl⟩)⟩)) rfl (fun W w => w)) (evg_fz rfl)) ?_
                obtain ⟨r35, h_r35, h⟩ := bnd h
                obtain ⟨same4, h_same4, h⟩ := bnd h
                refine run_if (evt_not (evt_tru (b := same4) (ev_call (r := .fz (.bl same4)) (eva_cons (ev_call (r := .fz (eB r35)) (eva_cons (ev_fz (i := 4) rfl) (eva_cons (ev_fz (i := 5) rfl) (eva_cons (ev_fz (i := 19) rfl) eva_nil))) (mv_cons rfl (mv_cons rfl (mv_cons rfl mv_nil))) (fun W w => use_is_tape_way h_r35 w) rfl) (eva_cons (ev_bin (r := .fz (.bl (decide (asks1 = ([] : (List Int)))))) (ev_fz (i := 5) rfl) (ev_tup (ds := []) eva_nil rfl (Nat.zero_le _)) rfl rfl (fun W w => f_eq (e := (eT eI)) (x := asks1) (y := ([] : (List Int))) (eqe_tup eqe_int) w)) eva_nil)) (mv_cons rfl (mv_cons rfl mv_nil)) (fun W w => use_sameT (e := eB) (f := eB) (x := r35) (y := (decide (asks1 = ([] : (List Int))))) h_same4 w) rfl) rfl rfl)) (fun hc => ?_) (fun hc => ?_)
                · have h := ite_t hc h
                  exact run_ret_fz (d := eB false) ev_c (by cases h; exact ⟨⟨_, rfl⟩, rfl, rfl⟩)
                · have h := ite_f hc h
                  cases h
                  exact run_nx ⟨.inl rfl, ⟨_, _, _, _, _, rfl⟩⟩
            · obtain ⟨⟩ := s_
              obtain ⟨o_34, o_35, o_36, o_37, o_38, rfl⟩ := hv
              obtain ⟨few, h_few, h⟩ := bnds h
              refine run_seq (δ1 := [some (.fz (.scr script)), some (.deal deal_10), some (.fz (eI turn1)), some (.fz (eI v4)), some (.fz ((eT eI) v5)), some (.fz ((eT eI) asks1)), some (.ml (List.map eI l5)), some (.fz ((eT eI) l7)), o_22, some (.fz ((eL (eT eI)) some_)), o_34, some (.fz ((eT eI) few)), some (.fz (eI r10)), some (.fz (eI r11)), some (.fz ((eT eI) lies3)), some (.fz (eI own6)), o_35, o_36, o_37, o_38, o_18, o_27, o_28, none, none, none]) (rund_set (Ev.as (ev_sl (r := .fz (.tup (List.map eI (cut asks1 none (some 20))))) (ev_fz (i := 5) rfl) evo_none (evo_some (n := 20) ev_c rfl) rfl (fun W w => f_slT (e := eI) (xs := asks1) w)) (congrArg (fun z => Sl.fz ((eT eI) z)) h_few)) (evg_fz rfl)) ?_
              refine run_if (evt_test (b := (decide (v4 < 10))) (ev_bin (r := .fz (.bl (decide (v4 < 10)))) (ev_fz (i := 3) rfl) ev_c rfl rfl (fun W w => w)) rfl) (fun hc => ?_) (fun hc => ?_)
              · have h := ite_t hc h
                obtain ⟨it2, h_it2, h⟩ := bnd h
                obtain ⟨r36, h_r36, h⟩ := bnd h
                refine run_seq (δ1 := [some (.fz (.scr script)), some (.deal deal_10), some (.fz (eI turn1)), some (.fz (eI v4)), some (.fz ((eT eI) v5)), some (.fz ((eT eI) asks1)), some (.ml (List.map eI l5)), some (.fz ((eT eI) l7)), o_22, some (.fz ((eL (eT eI)) some_)), o_34, some (.fz ((eT eI) few)), some (.fz (eI r10)), some (.fz (eI r11)), some (.fz ((eT eI) lies3)), some (.fz (eI own6)), some (.fz ((eT (eP (eT eI) eI)) r36)), o_36, o_37, o_38, o_18, o_27, o_28, none, none, none]) (rund_set (ev_call (r := .fz ((eT (eP (eT eI) eI)) r36)) (eva_cons (ev_bin (r := .fz ((eT eI) it2)) (ev_fz (i := 9) rfl) (ev_neg (n := 1) ev_c rfl) rfl rfl (fun W w => f_ixL (e := (eT eI)) (xs := some_) h_it2 w)) (eva_cons (ev_fz (i := 11) rfl) eva_nil)) (mv_cons rfl (mv_cons rfl mv_nil)) (fun W w => use_law_keeping h_r36 w) rfl) (evg_fz rfl)) ?_
                obtain ⟨r37, h_r37, h⟩ := bnd h
                obtain ⟨r38, h_r38, h⟩ := bnd h
                refine run_seq (δ1 := [some (.fz (.scr script)), some (.deal deal_10), some (.fz (eI turn1)), some (.fz (eI v4)), some (.fz ((eT eI) v5)), some (.fz ((eT eI) asks1)), some (.ml (List.map eI l5)), some (.fz ((eT eI) l7)), o_22, some (.fz ((eL (eT eI)) some_)), o_34, some (.fz ((eT eI) few)), some (.fz (eI r10)), some (.fz (eI r11)), some (.fz ((eT eI) lies3)), some (.fz (eI own6)), some (.fz ((eT (eP (eT eI) eI)) r36)), o_36, o_37, o_38, some (.fz ((eT eI) r38)), o_27, o_28, none, none, none]) (rund_set (ev_call (r := .fz ((eT eI) r38)) (eva_cons (ev_fz (i := 11) rfl) (eva_cons (ev_call (r := .fz ((eT (eP (eT eI) eI)) r37)) (eva_cons (ev_fz (i := 4) rfl) (eva_cons (ev_fz (i := 11) rfl) eva_nil)) (mv_cons rfl (mv_cons rfl mv_nil)) (fun W w => use_law_front h_r37 w) rfl) (eva_cons (ev_fz (i := 16) rfl) eva_nil))) (mv_cons rfl (mv_cons rfl (mv_cons rfl mv_nil))) (fun W w => use_law_rising h_r38 w) rfl) (evg_fz rfl)) ?_
                obtain ⟨r39, h_r39, h⟩ := bnd h
                obtain ⟨same5, h_same5, h⟩ := bnd h
                refine run_if (evt_not (evt_tru (b := same5) (ev_call (r := .fz (.bl same5)) (eva_cons (ev_callK (r := .fz ((eT eI) r39)) eva_nil (eva_cons (ev_fz (i := 16) rfl) (eva_cons (ev_fz (i := 11) rfl) (eva_cons (ev_fz (i := 4) rfl) eva_nil))) (mv_cons rfl (mv_cons rfl (mv_cons rfl mv_nil))) ⟨rfl, rfl, by decide⟩ (fun W w => use_tape_potentials h_r39 w) rfl) (eva_cons (ev_fz (i := 20) rfl) eva_nil)) (mv_cons rfl (mv_cons rfl mv_nil)) (fun W w => use_sameT (e := (eT eI)) (f := (eT eI)) (x := r39) (y := r38) h_same5 w) rfl) rfl rfl)) (fun hc => ?_) (fun hc => ?_)
                · have h := ite_t hc h
                  exact run_ret_fz (d := eB false) ev_c (by cases h; exact ⟨⟨_, rfl⟩, rfl, rfl⟩)
                · have h := ite_f hc h
                  cases h
                  exact run_nx ⟨.inl rfl, ⟨_, _, _, _, _, _, _, _, _, _, _, _, _, _, _, _, _, _, _, _, _, pq3, pl_fz, rfl⟩⟩
              · have h := ite_f hc h
                cases h
                exact run_nx ⟨.inl rfl, ⟨_, _, _, _, _, _, _, _, _, _, _, _, _, _, _, _, _, _, _, _, _, pq3, pl_fz, rfl⟩⟩
  · obtain ⟨deal_11, rfl⟩ : ∃ z, z = s_ := ⟨_, rfl⟩
    obtain ⟨o_39, o_40, o_41, o_42, o_43, o_44, o_45, o_46, o_47, o_48, o_49, o_50, o_51, o_52, o_53, o_54, o_55, o_56, o_57, o_58, o_59, pq4, pq5, rfl⟩ := hv
    exact run_ret_fz (d := eB true) ev_c (by cases h; exact ⟨rfl, rfl⟩)
end Law

set_option Elab.async false
set_option linter.all false
set_option maxRecDepth 100000
set_option maxHeartbeats 4000000
namespace Law
open PySem L2 DL
set_option maxHeartbeats 4000000 in
theorem ok_is_integer {P : Program} {w : World} {K : PySem.W.Frag} {mg : Str → Option Value} {base : Heap} {f : Addr} {fd : FuncData} (B : Bs mg)  (F : Stands K mg "is_integer" s_is_integer f fd) : Has P w K mg base 1 "is_integer" s_is_integer ["value"] 0 1 S_is_integer f fd :=
  ⟨fn_ok (t := t_is_integer) F.fn sc_is_integer (by decide) (fun cdv A outer s H E Pn hr hP => have hu65 := room65 hr; (ds_one (dm_ret (de_and (de_callB cd_isi rfl B.isinstance (by decide +kernel) (da_cons (dv 0) (da_cons (de_ty rfl B.int (by decide +kernel)) da_nil))) (de_one (de_not (de_callB cd_isi rfl B.isinstance (by decide +kernel) (da_cons (dv 0) (da_cons (de_ty rfl B.bool (by decide +kernel)) da_nil))))))))) sem_is_integer, F.fn, F.mg, F.fn.binds (ps := ["value"]) fun _ _ _ _ _ _ us hl => match us, hl with | [_], _ => rfl⟩
set_option maxHeartbeats 4000000 in
theorem ok_is_number {P : Program} {w : World} {K : PySem.W.Frag} {mg : Str → Option Value} {base : Heap} {f : Addr} {fd : FuncData} (B : Bs mg) {a_is_integer : Addr} {fd_is_integer : FuncData} (h_is_integer : Has P w K mg base 1 "is_integer" s_is_integer ["value"] 0 1 S_is_integer a_is_integer fd_is_integer) (F : Stands K mg "is_number" s_is_number f fd) : Has P w K mg base 2 "is_number" s_is_number ["value"] 0 1 S_is_number f fd :=
  ⟨fn_ok (t := t_is_number) F.fn sc_is_number (by decide) (fun cdv A outer s H E Pn hr hP => have hu65 := room65 hr; (ds_one (dm_ret (de_and (de_callH h_is_integer mono_is_integer len_is_integer (hr.mono (by decide)) rfl (da_cons (dv 0) da_nil)) (de_one (de_cmp opd_ge (dv 0) de_int)))))) sem_is_number, F.fn, F.mg, F.fn.binds (ps := ["value"]) fun _ _ _ _ _ _ us hl => match us, hl with | [_], _ => rfl⟩
set_option maxHeartbeats 4000000 in
theorem ok_is_index {P : Program} {w : World} {K : PySem.W.Frag} {mg : Str → Option Value} {base : Heap} {f : Addr} {fd : FuncData} (B : Bs mg) {a_is_number : Addr} {fd_is_number : FuncData} (h_is_number : Has P w K mg base 2 "is_number" s_is_number ["value"] 0 1 S_is_number a_is_number fd_is_number) (F : Stands K mg "is_index" s_is_index f fd) : Has P w K mg base 3 "is_index" s_is_index ["value", "many"] 0 2 S_is_index f fd :=
  ⟨fn_ok (t := t_is_index) F.fn sc_is_index (by decide) (fun cdv A outer s H E Pn hr hP => have hu65 := room65 hr; (ds_one (dm_ret (de_and (de_callH h_is_number mono_is_number len_is_number (hr.mono (by decide)) rfl (da_cons (dv 0) da_nil)) (de_one (de_cmp opd_lt (dv 0) (dv 1))))))) sem_is_index, F.fn, F.mg, F.fn.binds (ps := ["value", "many"]) fun _ _ _ _ _ _ us hl => match us, hl with | [_, _], _ => rfl⟩
set_option maxHeartbeats 4000000 in
theorem ok_is_row_of {P : Program} {w : World} {K : PySem.W.Frag} {mg : Str → Option Value} {base : Heap} {f : Addr} {fd : FuncData} (B : Bs mg)  (F : Stands K mg "is_row_of" s_is_row_of f fd) : Has P w K mg base 1 "is_row_of" s_is_row_of ["value", "sizes"] 0 2 S_is_row_of f fd :=
  ⟨fn_ok (t := t_is_row_of) F.fn sc_is_row_of (by decide) (fun cdv A outer s H E Pn hr hP => have hu65 := room65 hr; (ds_one (dm_ret (de_and (de_callB cd_isi rfl B.isinstance (by decide +kernel) (da_cons (dv 0) (da_cons (de_ty rfl B.tuple (by decide +kernel)) da_nil))) (de_one (de_cmp (opd_in hu65) (de_callB cd_len rfl B.len (by decide +kernel) (da_cons (dv 0) da_nil)) (dv 1))))))) sem_is_row_of, F.fn, F.mg, F.fn.binds (ps := ["value", "sizes"]) fun _ _ _ _ _ _ us hl => match us, hl with | [_, _], _ => rfl⟩
set_option maxHeartbeats 4000000 in
theorem ok_is_tape {P : Program} {w : World} {K : PySem.W.Frag} {mg : Str → Option Value} {base : Heap} {f : Addr} {fd : FuncData} (B : Bs mg) {a_is_index : Addr} {fd_is_index : FuncData} (h_is_index : Has P w K mg base 3 "is_index" s_is_index ["value", "many"] 0 2 S_is_index a_is_index fd_is_index) {a_is_row_of : Addr} {fd_is_row_of : FuncData} (h_is_row_of : Has P w K mg base 1 "is_row_of" s_is_row_of ["value", "sizes"] 0 2 S_is_row_of a_is_row_of fd_is_row_of) (F : Stands K mg "is_tape" s_is_tape f fd) : Has P w K mg base 4 "is_tape" s_is_tape ["value", "many"] 0 2 S_is_tape f fd :=
  ⟨fn_ok (t := t_is_tape) F.fn sc_is_tape (by decide) (fun cdv A outer s H E Pn hr hP => have hu65 := room65 hr; (ds_cons (dm_if (DW.toB (dw_or (db_not (db_tru (de_callH h_is_row_of mono_is_row_of len_is_row_of (hr.mono (by decide)) rfl (da_cons (dv 0) (da_cons (de_tup (da_cons (dv 1) da_nil)) da_nil))))) (dw_one' (db_not (db_tru (de_callB (cd_all rfl) rfl B.all (by decide +kernel) (da_cons (de_lc (own := [("one", 2)]) (ixs := [2]) rfl sc_is_tape.nd (di_seq (dv 0)) (blkOk_by (N := ["value", "many", "one"]) (sc := defScope s_is_tape) (by decide +kernel)) (fun _ _ _ _ _ => (dg_name (i := 2) sc_is_tape.nd rfl (Or.inl rfl) rfl)) (fun _ _ _ _ _ => dts_nil) (fun _ _ _ _ _ => (de_callH h_is_index mono_is_index len_is_index (hr.mono (by decide)) rfl (da_cons (dv 2) (da_cons (dv 1) da_nil)))) (by decide)) da_nil)))))))
  (ds_one (dm_ret de_bl))
  ds_nil)
  (ds_one (dm_ret (de_cmp (opd_eq hr.units) (de_lenSet rfl B.len rfl B.set (dv 0)) (dv 1)))))) sem_is_tape, F.fn, F.mg, F.fn.binds (ps := ["value", "many"]) fun _ _ _ _ _ _ us hl => match us, hl with | [_, _], _ => rfl⟩
set_option maxHeartbeats 4000000 in
theorem ok_crossed {P : Program} {w : World} {K : PySem.W.Frag} {mg : Str → Option Value} {base : Heap} {f : Addr} {fd : FuncData} (B : Bs mg)  (F : Stands K mg "crossed" s_crossed f fd) : Has P w K mg base 1 "crossed" s_crossed ["one", "other"] 0 2 S_crossed f fd :=
  ⟨fn_ok (t := t_crossed) F.fn sc_crossed (by decide) (fun cdv A outer s H E Pn hr hP => have hu65 := room65 hr; (ds_cons (dm_set (i := 2) sc_crossed.nd rfl (Or.inr rfl) (hP 2 (by decide)) (de_dc (own := [("at", 5), ("block", 4)]) (ixs := [5, 4]) rfl sc_crossed.nd (di_enum rfl B.enumerate (da_cons (dv 1) da_nil)) (blkOk_by (N := ["one", "other", "spot", "row", "block", "at", "later"]) (sc := defScope s_crossed) (by decide +kernel)) (fun _ _ _ _ _ => (dg_unp rfl (dgs_cons (dg_name (i := 5) sc_crossed.nd rfl (Or.inl rfl) rfl) (dgs_cons (dg_name (i := 4) sc_crossed.nd rfl (Or.inl rfl) rfl) dgs_nil)))) (fun _ _ _ _ _ => dts_nil) (fun _ _ _ _ _ => (dv 4)) (fun _ _ _ _ _ => (dv 5)) (by decide)))
  (ds_cons (dm_set (i := 3) sc_crossed.nd rfl (Or.inr rfl) (hP 3 (by decide)) (de_lc (own := [("block", 4)]) (ixs := [4]) rfl sc_crossed.nd (di_seq (dv 0)) (blkOk_by (N := ["one", "other", "spot", "row", "block", "at", "later"]) (sc := defScope s_crossed) (by decide +kernel)) (fun _ _ _ _ _ => (dg_name (i := 4) sc_crossed.nd rfl (Or.inl rfl) rfl)) (fun _ _ _ _ _ => dts_nil) (fun _ _ _ _ _ => (de_ix hu65 (dv 2) (dv 4))) (by decide)))
  (ds_one (dm_ret (de_callB cd_len rfl B.len (by decide +kernel) (da_cons (de_lc2 (own := [("at", 5), ("later", 6)]) (vs1 := [6]) (ixs := [5]) (ixs1 := [6]) rfl sc_crossed.nd (di_range1 rfl B.range (da_cons (de_callB cd_len rfl B.len (by decide +kernel) (da_cons (dv 3) da_nil)) da_nil)) (blkOk_by (N := ["one", "other", "spot", "row", "block", "at", "later"]) (sc := defScope s_crossed) (by decide +kernel)) (by decide) (fun _ _ _ _ _ => (dg_name (i := 5) sc_crossed.nd rfl (Or.inl rfl) rfl)) (fun _ _ _ _ _ => dts_nil) (fun _ _ _ _ _ => (di_range2 rfl B.range (da_cons (de_op opd_add (dv 5) de_int) (da_cons (de_callB cd_len rfl B.len (by decide +kernel) (da_cons (dv 3) da_nil)) da_nil)))) (fun _ _ _ _ _ => (dg_name (i := 6) sc_crossed.nd rfl (Or.inl rfl) rfl)) (fun _ _ _ _ _ => (pts_one (db_cmp opd_gt (de_ix hu65 (dv 3) (dv 5)) (de_ix hu65 (dv 3) (dv 6))))) (fun _ _ _ _ _ => de_int) (by decide) (by decide)) da_nil))))))) sem_crossed, F.fn, F.mg, F.fn.binds (ps := ["one", "other"]) fun _ _ _ _ _ _ us hl => match us, hl with | [_, _], _ => rfl⟩
set_option maxHeartbeats 4000000 in
theorem ok_laid_ahead {P : Program} {w : World} {K : PySem.W.Frag} {mg : Str → Option Value} {base : Heap} {f : Addr} {fd : FuncData} (B : Bs mg)  (F : Stands K mg "laid_ahead" s_laid_ahead f fd) : Has P w K mg base 1 "laid_ahead" s_laid_ahead ["tape", "block", "place"] 0 3 S_laid_ahead f fd :=
  ⟨fn_ok (t := t_laid_ahead) F.fn sc_laid_ahead (by decide) (fun cdv A outer s H E Pn hr hP => have hu65 := room65 hr; (ds_cons (dm_setLc (i := 3) (own := [("one", 4)]) (ixs := [4]) rfl sc_laid_ahead.nd rfl rfl (sw_true rfl rfl rfl (by decide +kernel)) (hP 3 (by decide)) (di_seq (dv 0)) (blkOk_by (N := ["tape", "block", "place", "rest", "one"]) (sc := defScope s_laid_ahead) (by decide +kernel)) (fun _ _ _ _ _ => (dg_name (i := 4) sc_laid_ahead.nd rfl (Or.inl rfl) rfl)) (fun _ _ _ _ _ => (pts_one (db_cmp (opd_ne hr.units) (dv 4) (dv 1)))) (fun _ _ _ _ _ => (dv 4)) (by decide))
  (ds_one (dm_ret (de_callTy cd_tuple rfl B.tuple (by decide +kernel) (da_cons (de_op opd_add (de_op opd_add (de_sl (dv 3) do_none (do_some (dv 2))) (de_lst (da_cons (dv 1) da_nil))) (de_sl (dv 3) (do_some (dv 2)) do_none)) da_nil)))))) sem_laid_ahead, F.fn, F.mg, F.fn.binds (ps := ["tape", "block", "place"]) fun _ _ _ _ _ _ us hl => match us, hl with | [_, _, _], _ => rfl⟩
set_option maxHeartbeats 4000000 in
theorem ok_is_tape_way {P : Program} {w : World} {K : PySem.W.Frag} {mg : Str → Option Value} {base : Heap} {f : Addr} {fd : FuncData} (B : Bs mg) {a_is_index : Addr} {fd_is_index : FuncData} (h_is_index : Has P w K mg base 3 "is_index" s_is_index ["value", "many"] 0 2 S_is_index a_is_index fd_is_index) {a_is_tape : Addr} {fd_is_tape : FuncData} (h_is_tape : Has P w K mg base 4 "is_tape" s_is_tape ["value", "many"] 0 2 S_is_tape a_is_tape fd_is_tape) {a_is_row_of : Addr} {fd_is_row_of : FuncData} (h_is_row_of : Has P w K mg base 1 "is_row_of" s_is_row_of ["value", "sizes"] 0 2 S_is_row_of a_is_row_of fd_is_row_of) (F : Stands K mg "is_tape_way" s_is_tape_way f fd) : Has P w K mg base 5 "is_tape_way" s_is_tape_way ["tape", "asks", "value"] 0 3 S_is_tape_way f fd :=
  ⟨fn_ok (t := t_is_tape_way) F.fn sc_is_tape_way (by decide) (fun cdv A outer s H E Pn hr hP => have hu65 := room65 hr; (ds_cons (dm_if (db_not (db_tru (de_callH h_is_row_of mono_is_row_of len_is_row_of (hr.mono (by decide)) rfl (da_cons (dv 2) (da_cons (de_tup (da_cons (de_callB cd_len rfl B.len (by decide +kernel) (da_cons (dv 1) da_nil)) da_nil)) da_nil)))))
  (ds_one (dm_ret de_bl))
  ds_nil)
  (ds_cons (dm_for PassesOwn.never rfl (di_zip rfl B.zip (da_cons (dv 1) (da_cons (dv 2) da_nil))) (dg_unp rfl (dgs_cons (dg_name (i := 3) sc_is_tape_way.nd rfl (Or.inl rfl) (hP 3 (by decide))) (dgs_cons (dg_name (i := 4) sc_is_tape_way.nd rfl (Or.inl rfl) (hP 4 (by decide))) dgs_nil)))
  (ds_cons (dm_if (DW.toB (dw_or (db_not (db_tru (de_callH h_is_row_of mono_is_row_of len_is_row_of (hr.mono (by decide)) rfl (da_cons (dv 4) (da_cons (de_tup (da_cons de_int da_nil)) da_nil))))) (dw_one' (db_not (db_tru (de_callH h_is_tape mono_is_tape len_is_tape (hr.mono (by decide)) rfl (da_cons (de_ix hu65 (dv 4) de_int) (da_cons (de_callB cd_len rfl B.len (by decide +kernel) (da_cons (dv 0) da_nil)) da_nil))))))))
  (ds_one (dm_ret de_bl))
  ds_nil)
  (ds_one (dm_if (db_not (db_tru (de_callH h_is_index mono_is_index len_is_index (hr.mono (by decide)) rfl (da_cons (de_ix hu65 (dv 4) de_int) (da_cons (de_op opd_add (de_index hu65 (de_ix hu65 (dv 4) de_int) (da_cons (dv 3) da_nil)) de_int) da_nil)))))
  (ds_one (dm_ret de_bl))
  ds_nil))))
  (ds_one (dm_ret de_bl))))) sem_is_tape_way, F.fn, F.mg, F.fn.binds (ps := ["tape", "asks", "value"]) fun _ _ _ _ _ _ us hl => match us, hl with | [_, _, _], _ => rfl⟩
set_option maxHeartbeats 4000000 in
theorem ok_way_costs {P : Program} {w : World} {K : PySem.W.Frag} {mg : Str → Option Value} {base : Heap} {f : Addr} {fd : FuncData} (B : Bs mg) {a_laid_ahead : Addr} {fd_laid_ahead : FuncData} (h_laid_ahead : Has P w K mg base 1 "laid_ahead" s_laid_ahead ["tape", "block", "place"] 0 3 S_laid_ahead a_laid_ahead fd_laid_ahead) {a_crossed : Addr} {fd_crossed : FuncData} (h_crossed : Has P w K mg base 1 "crossed" s_crossed ["one", "other"] 0 2 S_crossed a_crossed fd_crossed) (F : Stands K mg "way_costs" s_way_costs f fd) : Has P w K mg base 2 "way_costs" s_way_costs ["tape", "asks", "way"] 0 3 S_way_costs f fd :=
  ⟨fn_ok (t := t_way_costs) F.fn sc_way_costs (by decide) (fun cdv A outer s H E Pn hr hP => have hu65 := room65 hr; (ds_cons (dm_asg (de_tup (da_cons de_int (da_cons de_int (da_cons de_int (da_cons (de_callTy cd_tuple rfl B.tuple (by decide +kernel) (da_cons (dv 0) da_nil)) da_nil))))) (dg_unp rfl (dgs_cons (dg_name (i := 3) sc_way_costs.nd rfl (Or.inl rfl) (hP 3 (by decide))) (dgs_cons (dg_name (i := 4) sc_way_costs.nd rfl (Or.inl rfl) (hP 4 (by decide))) (dgs_cons (dg_name (i := 5) sc_way_costs.nd rfl (Or.inl rfl) (hP 5 (by decide))) (dgs_cons (dg_name (i := 6) sc_way_costs.nd rfl (Or.inl rfl) (hP 6 (by decide))) dgs_nil))))))
  (ds_cons (dm_for PassesOwn.never rfl (di_zip rfl B.zip (da_cons (dv 1) (da_cons (dv 2) da_nil))) (dg_unp rfl (dgs_cons (dg_name (i := 7) sc_way_costs.nd rfl (Or.inl rfl) (hP 7 (by decide))) (dgs_cons (dg_unp rfl (dgs_cons (dg_name (i := 9) sc_way_costs.nd rfl (Or.inl rfl) (hP 9 (by decide))) (dgs_cons (dg_name (i := 10) sc_way_costs.nd rfl (Or.inl rfl) (hP 10 (by decide))) dgs_nil))) dgs_nil)))
  (ds_cons (dm_set (i := 8) sc_way_costs.nd rfl (Or.inl rfl) (hP 8 (by decide)) (de_index hu65 (dv 9) (da_cons (dv 7) da_nil)))
  (ds_cons (dm_set (i := 3) sc_way_costs.nd rfl (Or.inl rfl) (hP 3 (by decide)) (de_op opd_add (de_op opd_add (dv 3) (dv 8)) de_int))
  (ds_cons (dm_set (i := 4) sc_way_costs.nd rfl (Or.inl rfl) (hP 4 (by decide)) (de_op opd_add (dv 4) (de_callH h_crossed mono_crossed len_crossed (hr.mono (by decide)) rfl (da_cons (dv 6) (da_cons (dv 9) da_nil)))))
  (ds_cons (dm_set (i := 5) sc_way_costs.nd rfl (Or.inl rfl) (hP 5 (by decide)) (de_op opd_sub (de_op opd_add (dv 5) (dv 8)) (dv 10)))
  (ds_one (dm_set (i := 6) sc_way_costs.nd rfl (Or.inl rfl) (hP 6 (by decide)) (de_callH h_laid_ahead mono_laid_ahead len_laid_ahead (hr.mono (by decide)) rfl (da_cons (dv 9) (da_cons (dv 7) (da_cons (dv 10) da_nil)))))))))))
  (ds_one (dm_ret (de_tup (da_cons (dv 3) (da_cons (dv 4) (da_cons (dv 5) da_nil))))))))) sem_way_costs, F.fn, F.mg, F.fn.binds (ps := ["tape", "asks", "way"]) fun _ _ _ _ _ _ us hl => match us, hl with | [_, _, _], _ => rfl⟩
set_option maxHeartbeats 4000000 in
theorem ok_front_way {P : Program} {w : World} {K : PySem.W.Frag} {mg : Str → Option Value} {base : Heap} {f : Addr} {fd : FuncData} (B : Bs mg) {a_laid_ahead : Addr} {fd_laid_ahead : FuncData} (h_laid_ahead : Has P w K mg base 1 "laid_ahead" s_laid_ahead ["tape", "block", "place"] 0 3 S_laid_ahead a_laid_ahead fd_laid_ahead) (F : Stands K mg "front_way" s_front_way f fd) : Has P w K mg base 2 "front_way" s_front_way ["tape", "asks"] 0 2 S_front_way f fd :=
  ⟨fn_ok (t := t_front_way) F.fn sc_front_way (by decide) (fun cdv A outer s H E Pn hr hP => have hu65 := room65 hr; (ds_cons (dm_par (i := 3) (j := 4) rfl sc_front_way.nd rfl rfl (by decide) rfl rfl (hP 3 (by decide)) (hP 4 (by decide)) (da_cons (de_callTy cd_tuple rfl B.tuple (by decide +kernel) (da_cons (dv 0) da_nil)) (da_cons (de_lst da_nil) da_nil)) (by rfl))
  (ds_cons (dm_for PassesOwn.never rfl (di_seq (dv 1)) (dg_name (i := 2) sc_front_way.nd rfl (Or.inl rfl) (hP 2 (by decide)))
  (ds_cons (dm_expr (de_append (dv 4) (da_cons (de_tup (da_cons (dv 3) (da_cons de_int da_nil))) da_nil)))
  (ds_one (dm_set (i := 3) sc_front_way.nd rfl (Or.inl rfl) (hP 3 (by decide)) (de_callH h_laid_ahead mono_laid_ahead len_laid_ahead (hr.mono (by decide)) rfl (da_cons (dv 3) (da_cons (dv 2) (da_cons de_int da_nil))))))))
  (ds_one (dm_ret (de_callTy cd_tuple rfl B.tuple (by decide +kernel) (da_cons (dv 4) da_nil))))))) sem_front_way, F.fn, F.mg, F.fn.binds (ps := ["tape", "asks"]) fun _ _ _ _ _ _ us hl => match us, hl with | [_, _], _ => rfl⟩
set_option maxHeartbeats 4000000 in
theorem ok_front_steps {P : Program} {w : World} {K : PySem.W.Frag} {mg : Str → Option Value} {base : Heap} {f : Addr} {fd : FuncData} (B : Bs mg) {a_way_costs : Addr} {fd_way_costs : FuncData} (h_way_costs : Has P w K mg base 2 "way_costs" s_way_costs ["tape", "asks", "way"] 0 3 S_way_costs a_way_costs fd_way_costs) {a_front_way : Addr} {fd_front_way : FuncData} (h_front_way : Has P w K mg base 2 "front_way" s_front_way ["tape", "asks"] 0 2 S_front_way a_front_way fd_front_way) (F : Stands K mg "front_steps" s_front_steps f fd) : Has P w K mg base 3 "front_steps" s_front_steps ["tape", "asks"] 0 2 S_front_steps f fd :=
  ⟨fn_ok (t := t_front_steps) F.fn sc_front_steps (by decide) (fun cdv A outer s H E Pn hr hP => have hu65 := room65 hr; (ds_one (dm_ret (de_ix hu65 (de_callH h_way_costs mono_way_costs len_way_costs (hr.mono (by decide)) rfl (da_cons (dv 0) (da_cons (dv 1) (da_cons (de_callH h_front_way mono_front_way len_front_way (hr.mono (by decide)) rfl (da_cons (dv 0) (da_cons (dv 1) da_nil))) da_nil)))) de_int)))) sem_front_steps, F.fn, F.mg, F.fn.binds (ps := ["tape", "asks"]) fun _ _ _ _ _ _ us hl => match us, hl with | [_, _], _ => rfl⟩
set_option maxHeartbeats 4000000 in
theorem ok_tape_potentials {P : Program} {w : World} {K : PySem.W.Frag} {mg : Str → Option Value} {base : Heap} {f : Addr} {fd : FuncData} (B : Bs mg) {a_crossed : Addr} {fd_crossed : FuncData} (h_crossed : Has P w K mg base 1 "crossed" s_crossed ["one", "other"] 0 2 S_crossed a_crossed fd_crossed) {a_laid_ahead : Addr} {fd_laid_ahead : FuncData} (h_laid_ahead : Has P w K mg base 1 "laid_ahead" s_laid_ahead ["tape", "block", "place"] 0 3 S_laid_ahead a_laid_ahead fd_laid_ahead) (F : Stands K mg "tape_potentials" s_tape_potentials f fd) : Has P w K mg base 2 "tape_potentials" s_tape_potentials ["tape", "asks", "way"] 0 3 S_tape_potentials f fd :=
  ⟨fn_ok (t := t_tape_potentials) F.fn sc_tape_potentials (by decide) (fun cdv A outer s H E Pn hr hP => have hu65 := room65 hr; (ds_cons (dm_par (i := 3) (j := 4) rfl sc_tape_potentials.nd rfl rfl (by decide) rfl rfl (hP 3 (by decide)) (hP 4 (by decide)) (da_cons (de_callTy cd_tuple rfl B.tuple (by decide +kernel) (da_cons (dv 0) da_nil)) (da_cons (de_lst (da_cons de_int da_nil)) da_nil)) (by rfl))
  (ds_cons (dm_for PassesOwn.never rfl (di_zip rfl B.zip (da_cons (dv 1) (da_cons (dv 2) da_nil))) (dg_unp rfl (dgs_cons (dg_name (i := 5) sc_tape_potentials.nd rfl (Or.inl rfl) (hP 5 (by decide))) (dgs_cons (dg_unp rfl (dgs_cons (dg_name (i := 6) sc_tape_potentials.nd rfl (Or.inl rfl) (hP 6 (by decide))) (dgs_cons (dg_name (i := 7) sc_tape_potentials.nd rfl (Or.inl rfl) (hP 7 (by decide))) dgs_nil))) dgs_nil)))
  (ds_cons (dm_set (i := 3) sc_tape_potentials.nd rfl (Or.inl rfl) (hP 3 (by decide)) (de_callH h_laid_ahead mono_laid_ahead len_laid_ahead (hr.mono (by decide)) rfl (da_cons (dv 3) (da_cons (dv 5) (da_cons de_int da_nil)))))
  (ds_one (dm_expr (de_append (dv 4) (da_cons (de_callH h_crossed mono_crossed len_crossed (hr.mono (by decide)) rfl (da_cons (dv 3) (da_cons (de_callH h_laid_ahead mono_laid_ahead len_laid_ahead (hr.mono (by decide)) rfl (da_cons (dv 6) (da_cons (dv 5) (da_cons (dv 7) da_nil)))) da_nil))) da_nil))))))
  (ds_one (dm_ret (de_callTy cd_tuple rfl B.tuple (by decide +kernel) (da_cons (dv 4) da_nil))))))) sem_tape_potentials, F.fn, F.mg, F.fn.binds (ps := ["tape", "asks", "way"]) fun _ _ _ _ _ _ us hl => match us, hl with | [_, _, _], _ => rfl⟩
set_option maxHeartbeats 4000000 in
theorem ok_law_draw {P : Program} {w : World} {K : PySem.W.Frag} {mg : Str → Option Value} {base : Heap} {f : Addr} {fd : FuncData} (B : Bs mg)  (F : Stands K mg "_law_draw" s_law_draw f fd) : Has P w K mg base 1 "_law_draw" s_law_draw ["script", "salt"] 0 2 S_law_draw f fd :=
  ⟨fn_ok (t := t_law_draw) F.fn sc_law_draw (by decide) (fun cdv A outer s H E Pn hr hP => have hu65 := room65 hr; (ds_cons (dm_setLc (i := 2) (own := [("cell", 4)]) (ixs := [4]) rfl sc_law_draw.nd rfl rfl (sw_true rfl rfl rfl (by decide +kernel)) (hP 2 (by decide)) (di_seq (de_sl (dv 0) do_none (do_some de_int))) (blkOk_by (N := ["script", "salt", "cells", "blend", "cell"]) (sc := defScope s_law_draw) (by decide +kernel)) (fun _ _ _ _ _ => (dg_name (i := 4) sc_law_draw.nd rfl (Or.inl rfl) rfl)) (fun _ _ _ _ _ => dts_nil) (fun _ _ _ _ _ => (de_callB cd_abs rfl B.abs (by decide +kernel) (da_cons (de_callTy cd_int rfl B.int (by decide +kernel) (da_cons (dv 4) da_nil)) da_nil))) (by decide))
  (ds_cons (dm_set (i := 3) sc_law_draw.nd rfl (Or.inl rfl) (hP 3 (by decide)) (de_op opd_add de_int (de_op opd_mul de_int (dv 1))))
  (ds_cons (dm_for PassesOwn.never rfl (di_seq (dv 2)) (dg_name (i := 4) sc_law_draw.nd rfl (Or.inl rfl) (hP 4 (by decide)))
  (ds_one (dm_set (i := 3) sc_law_draw.nd rfl (Or.inl rfl) (hP 3 (by decide)) (de_op opd_mod (de_callTy cd_int rfl B.int (by decide +kernel) (da_cons (de_op opd_add (de_op opd_add (de_op opd_mul (dv 3) de_int) (de_op opd_mod (dv 4) de_int)) de_int) da_nil)) de_int))))
  (ds_one (dm_ret (de_deal (de_rev (de_lc (own := [("cell", 4)]) (ixs := [4]) rfl sc_law_draw.nd (di_seq (dv 2)) (blkOk_by (N := ["script", "salt", "cells", "blend", "cell"]) (sc := defScope s_law_draw) (by decide +kernel)) (fun _ _ _ _ _ => (dg_name (i := 4) sc_law_draw.nd rfl (Or.inl rfl) rfl)) (fun _ _ _ _ _ => (pts_one (db_cmp opd_ge (dv 4) (de_op opd_pow de_int de_int)))) (fun _ _ _ _ _ => (dv 4)) (by decide))) (dv 3)))))))) sem_law_draw, F.fn, F.mg, F.fn.binds (ps := ["script", "salt"]) fun _ _ _ _ _ _ us hl => match us, hl with | [_, _], _ => rfl⟩
theorem ok_law_any {P : Program} {w : World} {K : PySem.W.Frag} {mg : Str → Option Value} {base : Heap} {f : Addr} {fd : FuncData} (B : Bs mg) (F : Stands K mg "_law_any" s_law_any f fd) : Has P w K mg base 1 "_law_any" s_law_any ["deal", "bound"] 1 2 S_law_any f fd :=
  ⟨fn_ok (t := t_any) F.fn sc_law_any (by decide) (fun cdv A outer s H E Pn hr hP =>
    have v0 : ∀ {pos}, PE _ (.Name "deal" pos) (tVar 0) := fun {pos} => pe_var rfl (Or.inl rfl)
    have v1 : ∀ {pos}, PE _ (.Name "bound" pos) (tVar 1) := fun {pos} => pe_var rfl (Or.inl rfl)
    have v2 : ∀ {pos}, PE _ (.Name "rest" pos) (tVar 2) := fun {pos} => pe_var rfl (Or.inl rfl)
    PSs.to (pss_cons (ps_while PassesOwn.never (PW.pt (pw_and (pt_cmpR (op_neD hr.units) (pe_ix ix_list v0 pe_int (fun _ _ => rfl)) (pe_lst pa_nil) rfl) (pw_and1 (pt_cmpR op_eq (pe_ix ix_list (pe_ix ix_list v0 pe_int (fun _ _ => rfl)) (pe_un un_neg pe_int) (fun _ _ => rfl)) pe_int rfl))))
      (pss_one (ps_expr (pe_bm0 PySem.F.plainAttrs_list PySem.F.slot_list_pop PySem.F.type_list_pop mt_pop (pe_ix ix_list v0 pe_int (fun _ _ => rfl))))))
    (pss_cons (ps_if (pt_cmpR (op_neD hr.units) (pe_ix ix_list v0 pe_int (fun _ _ => rfl)) (pe_lst pa_nil) rfl)
      (pss_cons (ps_set sc_law_any.nd (i := 2) rfl (Or.inl rfl) (pe_callTy call_int1 rfl B.int (by decide +kernel) (pa_cons (pe_bm0 PySem.F.plainAttrs_list PySem.F.slot_list_pop PySem.F.type_list_pop mt_pop (pe_ix ix_list v0 pe_int (fun _ _ => rfl))) pa_nil)))
      (pss_cons (ps_expr (pe_bm PySem.F.plainAttrs_list PySem.F.slot_list_append PySem.F.type_list_append mt_append (pe_ix ix_list v0 pe_int (fun _ _ => rfl)) (pa_cons (pe_op op_fdivN v2 v1) pa_nil)))
      (pss_one (ps_ret (pe_op op_mod v2 v1))))) pss_nil)
    (pss_cons (ps_asg (pe_op op_mod (pe_callTy call_int1 rfl B.int (by decide +kernel) (pa_cons (pe_op op_add (pe_op op_mul (pe_ix ix_list v0 pe_int (fun _ _ => rfl)) pe_int) pe_int) pa_nil)) pe_int) (pg_sub v0 pe_int set_list))
    (pss_one (ps_ret (pe_op op_mod (pe_callTy call_int1 rfl B.int (by decide +kernel) (pa_cons (pe_op op_fdivN (pe_ix ix_list v0 pe_int (fun _ _ => rfl)) pe_int) pa_nil)) v1)))))) fun D σ H hl h => any_body (by rw [hl]; exact Nat.lt_succ_self 2) h) sem_law_any,
   F.fn, F.mg, F.fn.binds (ps := ["deal", "bound"]) fun _ _ _ _ _ _ us hl => match us, hl with | [_, _], _ => rfl⟩
set_option maxHeartbeats 4000000 in
theorem ok_law_of {P : Program} {w : World} {K : PySem.W.Frag} {mg : Str → Option Value} {base : Heap} {f : Addr} {fd : FuncData} (B : Bs mg) {a_law_any : Addr} {fd_law_any : FuncData} (h_law_any : Has P w K mg base 1 "_law_any" s_law_any ["deal", "bound"] 1 2 S_law_any a_law_any fd_law_any) (F : Stands K mg "_law_of" s_law_of f fd) : Has P w K mg base 2 "_law_of" s_law_of ["deal", "some"] 1 2 S_law_of f fd :=
  ⟨fn_ok (t := t_law_of) F.fn sc_law_of (by decide) (fun cdv A outer s H E Pn hr hP => have hu65 := room65 hr; (ds_one (dm_ret (de_ix hu65 (dv 1) (de_callMH h_law_any mono_law_any len_law_any (hr.mono (by decide)) rfl (da_cons (dv 0) (da_cons (de_callB cd_len rfl B.len (by decide +kernel) (da_cons (dv 1) da_nil)) da_nil))))))) sem_law_of, F.fn, F.mg, F.fn.binds (ps := ["deal", "some"]) fun _ _ _ _ _ _ us hl => match us, hl with | [_, _], _ => rfl⟩
set_option maxHeartbeats 4000000 in
theorem ok_law_mixed {P : Program} {w : World} {K : PySem.W.Frag} {mg : Str → Option Value} {base : Heap} {f : Addr} {fd : FuncData} (B : Bs mg) {a_law_any : Addr} {fd_law_any : FuncData} (h_law_any : Has P w K mg base 1 "_law_any" s_law_any ["deal", "bound"] 1 2 S_law_any a_law_any fd_law_any) (F : Stands K mg "_law_mixed" s_law_mixed f fd) : Has P w K mg base 2 "_law_mixed" s_law_mixed ["deal", "some"] 1 2 S_law_mixed f fd :=
  ⟨fn_ok (t := t_law_mixed) F.fn sc_law_mixed (by decide) (fun cdv A outer s H E Pn hr hP => have hu65 := room65 hr; (ds_cons (dm_par (i := 2) (j := 3) rfl sc_law_mixed.nd rfl rfl (by decide) rfl rfl (hP 2 (by decide)) (hP 3 (by decide)) (da_cons (de_callTy cd_list rfl B.list (by decide +kernel) (da_cons (dv 1) da_nil)) (da_cons (de_lst da_nil) da_nil)) (by rfl))
  (ds_cons (dm_while PassesOwn.never (db_cmp (opd_ne hr.units) (dv 2) (de_lst da_nil))
  (ds_one (dm_expr (de_append (dv 3) (da_cons (de_popAt (dv 2) (da_cons (de_callMH h_law_any mono_law_any len_law_any (hr.mono (by decide)) rfl (da_cons (dv 0) (da_cons (de_callB cd_len rfl B.len (by decide +kernel) (da_cons (dv 2) da_nil)) da_nil))) da_nil)) da_nil)))))
  (ds_one (dm_ret (dv 3)))))) sem_law_mixed, F.fn, F.mg, F.fn.binds (ps := ["deal", "some"]) fun _ _ _ _ _ _ us hl => match us, hl with | [_, _], _ => rfl⟩
theorem ok_law_same {P : Program} {w : World} {K : PySem.W.Frag} {mg : Str → Option Value} {base : Heap} {f : Addr} {fd : FuncData} (B : Bs mg) (F : Stands K mg "_law_same" s_law_same f fd) : ∀ n, Has P w K mg base n "_law_same" s_law_same ["told", "due"] 0 2 (S_same n) f fd
  | 0 => ⟨same0, F.fn, F.mg, F.fn.binds (ps := ["told", "due"]) fun _ _ _ _ _ _ us hl => match us, hl with | [_, _], _ => rfl⟩
  | n + 1 =>
    have h_law_same := ok_law_same B F n
    ⟨fn_ok (t := t_law_same (S_same n)) F.fn sc_law_same (by decide) (fun cdv A outer s H E Pn hr hP => have hu65 := room65 hr; (ds_cons (dm_if (db_tru (de_isi2 rfl B.isinstance (pe_bltn rfl B.tuple (by decide +kernel) rfl) (pe_bltn rfl B.list (by decide +kernel) rfl) (by decide) (by decide) (dv 1)))
  (ds_cons (dm_if (DW.toB (dw_or (db_not (db_tru (de_isi2 rfl B.isinstance (pe_bltn rfl B.tuple (by decide +kernel) rfl) (pe_bltn rfl B.list (by decide +kernel) rfl) (by decide) (by decide) (dv 0)))) (dw_one' (db_cmp (opd_ne hr.units) (de_callB cd_isi rfl B.isinstance (by decide +kernel) (da_cons (dv 0) (da_cons (de_ty rfl B.tuple (by decide +kernel)) da_nil))) (de_callB cd_isi rfl B.isinstance (by decide +kernel) (da_cons (dv 1) (da_cons (de_ty rfl B.tuple (by decide +kernel)) da_nil)))))))
  (ds_one (dm_ret de_bl))
  ds_nil)
  (ds_one (dm_ret (de_and (de_cmp (opd_eq hr.units) (de_callB cd_len rfl B.len (by decide +kernel) (da_cons (dv 0) da_nil)) (de_callB cd_len rfl B.len (by decide +kernel) (da_cons (dv 1) da_nil))) (de_one (de_cmp (opd_eq hr.units) (de_lc (own := [("one", 2), ("other", 3)]) (ixs := [2, 3]) rfl sc_law_same.nd (di_zip rfl B.zip (da_cons (dv 0) (da_cons (dv 1) da_nil))) (blkOk_by (N := ["told", "due", "one", "other"]) (sc := defScope s_law_same) (by decide +kernel)) (fun _ _ _ _ _ => (dg_unp rfl (dgs_cons (dg_name (i := 2) sc_law_same.nd rfl (Or.inl rfl) rfl) (dgs_cons (dg_name (i := 3) sc_law_same.nd rfl (Or.inl rfl) rfl) dgs_nil)))) (fun _ _ _ _ _ => (pts_one (db_not (db_tru (de_callH h_law_same mono_same len_same hr rfl (da_cons (dv 2) (da_cons (dv 3) da_nil))))))) (fun _ _ _ _ _ => de_int) (by decide)) (de_lst da_nil)))))))
  ds_nil)
  (ds_cons (dm_if (DW.toB (dw_or (db_cmp opd_is (dv 1) de_non) (dw_one' (db_tru (de_callB cd_isi rfl B.isinstance (by decide +kernel) (da_cons (dv 1) (da_cons (de_ty rfl B.bool (by decide +kernel)) da_nil)))))))
  (ds_one (dm_ret (de_and (de_cmp (opd_eq hr.units) (de_cmp opd_is (dv 0) de_non) (de_cmp opd_is (dv 1) de_non)) (de_and (de_cmp (opd_eq hr.units) (de_callB cd_isi rfl B.isinstance (by decide +kernel) (da_cons (dv 0) (da_cons (de_ty rfl B.bool (by decide +kernel)) da_nil))) (de_callB cd_isi rfl B.isinstance (by decide +kernel) (da_cons (dv 1) (da_cons (de_ty rfl B.bool (by decide +kernel)) da_nil)))) (de_one (de_cmp (opd_eq hr.units) (dv 0) (dv 1)))))))
  ds_nil)
  (ds_cons (dm_if (db_tru (de_callB cd_isi rfl B.isinstance (by decide +kernel) (da_cons (dv 1) (da_cons (de_ty rfl B.int (by decide +kernel)) da_nil))))
  (ds_one (dm_ret (de_and (de_callB cd_isi rfl B.isinstance (by decide +kernel) (da_cons (dv 0) (da_cons (de_ty rfl B.int (by decide +kernel)) da_nil))) (de_and (de_not (de_callB cd_isi rfl B.isinstance (by decide +kernel) (da_cons (dv 0) (da_cons (de_ty rfl B.bool (by decide +kernel)) da_nil)))) (de_one (de_cmp (opd_eq hr.units) (dv 0) (dv 1)))))))
  ds_nil)
  (ds_one (dm_ret (de_and (de_callB cd_isi rfl B.isinstance (by decide +kernel) (da_cons (dv 0) (da_cons (de_ty rfl B.str (by decide +kernel)) da_nil))) (de_one (de_cmp (opd_eq hr.units) (dv 0) (dv 1)))))))))) (sem_law_same n), F.fn, F.mg, F.fn.binds (ps := ["told", "due"]) fun _ _ _ _ _ _ us hl => match us, hl with | [_, _], _ => rfl⟩
set_option maxHeartbeats 4000000 in
theorem ok_law_asks {P : Program} {w : World} {K : PySem.W.Frag} {mg : Str → Option Value} {base : Heap} {f : Addr} {fd : FuncData} (B : Bs mg) {a_law_any : Addr} {fd_law_any : FuncData} (h_law_any : Has P w K mg base 1 "_law_any" s_law_any ["deal", "bound"] 1 2 S_law_any a_law_any fd_law_any) {a_law_of : Addr} {fd_law_of : FuncData} (h_law_of : Has P w K mg base 2 "_law_of" s_law_of ["deal", "some"] 1 2 S_law_of a_law_of fd_law_of) {a_law_mixed : Addr} {fd_law_mixed : FuncData} (h_law_mixed : Has P w K mg base 2 "_law_mixed" s_law_mixed ["deal", "some"] 1 2 S_law_mixed a_law_mixed fd_law_mixed) (F : Stands K mg "_law_asks" s_law_asks f fd) : Has P w K mg base 3 "_law_asks" s_law_asks ["deal", "pages", "most"] 1 3 S_law_asks f fd :=
  ⟨fn_ok (t := t_law_asks) F.fn sc_law_asks (by decide) (fun cdv A outer s H E Pn hr hP => have hu65 := room65 hr; (ds_cons (dm_par3 (i := 5) (j := 6) (l := 7) rfl sc_law_asks.nd rfl rfl rfl (by decide) (by decide) (by decide) rfl rfl rfl (hP 5 (by decide)) (hP 6 (by decide)) (hP 7 (by decide)) (da_cons (de_callMH h_law_any mono_law_any len_law_any (hr.mono (by decide)) rfl (da_cons (dv 0) (da_cons (de_op opd_add (dv 2) de_int) da_nil))) (da_cons (de_callMH h_law_any mono_law_any len_law_any (hr.mono (by decide)) rfl (da_cons (dv 0) (da_cons de_int da_nil))) (da_cons (de_lst da_nil) da_nil))) (by rfl))
  (ds_cons (dm_set (i := 3) sc_law_asks.nd rfl (Or.inl rfl) (hP 3 (by decide)) (de_listRg1 rfl rfl B.list rfl B.range (dv 1)))
  (ds_cons (dm_for PassesOwn.never rfl (di_range1 rfl B.range (da_cons (dv 5) da_nil)) (dg_name (i := 4) sc_law_asks.nd rfl (Or.inl rfl) (hP 4 (by decide)))
  (ds_one (dm_if (db_cmp (opd_eq hr.units) (dv 6) de_int)
  (ds_one (dm_expr (de_append (dv 7) (da_cons (de_op opd_sub (dv 4) (de_op opd_mul (de_op opd_fdiv (dv 4) (dv 1)) (dv 1))) da_nil))))
  (ds_one (dm_if (DW.toB (dw_and (db_cmp (opd_eq hr.units) (dv 6) de_int) (dw_and (db_cmp (opd_ne hr.units) (dv 7) (de_lst da_nil)) (dw_one (db_cmp opd_gt (de_callMH h_law_any mono_law_any len_law_any (hr.mono (by decide)) rfl (da_cons (dv 0) (da_cons de_int da_nil))) de_int)))))
  (ds_one (dm_expr (de_append (dv 7) (da_cons (de_ix hu65 (dv 7) (de_callB (cd_max rfl) rfl B.max (by decide +kernel) (da_cons de_int (da_cons (de_op opd_sub (de_op opd_sub (de_callB cd_len rfl B.len (by decide +kernel) (da_cons (dv 7) da_nil)) de_int) (de_callMH h_law_any mono_law_any len_law_any (hr.mono (by decide)) rfl (da_cons (dv 0) (da_cons de_int da_nil)))) da_nil)))) da_nil))))
  (ds_one (dm_if (DW.toB (dw_and (db_cmp (opd_eq hr.units) (dv 6) de_int) (dw_one (db_cmp opd_gt (de_callB cd_len rfl B.len (by decide +kernel) (da_cons (dv 3) da_nil)) de_int))))
  (ds_cons (dm_if (db_cmp (opd_eq hr.units) (de_callMH h_law_any mono_law_any len_law_any (hr.mono (by decide)) rfl (da_cons (dv 0) (da_cons de_int da_nil))) de_int)
  (ds_one (dm_set (i := 3) sc_law_asks.nd rfl (Or.inl rfl) (hP 3 (by decide)) (de_sl (de_callMH h_law_mixed mono_law_mixed len_law_mixed (hr.mono (by decide)) rfl (da_cons (dv 0) (da_cons (de_listRg1 rfl rfl B.list rfl B.range (dv 1)) da_nil))) do_none (do_some (de_op opd_add de_int (de_callMH h_law_any mono_law_any len_law_any (hr.mono (by decide)) rfl (da_cons (dv 0) (da_cons (dv 1) da_nil))))))))
  ds_nil)
  (ds_one (dm_expr (de_append (dv 7) (da_cons (de_callMH h_law_of mono_law_of len_law_of (hr.mono (by decide)) rfl (da_cons (dv 0) (da_cons (dv 3) da_nil))) da_nil)))))
  (ds_one (dm_expr (de_append (dv 7) (da_cons (de_callMH h_law_any mono_law_any len_law_any (hr.mono (by decide)) rfl (da_cons (dv 0) (da_cons (dv 1) da_nil))) da_nil)))))))))))
  (ds_one (dm_ret (de_callTy cd_tuple rfl B.tuple (by decide +kernel) (da_cons (dv 7) da_nil)))))))) sem_law_asks, F.fn, F.mg, F.fn.binds (ps := ["deal", "pages", "most"]) fun _ _ _ _ _ _ us hl => match us, hl with | [_, _, _], _ => rfl⟩
set_option maxHeartbeats 4000000 in
theorem ok_law_ahead {P : Program} {w : World} {K : PySem.W.Frag} {mg : Str → Option Value} {base : Heap} {f : Addr} {fd : FuncData} (B : Bs mg)  (F : Stands K mg "_law_ahead" s_law_ahead f fd) : Has P w K mg base 1 "_law_ahead" s_law_ahead ["tape", "block", "place"] 0 3 S_law_ahead f fd :=
  ⟨fn_ok (t := t_law_ahead) F.fn sc_law_ahead (by decide) (fun cdv A outer s H E Pn hr hP => have hu65 := room65 hr; (ds_cons (dm_setLc (i := 3) (own := [("one", 4)]) (ixs := [4]) rfl sc_law_ahead.nd rfl rfl (sw_true rfl rfl rfl (by decide +kernel)) (hP 3 (by decide)) (di_seq (dv 0)) (blkOk_by (N := ["tape", "block", "place", "rest", "one"]) (sc := defScope s_law_ahead) (by decide +kernel)) (fun _ _ _ _ _ => (dg_name (i := 4) sc_law_ahead.nd rfl (Or.inl rfl) rfl)) (fun _ _ _ _ _ => (pts_one (db_cmp (opd_ne hr.units) (dv 4) (dv 1)))) (fun _ _ _ _ _ => (dv 4)) (by decide))
  (ds_one (dm_ret (de_callTy cd_tuple rfl B.tuple (by decide +kernel) (da_cons (de_op opd_add (de_op opd_add (de_sl (dv 3) do_none (do_some (dv 2))) (de_lst (da_cons (dv 1) da_nil))) (de_sl (dv 3) (do_some (dv 2)) do_none)) da_nil)))))) sem_law_ahead, F.fn, F.mg, F.fn.binds (ps := ["tape", "block", "place"]) fun _ _ _ _ _ _ us hl => match us, hl with | [_, _, _], _ => rfl⟩
set_option maxHeartbeats 4000000 in
theorem ok_law_crossed {P : Program} {w : World} {K : PySem.W.Frag} {mg : Str → Option Value} {base : Heap} {f : Addr} {fd : FuncData} (B : Bs mg)  (F : Stands K mg "_law_crossed" s_law_crossed f fd) : Has P w K mg base 1 "_law_crossed" s_law_crossed ["one", "other"] 0 2 S_law_crossed f fd :=
  ⟨fn_ok (t := t_law_crossed) F.fn sc_law_crossed (by decide) (fun cdv A outer s H E Pn hr hP => have hu65 := room65 hr; (ds_cons (dm_asg (de_tup (da_cons (de_callTy (cd_dict rfl) rfl B.dict (by decide +kernel) (da_cons (de_lc (own := [("at", 4), ("block", 5)]) (ixs := [4, 5]) rfl sc_law_crossed.nd (di_enum rfl B.enumerate (da_cons (dv 1) da_nil)) (blkOk_by (N := ["one", "other", "spot", "found", "at", "block", "more"]) (sc := defScope s_law_crossed) (by decide +kernel)) (fun _ _ _ _ _ => (dg_unp rfl (dgs_cons (dg_name (i := 4) sc_law_crossed.nd rfl (Or.inl rfl) rfl) (dgs_cons (dg_name (i := 5) sc_law_crossed.nd rfl (Or.inl rfl) rfl) dgs_nil)))) (fun _ _ _ _ _ => dts_nil) (fun _ _ _ _ _ => (de_tup (da_cons (dv 5) (da_cons (dv 4) da_nil)))) (by decide)) da_nil)) (da_cons de_int da_nil))) (dg_unp rfl (dgs_cons (dg_name (i := 2) sc_law_crossed.nd rfl (Or.inr rfl) (hP 2 (by decide))) (dgs_cons (dg_name (i := 3) sc_law_crossed.nd rfl (Or.inl rfl) (hP 3 (by decide))) dgs_nil))))
  (ds_cons (dm_for PassesOwn.never rfl (di_enum rfl B.enumerate (da_cons (dv 0) da_nil)) (dg_unp rfl (dgs_cons (dg_name (i := 4) sc_law_crossed.nd rfl (Or.inl rfl) (hP 4 (by decide))) (dgs_cons (dg_name (i := 5) sc_law_crossed.nd rfl (Or.inr rfl) (hP 5 (by decide))) dgs_nil)))
  (ds_one (dm_set (i := 3) sc_law_crossed.nd rfl (Or.inl rfl) (hP 3 (by decide)) (de_op opd_add (dv 3) (de_callB cd_len rfl B.len (by decide +kernel) (da_cons (de_lc (own := [("more", 6)]) (ixs := [6]) rfl sc_law_crossed.nd (di_seq (de_sl (dv 0) do_none (do_some (dv 4)))) (blkOk_by (N := ["one", "other", "spot", "found", "at", "block", "more"]) (sc := defScope s_law_crossed) (by decide +kernel)) (fun _ _ _ _ _ => (dg_name (i := 6) sc_law_crossed.nd rfl (Or.inl rfl) rfl)) (fun _ _ _ _ _ => (pts_one (db_cmp opd_gt (de_ix hu65 (dv 2) (dv 6)) (de_ix hu65 (dv 2) (dv 5))))) (fun _ _ _ _ _ => (dv 6)) (by decide)) da_nil))))))
  (ds_one (dm_ret (dv 3)))))) sem_law_crossed, F.fn, F.mg, F.fn.binds (ps := ["one", "other"]) fun _ _ _ _ _ _ us hl => match us, hl with | [_, _], _ => rfl⟩
set_option maxHeartbeats 4000000 in
theorem ok_law_rising {P : Program} {w : World} {K : PySem.W.Frag} {mg : Str → Option Value} {base : Heap} {f : Addr} {fd : FuncData} (B : Bs mg) {a_law_crossed : Addr} {fd_law_crossed : FuncData} (h_law_crossed : Has P w K mg base 1 "_law_crossed" s_law_crossed ["one", "other"] 0 2 S_law_crossed a_law_crossed fd_law_crossed) {a_law_ahead : Addr} {fd_law_ahead : FuncData} (h_law_ahead : Has P w K mg base 1 "_law_ahead" s_law_ahead ["tape", "block", "place"] 0 3 S_law_ahead a_law_ahead fd_law_ahead) (F : Stands K mg "_law_rising" s_law_rising f fd) : Has P w K mg base 2 "_law_rising" s_law_rising ["asks", "front", "way"] 0 3 S_law_rising f fd :=
  ⟨fn_ok (t := t_law_rising) F.fn sc_law_rising (by decide) (fun cdv A outer s H E Pn hr hP => have hu65 := room65 hr; (ds_cons (dm_set (i := 3) sc_law_rising.nd rfl (Or.inl rfl) (hP 3 (by decide)) (de_lst (da_cons de_int da_nil)))
  (ds_cons (dm_for PassesOwn.never rfl (di_zip3 rfl B.zip (da_cons (dv 0) (da_cons (dv 1) (da_cons (dv 2) da_nil)))) (dg_unp rfl (dgs_cons (dg_name (i := 4) sc_law_rising.nd rfl (Or.inl rfl) (hP 4 (by decide))) (dgs_cons (dg_unp rfl (dgs_cons (dg_name (i := 5) sc_law_rising.nd rfl (Or.inl rfl) (hP 5 (by decide))) (dgs_cons (dg_name (i := 6) sc_law_rising.nd rfl (Or.inl rfl) (hP 6 (by decide))) dgs_nil))) (dgs_cons (dg_unp rfl (dgs_cons (dg_name (i := 7) sc_law_rising.nd rfl (Or.inl rfl) (hP 7 (by decide))) (dgs_cons (dg_name (i := 8) sc_law_rising.nd rfl (Or.inl rfl) (hP 8 (by decide))) dgs_nil))) dgs_nil))))
  (ds_one (dm_expr (de_append (dv 3) (da_cons (de_callH h_law_crossed mono_law_crossed len_law_crossed (hr.mono (by decide)) rfl (da_cons (de_callH h_law_ahead mono_law_ahead len_law_ahead (hr.mono (by decide)) rfl (da_cons (dv 5) (da_cons (dv 4) (da_cons de_int da_nil)))) (da_cons (de_callH h_law_ahead mono_law_ahead len_law_ahead (hr.mono (by decide)) rfl (da_cons (dv 7) (da_cons (dv 4) (da_cons (dv 8) da_nil)))) da_nil))) da_nil)))))
  (ds_one (dm_ret (de_callTy cd_tuple rfl B.tuple (by decide +kernel) (da_cons (dv 3) da_nil))))))) sem_law_rising, F.fn, F.mg, F.fn.binds (ps := ["asks", "front", "way"]) fun _ _ _ _ _ _ us hl => match us, hl with | [_, _, _], _ => rfl⟩
set_option maxHeartbeats 4000000 in
theorem ok_law_front {P : Program} {w : World} {K : PySem.W.Frag} {mg : Str → Option Value} {base : Heap} {f : Addr} {fd : FuncData} (B : Bs mg) {a_law_ahead : Addr} {fd_law_ahead : FuncData} (h_law_ahead : Has P w K mg base 1 "_law_ahead" s_law_ahead ["tape", "block", "place"] 0 3 S_law_ahead a_law_ahead fd_law_ahead) (F : Stands K mg "_law_front" s_law_front f fd) : Has P w K mg base 2 "_law_front" s_law_front ["tape", "asks"] 0 2 S_law_front f fd :=
  ⟨fn_ok (t := t_law_front) F.fn sc_law_front (by decide) (fun cdv A outer s H E Pn hr hP => have hu65 := room65 hr; (ds_cons (dm_par (i := 3) (j := 4) rfl sc_law_front.nd rfl rfl (by decide) rfl rfl (hP 3 (by decide)) (hP 4 (by decide)) (da_cons (de_lst da_nil) (da_cons (dv 0) da_nil)) (by rfl))
  (ds_cons (dm_for PassesOwn.never rfl (di_seq (dv 1)) (dg_name (i := 2) sc_law_front.nd rfl (Or.inl rfl) (hP 2 (by decide)))
  (ds_cons (dm_expr (de_append (dv 3) (da_cons (de_tup (da_cons (dv 4) (da_cons de_int da_nil))) da_nil)))
  (ds_one (dm_set (i := 4) sc_law_front.nd rfl (Or.inl rfl) (hP 4 (by decide)) (de_callH h_law_ahead mono_law_ahead len_law_ahead (hr.mono (by decide)) rfl (da_cons (dv 4) (da_cons (dv 2) (da_cons de_int da_nil))))))))
  (ds_one (dm_ret (de_callTy cd_tuple rfl B.tuple (by decide +kernel) (da_cons (dv 3) da_nil))))))) sem_law_front, F.fn, F.mg, F.fn.binds (ps := ["tape", "asks"]) fun _ _ _ _ _ _ us hl => match us, hl with | [_, _], _ => rfl⟩
set_option maxHeartbeats 4000000 in
theorem ok_law_orders {P : Program} {w : World} {K : PySem.W.Frag} {mg : Str → Option Value} {base : Heap} {f : Addr} {fd : FuncData} (B : Bs mg)  (F : Stands K mg "_law_orders" s_law_orders f fd) : Has P w K mg base 1 "_law_orders" s_law_orders ["many"] 0 1 S_law_orders f fd :=
  ⟨fn_ok (t := t_law_orders) F.fn sc_law_orders (by decide) (fun cdv A outer s H E Pn hr hP => have hu65 := room65 hr; (ds_cons (dm_set (i := 1) sc_law_orders.nd rfl (Or.inl rfl) (hP 1 (by decide)) (de_lst (da_cons (de_tup da_nil) da_nil)))
  (ds_cons (dm_frz (dm_for PassesOwn.never rfl (di_range1 rfl B.range (da_cons (dv 0) da_nil)) (dg_name (i := 2) sc_law_orders.nd rfl (Or.inr rfl) (hP 2 (by decide)))
  (ds_cons (dm_set (i := 3) sc_law_orders.nd rfl (Or.inl rfl) (hP 3 (by decide)) (de_lst da_nil))
  (ds_cons (dm_for PassesOwn.never rfl (di_seq (dv 1)) (dg_name (i := 4) sc_law_orders.nd rfl (Or.inr rfl) (hP 4 (by decide)))
  (ds_one (dm_set (i := 3) sc_law_orders.nd rfl (Or.inl rfl) (hP 3 (by decide)) (de_op opd_add (dv 3) (de_lc (own := [("at", 5)]) (ixs := [5]) rfl sc_law_orders.nd (di_range1 rfl B.range (da_cons (de_op opd_add (dv 2) de_int) da_nil)) (blkOk_by (N := ["many", "found", "block", "later", "one", "at"]) (sc := defScope s_law_orders) (by decide +kernel)) (fun _ _ _ _ _ => (dg_name (i := 5) sc_law_orders.nd rfl (Or.inl rfl) rfl)) (fun _ _ _ _ _ => dts_nil) (fun _ _ _ _ _ => (de_op opd_add (de_op opd_add (de_sl (dv 4) do_none (do_some (dv 5))) (de_tup (da_cons (dv 2) da_nil))) (de_sl (dv 4) (do_some (dv 5)) do_none))) (by decide))))))
  (ds_one (dm_set (i := 1) sc_law_orders.nd rfl (Or.inl rfl) (hP 1 (by decide)) (dv 3)))))))
  (ds_one (dm_ret (dv 1)))))) sem_law_orders, F.fn, F.mg, F.fn.binds (ps := ["many"]) fun _ _ _ _ _ _ us hl => match us, hl with | [_], _ => rfl⟩
set_option maxHeartbeats 4000000 in
theorem ok_law_keeping {P : Program} {w : World} {K : PySem.W.Frag} {mg : Str → Option Value} {base : Heap} {f : Addr} {fd : FuncData} (B : Bs mg)  (F : Stands K mg "_law_keeping" s_law_keeping f fd) : Has P w K mg base 1 "_law_keeping" s_law_keeping ["order", "asks"] 0 2 S_law_keeping f fd :=
  ⟨fn_ok (t := t_law_keeping) F.fn sc_law_keeping (by decide) (fun cdv A outer s H E Pn hr hP => have hu65 := room65 hr; (ds_one (dm_ret (de_callTy cd_tuple rfl B.tuple (by decide +kernel) (da_cons (de_lc (own := [("block", 2)]) (ixs := [2]) rfl sc_law_keeping.nd (di_seq (dv 1)) (blkOk_by (N := ["order", "asks", "block"]) (sc := defScope s_law_keeping) (by decide +kernel)) (fun _ _ _ _ _ => (dg_name (i := 2) sc_law_keeping.nd rfl (Or.inl rfl) rfl)) (fun _ _ _ _ _ => dts_nil) (fun _ _ _ _ _ => (de_tup (da_cons (dv 0) (da_cons (de_index hu65 (dv 0) (da_cons (dv 2) da_nil)) da_nil)))) (by decide)) da_nil))))) sem_law_keeping, F.fn, F.mg, F.fn.binds (ps := ["order", "asks"]) fun _ _ _ _ _ _ us hl => match us, hl with | [_, _], _ => rfl⟩
set_option maxHeartbeats 4000000 in
theorem ok_law_steps {P : Program} {w : World} {K : PySem.W.Frag} {mg : Str → Option Value} {base : Heap} {f : Addr} {fd : FuncData} (B : Bs mg)  (F : Stands K mg "_law_steps" s_law_steps f fd) : Has P w K mg base 1 "_law_steps" s_law_steps ["order", "counts"] 0 2 S_law_steps f fd :=
  ⟨fn_ok (t := t_law_steps) F.fn sc_law_steps (by decide) (fun cdv A outer s H E Pn hr hP => have hu65 := room65 hr; (ds_one (dm_ret (de_callB (cd_sum rfl) rfl B.sum (by decide +kernel) (da_cons (de_lc (own := [("at", 2), ("block", 3)]) (ixs := [2, 3]) rfl sc_law_steps.nd (di_enum rfl B.enumerate (da_cons (dv 0) da_nil)) (blkOk_by (N := ["order", "counts", "at", "block"]) (sc := defScope s_law_steps) (by decide +kernel)) (fun _ _ _ _ _ => (dg_unp rfl (dgs_cons (dg_name (i := 2) sc_law_steps.nd rfl (Or.inl rfl) rfl) (dgs_cons (dg_name (i := 3) sc_law_steps.nd rfl (Or.inl rfl) rfl) dgs_nil)))) (fun _ _ _ _ _ => dts_nil) (fun _ _ _ _ _ => (de_op opd_mul (de_ix hu65 (dv 1) (dv 3)) (de_op opd_add (dv 2) de_int))) (by decide)) da_nil))))) sem_law_steps, F.fn, F.mg, F.fn.binds (ps := ["order", "counts"]) fun _ _ _ _ _ _ us hl => match us, hl with | [_, _], _ => rfl⟩
set_option maxHeartbeats 4000000 in
theorem ok_law {P : Program} {w : World} {K : PySem.W.Frag} {mg : Str → Option Value} {base : Heap} {f : Addr} {fd : FuncData} (B : Bs mg) {a_law_same : Addr} {fd_law_same : FuncData} (h_law_same : Has P w K mg base 12 "_law_same" s_law_same ["told", "due"] 0 2 (S_same 12) a_law_same fd_law_same) {a_tape_potentials : Addr} {fd_tape_potentials : FuncData} (h_tape_potentials : Has P w K mg base 2 "tape_potentials" s_tape_potentials ["tape", "asks", "way"] 0 3 S_tape_potentials a_tape_potentials fd_tape_potentials) {a_law_rising : Addr} {fd_law_rising : FuncData} (h_law_rising : Has P w K mg base 2 "_law_rising" s_law_rising ["asks", "front", "way"] 0 3 S_law_rising a_law_rising fd_law_rising) {a_law_front : Addr} {fd_law_front : FuncData} (h_law_front : Has P w K mg base 2 "_law_front" s_law_front ["tape", "asks"] 0 2 S_law_front a_law_front fd_law_front) {a_law_keeping : Addr} {fd_law_keeping : FuncData} (h_law_keeping : Has P w K mg base 1 "_law_keeping" s_law_keeping ["order", "asks"] 0 2 S_law_keeping a_law_keeping fd_law_keeping) {a_is_tape_way : Addr} {fd_is_tape_way : FuncData} (h_is_tape_way : Has P w K mg base 5 "is_tape_way" s_is_tape_way ["tape", "asks", "value"] 0 3 S_is_tape_way a_is_tape_way fd_is_tape_way) {a_law_crossed : Addr} {fd_law_crossed : FuncData} (h_law_crossed : Has P w K mg base 1 "_law_crossed" s_law_crossed ["one", "other"] 0 2 S_law_crossed a_law_crossed fd_law_crossed) {a_crossed : Addr} {fd_crossed : FuncData} (h_crossed : Has P w K mg base 1 "crossed" s_crossed ["one", "other"] 0 2 S_crossed a_crossed fd_crossed) {a_way_costs : Addr} {fd_way_costs : FuncData} (h_way_costs : Has P w K mg base 2 "way_costs" s_way_costs ["tape", "asks", "way"] 0 3 S_way_costs a_way_costs fd_way_costs) {a_law_steps : Addr} {fd_law_steps : FuncData} (h_law_steps : Has P w K mg base 1 "_law_steps" s_law_steps ["order", "counts"] 0 2 S_law_steps a_law_steps fd_law_steps) {a_law_orders : Addr} {fd_law_orders : FuncData} (h_law_orders : Has P w K mg base 1 "_law_orders" s_law_orders ["many"] 0 1 S_law_orders a_law_orders fd_law_orders) {a_law_mixed : Addr} {fd_law_mixed : FuncData} (h_law_mixed : Has P w K mg base 2 "_law_mixed" s_law_mixed ["deal", "some"] 1 2 S_law_mixed a_law_mixed fd_law_mixed) {a_law_ahead : Addr} {fd_law_ahead : FuncData} (h_law_ahead : Has P w K mg base 1 "_law_ahead" s_law_ahead ["tape", "block", "place"] 0 3 S_law_ahead a_law_ahead fd_law_ahead) {a_front_steps : Addr} {fd_front_steps : FuncData} (h_front_steps : Has P w K mg base 3 "front_steps" s_front_steps ["tape", "asks"] 0 2 S_front_steps a_front_steps fd_front_steps) {a_law_asks : Addr} {fd_law_asks : FuncData} (h_law_asks : Has P w K mg base 3 "_law_asks" s_law_asks ["deal", "pages", "most"] 1 3 S_law_asks a_law_asks fd_law_asks) {a_law_of : Addr} {fd_law_of : FuncData} (h_law_of : Has P w K mg base 2 "_law_of" s_law_of ["deal", "some"] 1 2 S_law_of a_law_of fd_law_of) {a_law_draw : Addr} {fd_law_draw : FuncData} (h_law_draw : Has P w K mg base 1 "_law_draw" s_law_draw ["script", "salt"] 0 2 S_law_draw a_law_draw fd_law_draw) (F : Stands K mg "law" s_law f fd) : Has P w K mg base 13 "law" s_law ["script"] 0 1 S_law f fd :=
  ⟨fn_ok (t := t_law) F.fn sc_law (by decide) (fun cdv A outer s H E Pn hr hP => have hu65 := room65 hr; (ds_cons (dm_set (i := 1) sc_law.nd rfl (Or.inl rfl) (hP 1 (by decide)) (de_callH h_law_draw mono_law_draw len_law_draw (hr.mono (by decide)) rfl (da_cons (dv 0) (da_cons de_int da_nil))))
  (ds_cons (dm_for PassesOwn.never rfl (di_range1 rfl B.range (da_cons de_int da_nil)) (dg_name (i := 2) sc_law.nd rfl (Or.inl rfl) (hP 2 (by decide)))
  (ds_cons (dm_set (i := 3) sc_law.nd rfl (Or.inl rfl) (hP 3 (by decide)) (de_callMH h_law_of mono_law_of len_law_of (hr.mono (by decide)) rfl (da_cons (dv 1) (da_cons (de_lst (da_cons de_int (da_cons de_int (da_cons de_int (da_cons de_int (da_cons de_int (da_cons de_int (da_cons de_int (da_cons (de_ifE (db_cmp (opd_eq hr.units) (dv 2) de_int) de_int de_int) da_nil))))))))) da_nil))))
  (ds_cons (dm_set (i := 4) sc_law.nd rfl (Or.inl rfl) (hP 4 (by decide)) (de_callTy cd_tuple rfl B.tuple (by decide +kernel) (da_cons (de_callMH h_law_mixed mono_law_mixed len_law_mixed (hr.mono (by decide)) rfl (da_cons (dv 1) (da_cons (de_listRg1 rfl rfl B.list rfl B.range (dv 3)) da_nil))) da_nil)))
  (ds_cons (dm_set (i := 5) sc_law.nd rfl (Or.inr rfl) (hP 5 (by decide)) (de_callMH h_law_asks mono_law_asks len_law_asks (hr.mono (by decide)) rfl (da_cons (dv 1) (da_cons (dv 3) (da_cons (de_callMH h_law_of mono_law_of len_law_of (hr.mono (by decide)) rfl (da_cons (dv 1) (da_cons (de_lst (da_cons de_int (da_cons de_int (da_cons de_int (da_cons (de_ifE (DW.toB (dw_and (db_cmp (opd_eq hr.units) (dv 2) de_int) (dw_one (db_cmp opd_lt (dv 3) de_int)))) de_int de_int) da_nil))))) da_nil))) da_nil)))))
  (ds_cons (dm_set (i := 5) sc_law.nd rfl (Or.inr rfl) (hP 5 (by decide)) (de_ifE (db_cmp opd_gt (dv 3) de_int) (de_sl (dv 5) do_none (do_some de_int)) (dv 5)))
  (ds_cons (dm_set (i := 6) sc_law.nd rfl (Or.inr rfl) (hP 6 (by decide)) (de_lc (own := [("block", 8)]) (ixs := [8]) rfl sc_law.nd (di_range1 rfl B.range (da_cons (dv 3) da_nil)) (blkOk_by (N := ["script", "deal", "turn", "n", "tape", "asks", "counts", "best", "block", "some", "order", "few", "spent", "least", "lies", "own", "way", "costs", "told", "bent", "due", "steps", "pairs", "one", "many", "place"]) (sc := defScope s_law) (by decide +kernel)) (fun _ _ _ _ _ => (dg_name (i := 8) sc_law.nd rfl (Or.inr rfl) rfl)) (fun _ _ _ _ _ => dts_nil) (fun _ _ _ _ _ => (de_callB cd_len rfl B.len (by decide +kernel) (da_cons (de_lc (own := [("one", 23)]) (ixs := [23]) rfl sc_law.nd (di_seq (dv 5)) (blkOk_by (N := ["script", "deal", "turn", "n", "tape", "asks", "counts", "best", "block", "some", "order", "few", "spent", "least", "lies", "own", "way", "costs", "told", "bent", "due", "steps", "pairs", "one", "many", "place"]) (by first | decide +kernel | rfl | with_unfolding_all rfl)) (fun _ _ _ _ _ => (dg_name (i := 23) sc_law.nd rfl (Or.inl rfl) rfl)) (fun _ _ _ _ _ => (pts_one (db_cmp (opd_eq hr.units) (dv 23) (dv 8)))) (fun _ _ _ _ _ => de_int) (by decide)) da_nil))) (by decide)))
  (ds_cons (dm_set (i := 7) sc_law.nd rfl (Or.inl rfl) (hP 7 (by decide)) (de_callTy cd_tuple rfl B.tuple (by decide +kernel) (da_cons (de_lc (own := [("many", 24), ("block", 8)]) (ixs := [24, 8]) rfl sc_law.nd (di_seq (de_callB cd_sorted rfl B.sorted (by decide +kernel) (da_cons (de_lc (own := [("block", 8)]) (ixs := [8]) rfl sc_law.nd (di_range1 rfl B.range (da_cons (dv 3) da_nil)) (blkOk_by (N := ["script", "deal", "turn", "n", "tape", "asks", "counts", "best", "block", "some", "order", "few", "spent", "least", "lies", "own", "way", "costs", "told", "bent", "due", "steps", "pairs", "one", "many", "place"]) (sc := defScope s_law) (by decide +kernel)) (fun _ _ _ _ _ => (dg_name (i := 8) sc_law.nd rfl (Or.inl rfl) rfl)) (fun _ _ _ _ _ => dts_nil) (fun _ _ _ _ _ => (de_tup (da_cons (de_op opd_sub de_int (de_ix hu65 (dv 6) (dv 8))) (da_cons (dv 8) da_nil)))) (by decide)) da_nil))) (blkOk_by (N := ["script", "deal", "turn", "n", "tape", "asks", "counts", "best", "block", "some", "order", "few", "spent", "least", "lies", "own", "way", "costs", "told", "bent", "due", "steps", "pairs", "one", "many", "place"]) (sc := defScope s_law) (by decide +kernel)) (fun _ _ _ _ _ => (dg_unp rfl (dgs_cons (dg_name (i := 24) sc_law.nd rfl (Or.inl rfl) rfl) (dgs_cons (dg_name (i := 8) sc_law.nd rfl (Or.inl rfl) rfl) dgs_nil)))) (fun _ _ _ _ _ => dts_nil) (fun _ _ _ _ _ => (dv 8)) (by decide)) da_nil)))
  (ds_cons (dm_par (i := 12) (j := 13) rfl sc_law.nd rfl rfl (by decide) rfl rfl (hP 12 (by decide)) (hP 13 (by decide)) (da_cons (de_callK0H h_front_steps mono_front_steps len_front_steps (hr.mono (by decide)) rfl (kb_front_steps_0_tape_asks h_front_steps.fn) (by decide) (dk_cons (dv 4) (dk_cons (dv 5) dk_nil))) (da_cons (de_callH h_law_steps mono_law_steps len_law_steps (hr.mono (by decide)) rfl (da_cons (dv 7) (da_cons (dv 6) da_nil))) da_nil)) (by rfl))
  (ds_cons (dm_par (i := 14) (j := 15) rfl sc_law.nd rfl rfl (by decide) rfl rfl (hP 14 (by decide)) (hP 15 (by decide)) (da_cons (dv 4) (da_cons de_int da_nil)) (by rfl))
  (ds_cons (dm_for PassesOwn.never rfl (di_seq (dv 5)) (dg_name (i := 8) sc_law.nd rfl (Or.inl rfl) (hP 8 (by decide)))
  (ds_one (dm_par (i := 14) (j := 15) rfl sc_law.nd rfl rfl (by decide) rfl rfl (hP 14 (by decide)) (hP 15 (by decide)) (da_cons (de_callH h_law_ahead mono_law_ahead len_law_ahead (hr.mono (by decide)) rfl (da_cons (dv 14) (da_cons (dv 8) (da_cons de_int da_nil)))) (da_cons (de_op opd_add (de_op opd_add (dv 15) (de_index hu65 (dv 14) (da_cons (dv 8) da_nil))) de_int) da_nil)) (by rfl))))
  (ds_cons (dm_if (DW.toB (dw_or (db_not (db_tru (de_callH h_law_same mono_same len_same (hr.mono (by decide)) rfl (da_cons (dv 12) (da_cons (dv 15) da_nil))))) (dw_one' (db_cmp opd_gt (de_op opd_mul de_int (dv 12)) (de_op opd_sub (de_op opd_add (de_op opd_mul de_int (dv 13)) (de_op opd_mul (dv 3) (de_op opd_sub (dv 3) de_int))) (de_op opd_mul de_int (de_callB cd_len rfl B.len (by decide +kernel) (da_cons (dv 5) da_nil))))))))
  (ds_one (dm_ret de_bl))
  ds_nil)
  (ds_cons (dm_set (i := 9) sc_law.nd rfl (Or.inl rfl) (hP 9 (by decide)) (de_lst (da_cons (dv 7) (da_cons (dv 4) (da_cons (de_callTy cd_tuple rfl B.tuple (by decide +kernel) (da_cons (de_callMH h_law_mixed mono_law_mixed len_law_mixed (hr.mono (by decide)) rfl (da_cons (dv 1) (da_cons (de_listRg1 rfl rfl B.list rfl B.range (dv 3)) da_nil))) da_nil)) da_nil)))))
  (ds_cons (dm_for PassesOwn.never rfl (di_seq (de_op opd_add (dv 9) (de_ifE (DW.toB (dw_and (db_cmp opd_lt (dv 3) de_int) (dw_one (db_cmp (opd_eq hr.units) (dv 2) de_int)))) (de_callH h_law_orders mono_law_orders len_law_orders (hr.mono (by decide)) rfl (da_cons (dv 3) da_nil)) (de_lst da_nil)))) (dg_name (i := 10) sc_law.nd rfl (Or.inl rfl) (hP 10 (by decide)))
  (ds_cons (dm_par (i := 21) (j := 22) rfl sc_law.nd rfl rfl (by decide) rfl rfl (hP 21 (by decide)) (hP 22 (by decide)) (da_cons (de_callH h_law_steps mono_law_steps len_law_steps (hr.mono (by decide)) rfl (da_cons (dv 10) (da_cons (dv 6) da_nil))) (da_cons (de_callH h_law_crossed mono_law_crossed len_law_crossed (hr.mono (by decide)) rfl (da_cons (dv 4) (da_cons (dv 10) da_nil))) da_nil)) (by rfl))
  (ds_one (dm_if (DW.toB (dw_or (db_cmp opd_lt (dv 21) (dv 13)) (dw_one' (db_cmp opd_gt (dv 12) (de_op opd_sub (de_op opd_add (de_op opd_mul de_int (dv 21)) (dv 22)) (de_callB cd_len rfl B.len (by decide +kernel) (da_cons (dv 5) da_nil)))))))
  (ds_one (dm_ret de_bl))
  ds_nil))))
  (ds_cons (dm_for PassesOwn.never rfl (di_seq (dv 9)) (dg_name (i := 10) sc_law.nd rfl (Or.inl rfl) (hP 10 (by decide)))
  (ds_cons (dm_set (i := 16) sc_law.nd rfl (Or.inl rfl) (hP 16 (by decide)) (de_callH h_law_keeping mono_law_keeping len_law_keeping (hr.mono (by decide)) rfl (da_cons (dv 10) (da_cons (dv 5) da_nil))))
  (ds_cons (dm_set (i := 17) sc_law.nd rfl (Or.inl rfl) (hP 17 (by decide)) (de_tup (da_cons (de_callH h_law_steps mono_law_steps len_law_steps (hr.mono (by decide)) rfl (da_cons (dv 10) (da_cons (dv 6) da_nil))) (da_cons (de_ifE (db_cmp (opd_ne hr.units) (dv 5) (de_tup da_nil)) (de_callH h_law_crossed mono_law_crossed len_law_crossed (hr.mono (by decide)) rfl (da_cons (dv 4) (da_cons (dv 10) da_nil))) de_int) (da_cons de_int da_nil)))))
  (ds_cons (dm_set (i := 18) sc_law.nd rfl (Or.inl rfl) (hP 18 (by decide)) (de_lst (da_cons (de_callK0H h_is_tape_way mono_is_tape_way len_is_tape_way (hr.mono (by decide)) rfl (kb_is_tape_way_0_value_asks_tape h_is_tape_way.fn) (by decide) (dk_cons (dv 16) (dk_cons (dv 5) (dk_cons (dv 4) dk_nil)))) (da_cons (de_callK0H h_way_costs mono_way_costs len_way_costs (hr.mono (by decide)) rfl (kb_way_costs_0_way_asks_tape h_way_costs.fn) (by decide) (dk_cons (dv 16) (dk_cons (dv 5) (dk_cons (dv 4) dk_nil)))) da_nil))))
  (ds_cons (dm_if (db_not (db_tru (de_callH h_law_same mono_same len_same (hr.mono (by decide)) rfl (da_cons (de_op opd_add (dv 18) (de_lst (da_cons (de_callH h_crossed mono_crossed len_crossed (hr.mono (by decide)) rfl (da_cons (dv 4) (da_cons (dv 10) da_nil))) da_nil))) (da_cons (de_lst (da_cons de_bl (da_cons (dv 17) (da_cons (de_callH h_law_crossed mono_law_crossed len_law_crossed (hr.mono (by decide)) rfl (da_cons (dv 4) (da_cons (dv 10) da_nil))) da_nil)))) da_nil)))))
  (ds_one (dm_ret de_bl))
  ds_nil)
  (ds_cons (dm_set (i := 19) sc_law.nd rfl (Or.inl rfl) (hP 19 (by decide)) (de_callTy cd_tuple rfl B.tuple (by decide +kernel) (da_cons (de_lc (own := [("lies", 14), ("place", 25)]) (ixs := [14, 25]) rfl sc_law.nd (di_seq (dv 16)) (blkOk_by (N := ["script", "deal", "turn", "n", "tape", "asks", "counts", "best", "block", "some", "order", "few", "spent", "least", "lies", "own", "way", "costs", "told", "bent", "due", "steps", "pairs", "one", "many", "place"]) (sc := defScope s_law) (by decide +kernel)) (fun _ _ _ _ _ => (dg_unp rfl (dgs_cons (dg_name (i := 14) sc_law.nd rfl (Or.inl rfl) rfl) (dgs_cons (dg_name (i := 25) sc_law.nd rfl (Or.inl rfl) rfl) dgs_nil)))) (fun _ _ _ _ _ => dts_nil) (fun _ _ _ _ _ => (de_tup (da_cons (dv 14) (da_cons (de_op opd_add (dv 25) de_int) da_nil)))) (by decide)) da_nil)))
  (ds_one (dm_if (db_not (db_tru (de_callH h_law_same mono_same len_same (hr.mono (by decide)) rfl (da_cons (de_callH h_is_tape_way mono_is_tape_way len_is_tape_way (hr.mono (by decide)) rfl (da_cons (dv 4) (da_cons (dv 5) (da_cons (dv 19) da_nil)))) (da_cons (de_cmp (opd_eq hr.units) (dv 5) (de_tup da_nil)) da_nil)))))
  (ds_one (dm_ret de_bl))
  ds_nil))))))))
  (ds_cons (dm_set (i := 11) sc_law.nd rfl (Or.inl rfl) (hP 11 (by decide)) (de_sl (dv 5) do_none (do_some de_int)))
  (ds_one (dm_if (db_cmp opd_lt (dv 3) de_int)
  (ds_cons (dm_set (i := 16) sc_law.nd rfl (Or.inl rfl) (hP 16 (by decide)) (de_callH h_law_keeping mono_law_keeping len_law_keeping (hr.mono (by decide)) rfl (da_cons (de_ix hu65 (dv 9) (de_neg de_int)) (da_cons (dv 11) da_nil))))
  (ds_cons (dm_set (i := 20) sc_law.nd rfl (Or.inl rfl) (hP 20 (by decide)) (de_callH h_law_rising mono_law_rising len_law_rising (hr.mono (by decide)) rfl (da_cons (dv 11) (da_cons (de_callH h_law_front mono_law_front len_law_front (hr.mono (by decide)) rfl (da_cons (dv 4) (da_cons (dv 11) da_nil))) (da_cons (dv 16) da_nil)))))
  (ds_one (dm_if (db_not (db_tru (de_callH h_law_same mono_same len_same (hr.mono (by decide)) rfl (da_cons (de_callK0H h_tape_potentials mono_tape_potentials len_tape_potentials (hr.mono (by decide)) rfl (kb_tape_potentials_0_way_asks_tape h_tape_potentials.fn) (by decide) (dk_cons (dv 16) (dk_cons (dv 11) (dk_cons (dv 4) dk_nil)))) (da_cons (dv 20) da_nil)))))
  (ds_one (dm_ret de_bl))
  ds_nil))))
  ds_nil)))))))))))))))))
  (ds_one (dm_ret de_bl))))) sem_law, F.fn, F.mg, F.fn.binds (ps := ["script"]) fun _ _ _ _ _ _ us hl => match us, hl with | [_], _ => rfl⟩
end Law

set_option Elab.async false
set_option linter.all false
set_option maxRecDepth 100000
set_option maxHeartbeats 1000000
/-! TP: rows of blocks: places, inversions, to the front. -/
namespace Tp
open PySem L2 DL
theorem ok_comp2 {α β : Type} {xs : List α} {F : α → Option (List β)} {Q : List β → Prop} (G : α → List β) (hl : xs.length ≤ 1000000) (h : ∀ x ∈ xs, F x = some (G x)) (ht : (xs.map G).flatten.length ≤ 1000000) (k : Q (xs.map G).flatten) : Ok (oComp2 xs F) Q := by
  unfold oComp2
  refine ok_bind (ok_compMap G hl (fun x hx => by rw [h x hx]; rfl) ?_)
  exact ⟨_, if_pos (szl ht), k⟩
/-! ### places -/
def pos (l : List Int) (b : Int) : Int := (l.idxOf b : Nat)
theorem idxOf?_mem {l : List Int} {b : Int} (h : b ∈ l) : l.idxOf? b = some (l.idxOf b) := by
  induction l with
  | nil => cases h
  | cons x xs ih =>
    rw [List.idxOf?_cons, List.idxOf_cons]
    by_cases e : x = b
    · simp [e]
    · have : b ∈ xs := by
        rcases List.mem_cons.mp h with q | q
        · exact absurd q.symm e
        · exact q
      have e' : (x == b) = false := by simpa using e
      rw [ih this]
      simp [e, e']
theorem oIdx_mem {l : List Int} {b : Int} (h : b ∈ l) : oIdx l b = some (pos l b) := by
  unfold oIdx pos; rw [idxOf?_mem h]; rfl
theorem pos_nonneg (l : List Int) (b : Int) : 0 ≤ pos l b := Int.natCast_nonneg _
theorem pos_lt {l : List Int} {b : Int} (h : b ∈ l) : pos l b < l.length := by
  unfold pos; exact_mod_cast List.idxOf_lt_length_of_mem h
theorem pos_cons (x : Int) (l : List Int) (b : Int) : pos (x :: l) b = if x = b then 0 else pos l b + 1 := by
  unfold pos; rw [List.idxOf_cons]
  by_cases e : x = b
  · simp [e]
  · have e' : (x == b) = false := by simpa using e
    simp [e, e']
/-! ### dicts of places -/
theorem tHas_iff {α : Type} {d : List (Int × α)} {k : Int} : tHas d k = true ↔ k ∈ d.map (·.1) := by
  unfold tHas
  induction d with
  | nil => simp
  | cons p d ih =>
    rw [lk_cons, List.map_cons, List.mem_cons]
    by_cases e : p.1 = k
    · simp [e]
    · rw [if_neg e, ih]; simp [Ne.symm e]
theorem tMerge_nodup {α : Type} (ps : List (Int × α)) : ∀ d : List (Int × α), ((d ++ ps).map (·.1)).Nodup → tMerge d ps = d ++ ps := by
  induction ps with
  | nil => intro d _; simp [tMerge]
  | cons p ps ih =>
    intro d h
    show tMerge (tPut d p.1 p.2) ps = _
    have hn : ¬ tHas d p.1 = true := by
      rw [tHas_iff]
      intro hm
      rw [List.map_append, List.nodup_append] at h
      exact h.2.2 _ hm _ (by simp) rfl
    unfold tPut
    rw [if_neg hn, ih (d ++ [(p.1, p.2)]) (by simpa using h)]
    simp
def spot (l : List Int) : List (Int × Int) := (enumL 0 l).map fun p => (p.2, p.1)
theorem spot_keys (l : List Int) : ∀ k, ((enumL k l).map fun p => (p.2, p.1)).map (·.1) = l := by
  induction l with
  | nil => intro k; rfl
  | cons x xs ih => intro k; simp only [enumL, List.map_cons]; rw [ih]
theorem spot_get (l : List Int) (b : Int) : ∀ k, b ∈ l → ((enumL k l).map fun p => (p.2, p.1)).lookup b = some ((k : Int) + pos l b) := by
  induction l with
  | nil => intro k h; cases h
  | cons x xs ih =>
    intro k h
    simp only [enumL, List.map_cons]
    rw [lk_cons, pos_cons]
    by_cases e : x = b
    · simp [e]
    · have : b ∈ xs := by
        rcases List.mem_cons.mp h with q | q
        · exact absurd q.symm e
        · exact q
      rw [if_neg e, if_neg e, ih (k + 1) this]
      congr 1; push_cast; omega
theorem spot_merge {l : List Int} (h : l.Nodup) : tMerge [] (spot l) = spot l := by
  rw [tMerge_nodup]
  · rfl
  · rw [List.nil_append]; unfold spot; rw [spot_keys]; exact h
theorem spot_at {l : List Int} {b : Int} (hm : b ∈ l) : tGet (spot l) b = some (pos l b) := by
  unfold tGet spot; rw [spot_get l b 0 hm]; simp
theorem oIx_int {α : Type} {l : List α} {i : Int} (h0 : 0 ≤ i) (h : i.toNat < l.length) : oIx l i = some l[i.toNat] := by
  have := oIx_nat (List.getElem?_eq_getElem h)
  rwa [Int.toNat_of_nonneg h0] at this
/-! ### inversions -/
def invL : List Int → Nat
  | [] => 0
  | x :: xs => (xs.filter fun y => decide (x > y)).length + invL xs
theorem invL_snoc (xs : List Int) (y : Int) : invL (xs ++ [y]) = invL xs + (xs.filter fun x => decide (x > y)).length := by
  induction xs with
  | nil => rfl
  | cons x xs ih =>
    rw [List.cons_append, invL, invL, ih, List.filter_append, List.length_append]
    rw [show ((x :: xs).filter fun x => decide (x > y)) = if x > y then x :: xs.filter (fun x => decide (x > y)) else xs.filter (fun x => decide (x > y)) by rw [List.filter_cons]; simp]
    by_cases h : x > y
    · simp [h]; omega
    · simp [h]; omega
theorem invL_le (xs : List Int) : invL xs ≤ xs.length * xs.length := by
  induction xs with
  | nil => exact Nat.le_refl _
  | cons x xs ih =>
    rw [invL, List.length_cons]
    have := List.length_filter_le (fun y => decide (x > y)) xs
    have e : (xs.length + 1) * (xs.length + 1) = xs.length * xs.length + xs.length + xs.length + 1 := by
      rw [Nat.add_mul, Nat.mul_add]; omega
    omega
theorem filter_rng (l : List Int) (p : Int → Bool) : ∀ (k : Nat), k ≤ l.length → ((rngL (k : Int) (l.length - k)).filter fun j => match l[j.toNat]? with | some y => p y | none => false).length = ((l.drop k).filter p).length := by
  have key : ∀ (n k : Nat), k + n = l.length → ((rngL (k : Int) n).filter fun j => match l[j.toNat]? with | some y => p y | none => false).length = ((l.drop k).filter p).length := by
    intro n
    induction n with
    | zero => intro k h; rw [show k = l.length by omega, List.drop_length]; rfl
    | succ n ih =>
      intro k h
      have hk : k < l.length := by omega
      have e : rngL (k : Int) (n + 1) = (k : Int) :: rngL ((k + 1 : Nat) : Int) n := by
        unfold rngL
        rw [List.range_succ_eq_map, List.map_cons, List.map_map]
        rw [show (k : Int) + (0 : Nat) = k by omega]
        congr 1
        refine List.map_congr_left fun i _ => ?_
        simp only [Function.comp]; omega
      rw [e, List.filter_cons, List.drop_eq_getElem_cons hk, List.filter_cons]
      have ih' := ih (k + 1) (by omega)
      have : (match l[(k : Int).toNat]? with | some y => p y | none => false) = p l[k] := by
        rw [Int.toNat_natCast, List.getElem?_eq_getElem hk]
      rw [this]
      split
      · rw [List.length_cons, List.length_cons, ih']
      · exact ih'
  intro k h
  exact key _ k (by omega)
theorem sum_inv (l : List Int) : ((List.range l.length).map fun i => match l[i]? with | some x => ((l.drop (i + 1)).filter fun y => decide (x > y)).length | none => 0).sum = invL l := by
  induction l with
  | nil => rfl
  | cons x xs ih =>
    rw [List.length_cons, List.range_succ_eq_map, List.map_cons, List.sum_cons, List.map_map, invL, ← ih]
    congr 1
/-! ### to the front, further back -/
def rest (l : List Int) (b : Int) : List Int := l.filter fun y => decide (y ≠ b)
def lay (l : List Int) (b : Int) (k : Nat) : List Int := (rest l b).take k ++ [b] ++ (rest l b).drop k
def mtf (l : List Int) (b : Int) : List Int := b :: rest l b
theorem lay_zero (l : List Int) (b : Int) : lay l b 0 = mtf l b := by simp [lay, mtf]
theorem rest_eq (l : List Int) (b : Int) (h : b ∉ l) : rest l b = l := by
  unfold rest
  exact List.filter_eq_self.mpr fun y hy => by
    have : y ≠ b := fun e => h (by rw [← e]; exact hy)
    simpa using this
theorem rest_perm {l : List Int} {b : Int} (hm : b ∈ l) (hn : l.Nodup) : (b :: rest l b).Perm l := by
  induction l with
  | nil => cases hm
  | cons x xs ih =>
    have hx := List.nodup_cons.mp hn
    unfold rest
    rw [List.filter_cons]
    by_cases e : x = b
    · subst e
      have := rest_eq xs x hx.1
      unfold rest at this
      simp only [ne_eq, not_true, decide_false, Bool.false_eq_true, if_false]
      rw [show (fun y => decide (¬y = x)) = fun y => decide (y ≠ x) from rfl, this]
    · have hb : b ∈ xs := by
        rcases List.mem_cons.mp hm with q | q
        · exact absurd q.symm e
        · exact q
      simp only [ne_eq, e, not_false_eq_true, decide_true, if_true]
      exact (List.Perm.swap x b _).trans ((ih hb hx.2).cons x)
theorem lay_perm {l : List Int} {b : Int} (hm : b ∈ l) (hn : l.Nodup) (k : Nat) : (lay l b k).Perm l := by
  refine List.Perm.trans ?_ (rest_perm hm hn)
  unfold lay
  rw [List.append_assoc, List.singleton_append]
  refine (List.perm_middle).trans ?_
  rw [List.take_append_drop]
theorem mtf_perm {l : List Int} {b : Int} (hm : b ∈ l) (hn : l.Nodup) : (mtf l b).Perm l := rest_perm hm hn
theorem lay_len {l : List Int} {b : Int} (hm : b ∈ l) (hn : l.Nodup) (k : Nat) : (lay l b k).length = l.length := (lay_perm hm hn k).length_eq
/-- laid where it stands -/
theorem lay_self {l : List Int} {b : Int} (hm : b ∈ l) (hn : l.Nodup) : lay l b (l.idxOf b) = l := by
  induction l with
  | nil => cases hm
  | cons x xs ih =>
    have hx := List.nodup_cons.mp hn
    by_cases e : x = b
    · subst e
      have h1 := rest_eq xs x hx.1
      simp only [lay, rest, List.idxOf_cons_self, List.filter_cons, ne_eq, not_true, decide_false, Bool.false_eq_true, if_false, List.take_zero, List.nil_append, List.drop_zero]
      unfold rest at h1
      rw [show (fun y => decide (¬y = x)) = fun y => decide (y ≠ x) from rfl, h1]; rfl
    · have hb : b ∈ xs := by
        rcases List.mem_cons.mp hm with q | q
        · exact absurd q.symm e
        · exact q
      have ih := ih hb hx.2
      have e1 : (x :: xs).idxOf b = xs.idxOf b + 1 := by rw [List.idxOf_cons]; have e' : (x == b) = false := (by simpa using e); simp [e']
      have e2 : rest (x :: xs) b = x :: rest xs b := by unfold rest; rw [List.filter_cons]; simp [e]
      unfold lay at ih ⊢
      rw [e1, e2, List.take_succ_cons, List.drop_succ_cons]
      rw [List.append_assoc] at ih ⊢
      rw [List.cons_append, ih]
/-- the pairs of a row that fall, as the text counts them -/
theorem crossN (l : List Int) (hl : l.length ≤ 900) : Ok (oComp2 (rngL 0 l.length) (fun at_1 => ((oRng (at_1 + 1) (l.length : Int)).bind fun r1 => oComp r1 (fun later => ((oIx l at_1).bind fun it1 => (oIx l later).bind fun it2 => if (decide (it1 > it2)) then ( some (some 1)) else some none : Option (Option Int))) : Option (List Int)))) fun r => r.length = invL l := by
  let p : Int → Int → Bool := fun i j => match l[i.toNat]? with | some x => (match l[j.toNat]? with | some y => decide (x > y) | none => false) | none => false
  let G : Int → List Int := fun i => ((rngL (i + 1) (l.length - (i.toNat + 1))).filter (p i)).map fun _ => 1
  have glen : ∀ i : Nat, i < l.length → (G (i : Int)).length = match l[i]? with | some x => ((l.drop (i + 1)).filter fun y => decide (x > y)).length | none => 0 := by
    intro i hi
    show (((rngL ((i : Int) + 1) (l.length - ((i : Int).toNat + 1))).filter (p i)).map fun _ => (1 : Int)).length = _
    rw [List.length_map, Int.toNat_natCast]
    have e : p (i : Int) = fun j => match l[j.toNat]? with | some y => decide (l[i] > y) | none => false := by
      funext j
      show (match l[(i : Int).toNat]? with | some x => (match l[j.toNat]? with | some y => decide (x > y) | none => false) | none => false) = _
      rw [Int.toNat_natCast, List.getElem?_eq_getElem hi]
    rw [e, List.getElem?_eq_getElem hi]
    exact filter_rng l (fun y => decide (l[i] > y)) (i + 1) hi
  have tot : ((rngL 0 l.length).map G).flatten.length = invL l := by
    rw [List.length_flatten, List.map_map, ← sum_inv l]
    unfold rngL
    rw [List.map_map]
    congr 1
    refine List.map_congr_left fun i hi => ?_
    simp only [Function.comp, Int.zero_add]
    exact glen i (List.mem_range.mp hi)
  have hle := invL_le l
  have hsq : l.length * l.length ≤ 900 * 900 := Nat.mul_le_mul hl hl
  refine ok_comp2 G (by rw [rngL_length]; omega) (fun i hi => ?_) (by rw [tot]; omega) tot
  have hi := rngL_mem.mp hi
  refine ok_is (ok_bind (ok_rng (by omega) (by omega) (by omega) (by omega) ?_))
  have hx : i.toNat < l.length := by omega
  have ei : ((i.toNat : Nat) : Int) = i := by omega
  refine ok_compF (p i) (fun _ => 1) (by rw [rngL_length]; omega) (fun j hj => ?_) ?_
  · have hj := rngL_mem.mp hj
    have hy : j.toNat < l.length := by omega
    rw [oIx_int (by omega) hx, oIx_int (by omega) hy]
    have e : p i j = decide (l[i.toNat] > l[j.toNat]) := by
      show (match l[i.toNat]? with | some x => (match l[j.toNat]? with | some y => decide (x > y) | none => false) | none => false) = _
      rw [List.getElem?_eq_getElem hx, List.getElem?_eq_getElem hy]
    rw [e]
    rfl
  · show _ = ((rngL (i + 1) (l.length - (i.toNat + 1))).filter (p i)).map fun _ => (1 : Int)
    rw [show ((l.length : Int) - (i + 1)).toNat = l.length - (i.toNat + 1) by omega]
/-- how many pairs of one stand the other way in other -/
def crs (one other : List Int) : Nat := invL (one.map (pos other))
theorem rest_len (l : List Int) (b : Int) : (rest l b).length ≤ l.length := List.length_filter_le _ _
theorem take_filter_snoc (one : List Int) (f : Int → Int) {i : Nat} {b : Int} (h : one[i]? = some b) : invL ((one.take (i + 1)).map f) = invL ((one.take i).map f) + ((one.take i).filter fun m => decide (f m > f b)).length := by
  rw [List.take_succ, h, Option.toList_some, List.map_append, List.map_singleton, invL_snoc, List.filter_map, List.length_map]
  rfl
/-! ### ways -/
abbrev Stop := Int × (List Int × Int)
def wok : List Int → List Stop → Prop
  | _, [] => True
  | lies, (b, (f, p)) :: w => f.Perm lies ∧ b ∈ f ∧ 0 ≤ p ∧ wok (lay f b p.toNat) w
def wcost : List Int → List Stop → Int × Int × Int
  | _, [] => (0, 0, 0)
  | lies, (b, (f, p)) :: w => (pos f b + 1 + (wcost (lay f b p.toNat) w).1, (crs lies f : Int) + (wcost (lay f b p.toNat) w).2.1, pos f b - p + (wcost (lay f b p.toNat) w).2.2)
/-- the front rule's way -/
def fway : List Int → List Int → List (List Int × Int)
  | _, [] => []
  | lies, b :: as => (lies, 0) :: fway (mtf lies b) as
def fcost : List Int → List Int → Int
  | _, [] => 0
  | lies, b :: as => pos lies b + fcost (mtf lies b) as
def scost (l as : List Int) : Int := (as.map (pos l)).sum
theorem fway_len : ∀ (as lies : List Int), (fway lies as).length = as.length
  | [], _ => rfl
  | b :: as, lies => by simp [fway, fway_len as]
theorem crs_self {l : List Int} (hn : l.Nodup) : crs l l = 0 := by
  unfold crs
  have key : ∀ (k : Nat) (l : List Int), ∀ f : Int → Int, (l.map f) = rngL (k : Int) l.length → invL (l.map f) = 0 := by
    intro k l
    induction l generalizing k with
    | nil => intro f _; rfl
    | cons x xs ih =>
      intro f h
      have e : rngL (k : Int) (xs.length + 1) = (k : Int) :: rngL ((k + 1 : Nat) : Int) xs.length := by
        unfold rngL
        rw [List.range_succ_eq_map, List.map_cons, List.map_map]
        rw [show (k : Int) + (0 : Nat) = k by omega]
        congr 1
        refine List.map_congr_left fun i _ => ?_
        simp only [Function.comp]; omega
      rw [List.map_cons, List.length_cons, e] at h
      obtain ⟨h1, h2⟩ := List.cons.inj h
      rw [List.map_cons, invL, ih (k + 1) f h2, Nat.add_zero, h2, h1]
      rw [List.length_eq_zero_iff, List.filter_eq_nil_iff]
      intro y hy
      have := rngL_mem.mp hy
      simp; omega
  refine key 0 l (pos l) ?_
  refine List.ext_getElem? fun i => ?_
  rw [List.getElem?_map]
  by_cases hi : i < l.length
  · rw [List.getElem?_eq_getElem hi]
    unfold rngL
    rw [List.getElem?_map, List.getElem?_range hi]
    simp only [Option.map_some]
    unfold pos
    rw [hn.idxOf_getElem i hi]; simp
  · rw [List.getElem?_eq_none (by omega), List.getElem?_eq_none (by rw [rngL_length]; omega)]; rfl
theorem fway_ok : ∀ (as lies : List Int), lies.Nodup → (∀ b ∈ as, b ∈ lies) → wok lies (as.zip (fway lies as)) ∧ (wcost lies (as.zip (fway lies as))).1 = fcost lies as + as.length
  | [], lies, _, _ => ⟨trivial, rfl⟩
  | b :: as, lies, hn, hs => by
    have hb := hs b List.mem_cons_self
    have hp := mtf_perm hb hn
    have ih := fway_ok as (mtf lies b) (hp.nodup_iff.mpr hn) fun c hc => hp.mem_iff.mpr (hs c (List.mem_cons_of_mem _ hc))
    have e : lay lies b (0 : Int).toNat = mtf lies b := lay_zero lies b
    refine ⟨⟨List.Perm.refl _, hb, Int.le_refl _, by rw [e]; exact ih.1⟩, ?_⟩
    show pos lies b + 1 + (wcost (lay lies b (0 : Int).toNat) (as.zip (fway (mtf lies b) as))).1 = pos lies b + fcost (mtf lies b) as + _
    rw [e, ih.2, List.length_cons]; omega
def cway (l as : List Int) : List (List Int × Int) := as.map fun b => (l, pos l b)
theorem cway_from : ∀ (as l : List Int), l.Nodup → (∀ b ∈ as, b ∈ l) → wok l (as.zip (cway l as)) ∧ wcost l (as.zip (cway l as)) = (scost l as + as.length, 0, 0)
  | [], l, _, _ => ⟨trivial, rfl⟩
  | b :: as, l, hn, hs => by
    have hb := hs b List.mem_cons_self
    have ih := cway_from as l hn fun c hc => hs c (List.mem_cons_of_mem _ hc)
    have e : lay l b (pos l b).toNat = l := by unfold pos; rw [Int.toNat_natCast]; exact lay_self hb hn
    refine ⟨⟨List.Perm.refl _, hb, pos_nonneg _ _, by rw [e]; exact ih.1⟩, ?_⟩
    show (pos l b + 1 + (wcost (lay l b (pos l b).toNat) (as.zip (cway l as))).1, (crs l l : Int) + (wcost (lay l b (pos l b).toNat) (as.zip (cway l as))).2.1, pos l b - pos l b + (wcost (lay l b (pos l b).toNat) (as.zip (cway l as))).2.2) = _
    rw [e, ih.2, crs_self hn]
    simp only [scost, List.map_cons, List.sum_cons, List.length_cons]
    refine Prod.ext ?_ (Prod.ext ?_ ?_) <;> simp <;> omega
/-- from another row: the exchanges of the first ask -/
theorem cway_ok {as l t : List Int} (hn : l.Nodup) (hp : l.Perm t) (hs : ∀ b ∈ as, b ∈ l) : wok t (as.zip (cway l as)) ∧ wcost t (as.zip (cway l as)) = (scost l as + as.length, (if as = [] then 0 else (crs t l : Int)), 0) := by
  cases as with
  | nil => exact ⟨trivial, rfl⟩
  | cons b as =>
    have hb := hs b List.mem_cons_self
    have ih := cway_from as l hn fun c hc => hs c (List.mem_cons_of_mem _ hc)
    have e : lay l b (pos l b).toNat = l := by unfold pos; rw [Int.toNat_natCast]; exact lay_self hb hn
    refine ⟨⟨hp, hb, pos_nonneg _ _, by rw [e]; exact ih.1⟩, ?_⟩
    show (pos l b + 1 + (wcost (lay l b (pos l b).toNat) (as.zip (cway l as))).1, (crs t l : Int) + (wcost (lay l b (pos l b).toNat) (as.zip (cway l as))).2.1, pos l b - pos l b + (wcost (lay l b (pos l b).toNat) (as.zip (cway l as))).2.2) = _
    rw [e, ih.2]
    simp only [scost, List.map_cons, List.sum_cons, List.length_cons]
    refine Prod.ext ?_ (Prod.ext ?_ ?_) <;> simp <;> omega
end Tp

set_option Elab.async false
set_option linter.all false
set_option maxRecDepth 100000
set_option maxHeartbeats 1000000
namespace Tp
open PySem L2 DL
/-! ### sums over pairs -/
def pairSum (g : Int → Int → Int) : List Int → Int
  | [] => 0
  | x :: xs => (xs.map (g x)).sum + pairSum g xs
theorem sum_perm {l1 l2 : List Int} (h : l1.Perm l2) : l1.sum = l2.sum := by
  induction h with
  | nil => rfl
  | cons x _ ih => simp [ih]
  | swap x y l => simp only [List.sum_cons]; omega
  | trans _ _ h1 h2 => exact h1.trans h2
theorem pairSum_perm {g : Int → Int → Int} (hg : ∀ x y, g x y = g y x) {l1 l2 : List Int} (h : l1.Perm l2) : pairSum g l1 = pairSum g l2 := by
  induction h with
  | nil => rfl
  | cons x p ih => simp only [pairSum]; rw [ih, sum_perm (p.map _)]
  | swap x y l =>
    simp only [pairSum, List.map_cons, List.sum_cons]
    rw [hg x y]; omega
  | trans _ _ h1 h2 => exact h1.trans h2
theorem sum_map_add (f h : Int → Int) (l : List Int) : (l.map fun x => f x + h x).sum = (l.map f).sum + (l.map h).sum := by
  induction l with
  | nil => rfl
  | cons x xs ih => simp only [List.map_cons, List.sum_cons, ih]; omega
theorem pairSum_add (g h : Int → Int → Int) (l : List Int) : pairSum (fun x y => g x y + h x y) l = pairSum g l + pairSum h l := by
  induction l with
  | nil => rfl
  | cons x xs ih => simp only [pairSum, ih, sum_map_add]; omega
theorem pairSum_congr {g h : Int → Int → Int} {l : List Int} (p : l.Pairwise fun x y => g x y = h x y) : pairSum g l = pairSum h l := by
  induction l with
  | nil => rfl
  | cons x xs ih =>
    obtain ⟨h1, h2⟩ := List.pairwise_cons.mp p
    simp only [pairSum]
    rw [ih h2, List.map_congr_left h1]
/-! ### two of the blocks -/
def two (row : List Int) (x y : Int) : List Int := row.filterMap fun z => if z = x then some 0 else if z = y then some 1 else none
theorem pos_pw {l : List Int} (hn : l.Nodup) : l.Pairwise fun x y => pos l x < pos l y := by
  rw [List.pairwise_iff_getElem]
  intro i j hi hj hij
  unfold pos
  rw [hn.idxOf_getElem i hi, hn.idxOf_getElem j hj]
  exact_mod_cast hij
theorem two_nil {l : List Int} {x y : Int} (hx : x ∉ l) (hy : y ∉ l) : two l x y = [] := by
  unfold two
  rw [List.filterMap_eq_nil_iff]
  intro z hz
  have h1 : z ≠ x := fun e => hx (e ▸ hz)
  have h2 : z ≠ y := fun e => hy (e ▸ hz)
  rw [if_neg h1, if_neg h2]
theorem two_one {l : List Int} {x y : Int} (hn : l.Nodup) (hx : x ∉ l) (hy : y ∈ l) (ne : x ≠ y) : two l x y = [1] := by
  induction l with
  | nil => cases hy
  | cons z zs ih =>
    obtain ⟨h1, h2⟩ := List.nodup_cons.mp hn
    have zx : z ≠ x := fun e => hx (e ▸ List.mem_cons_self)
    have hx' : x ∉ zs := fun h => hx (List.mem_cons_of_mem _ h)
    unfold two
    rw [List.filterMap_cons, if_neg zx]
    by_cases e : z = y
    · rw [if_pos e]
      have := two_nil hx' (e ▸ h1)
      unfold two at this
      rw [this]
    · rw [if_neg e]
      exact ih h2 hx' ((List.mem_cons.mp hy).resolve_left fun q => e q.symm)
theorem two_swap (l : List Int) {x y : Int} (ne : x ≠ y) : two l y x = (two l x y).map fun z => 1 - z := by
  unfold two
  rw [List.map_filterMap]
  refine congrArg (fun f => List.filterMap f l) (funext fun z => ?_)
  by_cases h1 : z = x
  · subst h1; simp [ne]
  · by_cases h2 : z = y
    · subst h2; simp [h1]
    · simp [h1, h2]
theorem two_at {l : List Int} {x y : Int} (hn : l.Nodup) (hx : x ∈ l) (hy : y ∈ l) (ne : x ≠ y) : two l x y = if pos l x < pos l y then [0, 1] else [1, 0] := by
  induction l with
  | nil => cases hx
  | cons z zs ih =>
    obtain ⟨h1, h2⟩ := List.nodup_cons.mp hn
    rw [pos_cons, pos_cons]
    by_cases zx : z = x
    · subst zx
      have hy' : y ∈ zs := (List.mem_cons.mp hy).resolve_left fun q => ne q.symm
      rw [if_pos rfl, if_neg ne, if_pos (by have := pos_nonneg zs y; omega)]
      have := two_one h2 h1 hy' ne
      unfold two at this ⊢
      rw [List.filterMap_cons, if_pos rfl, this]
    · have hx' : x ∈ zs := (List.mem_cons.mp hx).resolve_left fun q => zx q.symm
      rw [if_neg zx]
      by_cases zy : z = y
      · subst zy
        rw [if_pos rfl, if_neg (by have := pos_nonneg zs x; omega)]
        have h3 := two_one h2 h1 hx' (Ne.symm ne)
        have h4 := two_swap zs (Ne.symm ne)
        rw [h3] at h4
        unfold two at h4 ⊢
        rw [List.filterMap_cons, if_neg zx, if_pos rfl, h4]; rfl
      · have hy' : y ∈ zs := (List.mem_cons.mp hy).resolve_left fun q => zy q.symm
        rw [if_neg zy]
        have := ih h2 hx' hy'
        unfold two at this ⊢
        rw [List.filterMap_cons, if_neg zx, if_neg zy, this]
        by_cases q : pos zs x < pos zs y
        · rw [if_pos q, if_pos (by omega)]
        · rw [if_neg q, if_neg (by omega)]
theorem two_pw {l : List Int} (hn : l.Nodup) : l.Pairwise fun x y => two l x y = [0, 1] ∧ x ≠ y := by
  have h1 := pos_pw hn
  refine List.Pairwise.imp_of_mem ?_ (List.pairwise_and_iff.mpr ⟨h1, hn⟩)
  intro x y hx hy ⟨a, b⟩
  exact ⟨by rw [two_at hn hx hy b, if_pos a], b⟩
theorem two_cons (b : Int) (as : List Int) (x y : Int) : two (b :: as) x y = if b = x then 0 :: two as x y else if b = y then 1 :: two as x y else two as x y := by
  unfold two
  rw [List.filterMap_cons]
  by_cases h1 : b = x
  · rw [if_pos h1, if_pos h1]
  · rw [if_neg h1, if_neg h1]
    by_cases h2 : b = y
    · rw [if_pos h2, if_pos h2]
    · rw [if_neg h2, if_neg h2]
theorem two_rest (l : List Int) (b x y : Int) : two (rest l b) x y = if b = x then two (rest l b) x y else if b = y then two (rest l b) x y else two l x y := by
  split
  · rfl
  · rename_i h1
    split
    · rfl
    · rename_i h2
      induction l with
      | nil => rfl
      | cons z zs ih =>
        have e : rest (z :: zs) b = if z = b then rest zs b else z :: rest zs b := by
          unfold rest; rw [List.filter_cons]; by_cases q : z = b <;> simp [q]
        rw [e, two_cons z zs]
        by_cases q : z = b
        · subst q; rw [if_pos rfl, if_neg h1, if_neg h2, ih]
        · rw [if_neg q, two_cons, ih]
theorem two_restx (l : List Int) {x y : Int} (ne : x ≠ y) : two (rest l x) x y = rest (two l x y) 0 := by
  induction l with
  | nil => rfl
  | cons z zs ih =>
    have e : rest (z :: zs) x = if z = x then rest zs x else z :: rest zs x := by
      unfold rest; rw [List.filter_cons]; by_cases q : z = x <;> simp [q]
    have e2 : ∀ (w : Int) (ws : List Int), rest (w :: ws) 0 = if w = 0 then rest ws 0 else w :: rest ws 0 := by
      intro w ws; unfold rest; rw [List.filter_cons]; by_cases q : w = 0 <;> simp [q]
    rw [e, two_cons z zs]
    by_cases q : z = x
    · rw [if_pos q, if_pos q, e2, if_pos rfl, ih]
    · rw [if_neg q, if_neg q, two_cons, if_neg q]
      by_cases q2 : z = y
      · rw [if_pos q2, if_pos q2, e2, if_neg (by decide), ih]
      · rw [if_neg q2, if_neg q2, ih]
/-! ### turned about -/
def fl (z : Int) : Int := 1 - z
theorem fl_inj {a b : Int} : fl a = fl b ↔ a = b := by unfold fl; omega
theorem pos_fl (l : List Int) (b : Int) : pos (l.map fl) (fl b) = pos l b := by
  induction l with
  | nil => rfl
  | cons x xs ih =>
    rw [List.map_cons, pos_cons, pos_cons, ih]
    by_cases e : x = b
    · rw [if_pos e, if_pos (fl_inj.mpr e)]
    · rw [if_neg e, if_neg fun q => e (fl_inj.mp q)]
theorem rest_fl (l : List Int) (b : Int) : rest (l.map fl) (fl b) = (rest l b).map fl := by
  unfold rest
  rw [List.filter_map]
  congr 1
  refine List.filter_congr fun x _ => ?_
  simp only [Function.comp]
  by_cases e : x = b
  · simp [e]
  · have : ¬ fl x = fl b := fun q => e (fl_inj.mp q)
    simp [e, this]
theorem mtf_fl (l : List Int) (b : Int) : mtf (l.map fl) (fl b) = (mtf l b).map fl := by
  unfold mtf; rw [rest_fl]; rfl
theorem fcost_fl : ∀ (as l : List Int), fcost (l.map fl) (as.map fl) = fcost l as
  | [], l => rfl
  | b :: as, l => by
    show pos (l.map fl) (fl b) + fcost (mtf (l.map fl) (fl b)) (as.map fl) = _
    rw [pos_fl, mtf_fl, fcost_fl as]; rfl
theorem scost_fl (l as : List Int) : scost (l.map fl) (as.map fl) = scost l as := by
  unfold scost
  rw [List.map_map]
  congr 1
  exact List.map_congr_left fun b _ => pos_fl l b
theorem crs_fl (l t : List Int) : crs (l.map fl) (t.map fl) = crs l t := by
  unfold crs
  rw [List.map_map]
  congr 1
  exact List.map_congr_left fun b _ => pos_fl t b
/-! ### the four sums -/
def gF (l as : List Int) (x y : Int) : Int := fcost (two l x y) (two as x y)
def gS (l as : List Int) (x y : Int) : Int := scost (two l x y) (two as x y)
def gC (l t : List Int) (x y : Int) : Int := (crs (two l x y) (two t x y) : Int)
theorem two_fl (l : List Int) {x y : Int} (ne : x ≠ y) : two l y x = (two l x y).map fl := two_swap l ne
theorem gF_sym (l as : List Int) (x y : Int) : gF l as x y = gF l as y x := by
  by_cases e : x = y
  · rw [e]
  · unfold gF; rw [two_fl l e, two_fl as e, fcost_fl]
theorem gS_sym (l as : List Int) (x y : Int) : gS l as x y = gS l as y x := by
  by_cases e : x = y
  · rw [e]
  · unfold gS; rw [two_fl l e, two_fl as e, scost_fl]
theorem gC_sym (l as : List Int) (x y : Int) : gC l as x y = gC l as y x := by
  by_cases e : x = y
  · rw [e]
  · unfold gC; rw [two_fl l e, two_fl as e, crs_fl]
/-- what one ask costs a pair -/
def hB (l : List Int) (b x y : Int) : Int := if b = x then pos (two l x y) 0 else if b = y then pos (two l x y) 1 else 0
theorem pair_zero {l : List Int} {b : Int} (h : b ∉ l) : pairSum (fun _ y => if y = b then 1 else 0) l = 0 ∧ (l.map fun y => if y = b then (1 : Int) else 0).sum = 0 := by
  induction l with
  | nil => exact ⟨rfl, rfl⟩
  | cons x xs ih =>
    have h1 : x ≠ b := fun e => h (e ▸ List.mem_cons_self)
    obtain ⟨i1, i2⟩ := ih fun q => h (List.mem_cons_of_mem _ q)
    exact ⟨by simp only [pairSum]; rw [i1, i2]; rfl, by rw [List.map_cons, List.sum_cons, i2, if_neg h1]; rfl⟩
theorem sum_one {l : List Int} {b : Int} (hn : l.Nodup) (h : b ∈ l) : (l.map fun y => if y = b then (1 : Int) else 0).sum = 1 := by
  induction l with
  | nil => cases h
  | cons x xs ih =>
    obtain ⟨h1, h2⟩ := List.nodup_cons.mp hn
    rw [List.map_cons, List.sum_cons]
    by_cases e : x = b
    · rw [if_pos e, (pair_zero (e ▸ h1)).2]; rfl
    · rw [if_neg e, ih h2 ((List.mem_cons.mp h).resolve_left fun q => e q.symm)]; rfl
theorem pair_pos {l : List Int} {b : Int} (hn : l.Nodup) (h : b ∈ l) : pairSum (fun _ y => if y = b then 1 else 0) l = pos l b := by
  induction l with
  | nil => cases h
  | cons x xs ih =>
    obtain ⟨h1, h2⟩ := List.nodup_cons.mp hn
    simp only [pairSum]
    rw [pos_cons]
    by_cases e : x = b
    · obtain ⟨i1, i2⟩ := pair_zero (e ▸ h1)
      rw [if_pos e, i1, i2]; rfl
    · have hb := (List.mem_cons.mp h).resolve_left fun q => e q.symm
      rw [if_neg e, ih h2 hb, sum_one h2 hb]; omega
theorem pair_hB {l : List Int} {b : Int} (hn : l.Nodup) (h : b ∈ l) : pairSum (hB l b) l = pos l b := by
  rw [← pair_pos hn h]
  refine pairSum_congr ((two_pw hn).imp fun {x y} ⟨e, ne⟩ => ?_)
  unfold hB
  rw [e]
  by_cases h1 : b = x
  · subst h1; rw [if_pos rfl, if_neg (Ne.symm ne)]; rfl
  · rw [if_neg h1]
    by_cases h2 : b = y
    · subst h2; rw [if_pos rfl, if_pos rfl]; rfl
    · rw [if_neg h2, if_neg (Ne.symm h2)]
theorem gS_cons (l : List Int) (b : Int) (as : List Int) (x y : Int) : gS l (b :: as) x y = hB l b x y + gS l as x y := by
  unfold gS hB scost
  rw [two_cons]
  by_cases h1 : b = x
  · rw [if_pos h1, if_pos h1]; rfl
  · rw [if_neg h1, if_neg h1]
    by_cases h2 : b = y
    · rw [if_pos h2, if_pos h2]; rfl
    · rw [if_neg h2, if_neg h2]; omega
theorem pair_gS {l : List Int} (hn : l.Nodup) : ∀ as : List Int, (∀ b ∈ as, b ∈ l) → pairSum (gS l as) l = scost l as
  | [], _ => by
    have : ∀ m : List Int, pairSum (gS l []) m = 0 := by
      intro m
      induction m with
      | nil => rfl
      | cons x xs ih =>
        simp only [pairSum]; rw [ih]
        have : ∀ k : List Int, (k.map (gS l [] x)).sum = 0 := by
          intro k
          induction k with
          | nil => rfl
          | cons z zs ih => rw [List.map_cons, List.sum_cons, ih]; rfl
        rw [this]; rfl
    exact this l
  | b :: as, hs => by
    have e : gS l (b :: as) = fun x y => hB l b x y + gS l as x y := funext fun x => funext fun y => gS_cons l b as x y
    rw [e, pairSum_add, pair_hB hn (hs b List.mem_cons_self), pair_gS hn as fun c hc => hs c (List.mem_cons_of_mem _ hc)]
    rfl
theorem gF_cons (l : List Int) (b : Int) (as : List Int) {x y : Int} (ne : x ≠ y) : gF l (b :: as) x y = hB l b x y + gF (mtf l b) as x y := by
  unfold gF hB
  have e : two (mtf l b) x y = if b = x then 0 :: two (rest l b) x y else if b = y then 1 :: two (rest l b) x y else two (rest l b) x y := two_cons b (rest l b) x y
  rw [e, two_cons b as]
  by_cases h1 : b = x
  · subst h1
    rw [if_pos rfl, if_pos rfl, if_pos rfl, two_restx l ne]; rfl
  · rw [if_neg h1, if_neg h1, if_neg h1]
    by_cases h2 : b = y
    · subst h2
      rw [if_pos rfl, if_pos rfl, if_pos rfl]
      have h3 := two_restx l (Ne.symm ne)
      have h4 : two (rest l b) x b = rest (two l x b) 1 := by
        rw [two_fl (rest l b) (Ne.symm ne), h3, two_fl l (Ne.symm ne)]
        exact (rest_fl (two l b x) 0).symm
      rw [h4]; rfl
    · rw [if_neg h2, if_neg h2, if_neg h2]
      have := two_rest l b x y
      rw [if_neg h1, if_neg h2] at this
      rw [this]; omega
theorem pair_gF : ∀ (as l : List Int), l.Nodup → (∀ b ∈ as, b ∈ l) → pairSum (gF l as) l = fcost l as
  | [], l, _, _ => by
    have : ∀ m : List Int, pairSum (gF l []) m = 0 := by
      intro m
      induction m with
      | nil => rfl
      | cons x xs ih =>
        simp only [pairSum]; rw [ih]
        have : ∀ k : List Int, (k.map (gF l [] x)).sum = 0 := by
          intro k
          induction k with
          | nil => rfl
          | cons z zs ih => rw [List.map_cons, List.sum_cons, ih]; rfl
        rw [this]; rfl
    exact this l
  | b :: as, l, hn, hs => by
    have hb := hs b List.mem_cons_self
    have hp := mtf_perm hb hn
    have e : pairSum (gF l (b :: as)) l = pairSum (fun x y => hB l b x y + gF (mtf l b) as x y) l := pairSum_congr (hn.imp fun {x y} ne => gF_cons l b as ne)
    rw [e, pairSum_add, pair_hB hn hb, pairSum_perm (gF_sym (mtf l b) as) hp.symm, pair_gF as (mtf l b) (hp.nodup_iff.mpr hn) fun c hc => hp.mem_iff.mpr (hs c (List.mem_cons_of_mem _ hc))]
    rfl
theorem invL_pair (f : Int → Int) (l : List Int) : (invL (l.map f) : Int) = pairSum (fun x y => if f x > f y then 1 else 0) l := by
  induction l with
  | nil => rfl
  | cons x xs ih =>
    rw [List.map_cons, invL]
    simp only [pairSum]
    rw [← ih]
    have : ∀ k : List Int, (((k.map f).filter fun y => decide (f x > y)).length : Int) = (k.map fun y => if f x > f y then (1 : Int) else 0).sum := by
      intro k
      induction k with
      | nil => rfl
      | cons z zs ih =>
        rw [List.map_cons, List.map_cons, List.sum_cons, List.filter_cons, ← ih]
        by_cases q : f x > f z
        · rw [if_pos (by simpa using q), if_pos q, List.length_cons]; push_cast; omega
        · rw [if_neg (by simpa using q), if_neg q]; omega
    rw [← this xs]; push_cast; rfl
theorem pos_inj {l : List Int} {x y : Int} (hx : x ∈ l) (hy : y ∈ l) (h : pos l x = pos l y) : x = y := by
  induction l with
  | nil => cases hx
  | cons z zs ih =>
    rw [pos_cons, pos_cons] at h
    have n1 := pos_nonneg zs x
    have n2 := pos_nonneg zs y
    by_cases a : z = x
    · by_cases b : z = y
      · rw [← a, b]
      · rw [if_pos a, if_neg b] at h; omega
    · by_cases b : z = y
      · rw [if_neg a, if_pos b] at h; omega
      · rw [if_neg a, if_neg b] at h
        exact ih ((List.mem_cons.mp hx).resolve_left fun q => a q.symm) ((List.mem_cons.mp hy).resolve_left fun q => b q.symm) (by omega)
theorem pair_gC {l t : List Int} (hn : l.Nodup) (ht : t.Nodup) (hs : ∀ b ∈ l, b ∈ t) : pairSum (gC l t) l = (crs l t : Int) := by
  unfold crs
  rw [invL_pair]
  refine pairSum_congr (List.Pairwise.imp_of_mem ?_ (two_pw hn))
  intro x y hx hy ⟨e, ne⟩
  unfold gC
  rw [e, two_at ht (hs x hx) (hs y hy) ne]
  by_cases q : pos t x > pos t y
  · rw [if_pos q, if_neg (by omega)]; rfl
  · have : pos t x ≠ pos t y := fun z => ne (pos_inj (hs x hx) (hs y hy) z)
    rw [if_neg q, if_pos (by omega)]; rfl
/-- backwards -/
theorem two_rev (l : List Int) (x y : Int) : two l.reverse x y = (two l x y).reverse := by unfold two; rw [List.filterMap_reverse]
theorem desc_inv {l : List Int} (h : l.Pairwise fun x y => x > y) : 2 * invL l = l.length * (l.length - 1) := by
  induction l with
  | nil => rfl
  | cons x xs ih =>
    obtain ⟨h1, h2⟩ := List.pairwise_cons.mp h
    have ih := ih h2
    rw [invL, List.filter_eq_self.mpr (fun y hy => by simpa using h1 y hy), List.length_cons, Nat.mul_add, ih]
    cases xs with
    | nil => rfl
    | cons z zs =>
      simp only [List.length_cons, Nat.add_sub_cancel]
      rw [Nat.mul_comm (zs.length + 1) zs.length, ← Nat.add_mul]
      congr 1
      omega
theorem crs_rev {l : List Int} (hn : l.Nodup) : 2 * crs l l.reverse = l.length * (l.length - 1) := by
  unfold crs
  have h : (l.map (pos l.reverse)).Pairwise fun x y => x > y := by
    rw [List.pairwise_map]
    have h1 := pos_pw (l := l.reverse) ((List.reverse_perm l).nodup_iff.mpr hn)
    rw [List.pairwise_reverse] at h1
    exact h1
  have := desc_inv h
  rwa [List.length_map] at this
/-! ### the sum, turn by turn -/
def back (n : Nat) : List Int := (rngL 0 n).reverse
theorem back_succ (n : Nat) : back (n + 1) = (n : Int) :: back n := by
  unfold back; rw [rngL_succ, List.reverse_append]; simp
theorem pair_back (g : Int → Int → Int) (n : Nat) : pairSum g (back (n + 1)) = pairSum g (back n) + ((rngL 0 n).map (g n)).sum := by
  rw [back_succ]
  simp only [pairSum]
  have := sum_perm ((List.reverse_perm (rngL 0 n)).map (g n))
  unfold back
  omega
theorem sum_succ (f : Int → Int) (j : Nat) : ((rngL 0 (j + 1)).map f).sum = ((rngL 0 j).map f).sum + f j := by
  rw [rngL_succ, List.map_append, List.sum_append]; simp
theorem idx_append {l m : List Int} {b : Int} (h : b ∉ l) : pos (l ++ m) b = l.length + pos m b := by
  induction l with
  | nil => simp
  | cons x xs ih =>
    have h1 : x ≠ b := fun e => h (e ▸ List.mem_cons_self)
    rw [List.cons_append, pos_cons, if_neg h1, ih (fun q => h (List.mem_cons_of_mem _ q)), List.length_cons]; push_cast; omega
theorem idx_append_l {l m : List Int} {b : Int} (h : b ∈ l) : pos (l ++ m) b = pos l b := by
  induction l with
  | nil => cases h
  | cons x xs ih =>
    rw [List.cons_append, pos_cons, pos_cons]
    by_cases e : x = b
    · rw [if_pos e, if_pos e]
    · rw [if_neg e, if_neg e, ih ((List.mem_cons.mp h).resolve_left fun q => e q.symm)]
theorem pos_rev {l : List Int} {b : Int} (hn : l.Nodup) (h : b ∈ l) : pos l b + pos l.reverse b = l.length - 1 := by
  induction l with
  | nil => cases h
  | cons x xs ih =>
    obtain ⟨h1, h2⟩ := List.nodup_cons.mp hn
    rw [List.reverse_cons, pos_cons, List.length_cons]
    by_cases e : x = b
    · subst e
      rw [if_pos rfl, idx_append (by simpa using h1), List.length_reverse, pos_cons, if_pos rfl]; push_cast; omega
    · have hb := (List.mem_cons.mp h).resolve_left fun q => e q.symm
      have := ih h2 hb
      rw [if_neg e, idx_append_l (List.mem_reverse.mpr hb)]; push_cast; omega
theorem scost_rev {l : List Int} (hn : l.Nodup) : ∀ as : List Int, (∀ b ∈ as, b ∈ l) → scost l as + scost l.reverse as = (l.length - 1) * as.length
  | [], _ => by simp [scost]
  | b :: as, hs => by
    have h1 := pos_rev hn (hs b List.mem_cons_self)
    have h2 := scost_rev hn as fun c hc => hs c (List.mem_cons_of_mem _ hc)
    unfold scost at h2 ⊢
    rw [List.map_cons, List.map_cons, List.sum_cons, List.sum_cons, List.length_cons]
    push_cast
    rw [Int.mul_add, ← h2]; omega
end Tp

set_option Elab.async false
set_option linter.all false
set_option maxRecDepth 100000
set_option maxHeartbeats 1000000
/-! TP3: rows told apart pair by pair. -/
namespace Tp
open PySem L2 DL
def bef (l : List Int) (x y : Int) : Bool := decide (pos l x < pos l y)
def dis (l t : List Int) (x y : Int) : Int := if bef l x y = bef t x y then 0 else 1
theorem bef_flip {l : List Int} {x y : Int} (hx : x ∈ l) (hy : y ∈ l) (ne : x ≠ y) : bef l y x = !bef l x y := by
  have : pos l x ≠ pos l y := fun e => ne (pos_inj hx hy e)
  unfold bef
  by_cases h : pos l x < pos l y
  · rw [decide_eq_true h, decide_eq_false (by omega)]; rfl
  · rw [decide_eq_false h, decide_eq_true (by omega)]; rfl
theorem dis_comm (l t : List Int) (x y : Int) : dis l t x y = dis t l x y := by
  unfold dis
  by_cases h : bef l x y = bef t x y
  · rw [if_pos h, if_pos h.symm]
  · rw [if_neg h, if_neg (Ne.symm h)]
/-- symmetric on the members, else zero -/
def mem2 (l : List Int) (g : Int → Int → Int) (x y : Int) : Int := if x ∈ l ∧ y ∈ l ∧ x ≠ y then g x y else 0
theorem pair_mem2 {l u : List Int} {g : Int → Int → Int} (hn : u.Nodup) (hp : u.Perm l) : pairSum (mem2 l g) u = pairSum g u := by
  refine pairSum_congr (List.Pairwise.imp_of_mem ?_ hn)
  intro x y hx hy ne
  unfold mem2
  rw [if_pos ⟨hp.mem_iff.mp hx, hp.mem_iff.mp hy, ne⟩]
theorem pair_swap {l u v : List Int} {g : Int → Int → Int} (hn : l.Nodup) (hu : u.Perm l) (hv : v.Perm l) (hs : ∀ x y, x ∈ l → y ∈ l → x ≠ y → g x y = g y x) : pairSum g u = pairSum g v := by
  rw [← pair_mem2 (hu.nodup_iff.mpr hn) hu, ← pair_mem2 (hv.nodup_iff.mpr hn) hv]
  refine pairSum_perm (fun x y => ?_) (hu.trans hv.symm)
  unfold mem2
  by_cases h : x ∈ l ∧ y ∈ l ∧ x ≠ y
  · rw [if_pos h, if_pos ⟨h.2.1, h.1, h.2.2.symm⟩, hs x y h.1 h.2.1 h.2.2]
  · rw [if_neg h, if_neg fun k => h ⟨k.2.1, k.1, k.2.2.symm⟩]
theorem dis_sym {l t : List Int} (hp : t.Perm l) {x y : Int} (hx : x ∈ l) (hy : y ∈ l) (ne : x ≠ y) : dis l t x y = dis l t y x := by
  unfold dis
  rw [bef_flip hx hy ne, bef_flip (hp.mem_iff.mpr hx) (hp.mem_iff.mpr hy) ne]
  cases bef l x y <;> cases bef t x y <;> rfl
theorem crs_dis {l t : List Int} (hn : l.Nodup) (hp : t.Perm l) : (crs l t : Int) = pairSum (dis l t) l := by
  unfold crs
  rw [invL_pair]
  refine pairSum_congr (List.Pairwise.imp_of_mem ?_ (List.pairwise_and_iff.mpr ⟨pos_pw hn, hn⟩))
  intro x y hx hy ⟨h, ne⟩
  have : pos t x ≠ pos t y := fun e => ne (pos_inj (hp.mem_iff.mpr hx) (hp.mem_iff.mpr hy) e)
  unfold dis bef
  rw [decide_eq_true h]
  by_cases q : pos t x > pos t y
  · rw [if_pos q, decide_eq_false (by omega), if_neg (by decide)]
  · rw [if_neg q, decide_eq_true (by omega), if_pos rfl]
theorem crs_dis' {l t u : List Int} (hn : l.Nodup) (hp : t.Perm l) (hu : u.Perm l) : (crs l t : Int) = pairSum (dis l t) u := by
  rw [crs_dis hn hp]
  exact pair_swap hn (List.Perm.refl _) hu fun x y hx hy ne => dis_sym hp hx hy ne
theorem crs_comm {l t : List Int} (hn : l.Nodup) (hp : t.Perm l) : crs l t = crs t l := by
  have h1 := crs_dis hn hp
  have h2 := crs_dis' (hp.nodup_iff.mpr hn) hp.symm hp.symm
  have e : dis l t = dis t l := funext fun x => funext fun y => dis_comm l t x y
  rw [e, ← h2] at h1
  exact_mod_cast h1
/-- both ways turned -/
def tw (o m t : List Int) (x y : Int) : Int := if bef o x y = bef m x y then 0 else if bef m x y = bef t x y then 0 else 1
theorem dis_tri (o m t : List Int) (x y : Int) : dis o m x y + dis m t x y = dis o t x y + (tw o m t x y + tw o m t x y) := by
  unfold dis tw
  cases bef o x y <;> cases bef m x y <;> cases bef t x y <;> rfl
theorem tw_sym {o m t : List Int} (hm : m.Perm o) (ht : t.Perm o) {x y : Int} (hx : x ∈ o) (hy : y ∈ o) (ne : x ≠ y) : tw o m t x y = tw o m t y x := by
  unfold tw
  rw [bef_flip hx hy ne, bef_flip (hm.mem_iff.mpr hx) (hm.mem_iff.mpr hy) ne, bef_flip (ht.mem_iff.mpr hx) (ht.mem_iff.mpr hy) ne]
  cases bef o x y <;> cases bef m x y <;> cases bef t x y <;> rfl
def twN (o m t : List Int) : Int := pairSum (tw o m t) m
theorem crs_tri {o m t : List Int} (hn : o.Nodup) (hm : m.Perm o) (ht : t.Perm o) : (crs o m : Int) + crs m t = crs o t + 2 * twN o m t := by
  rw [crs_dis' hn hm hm, crs_dis' (hm.nodup_iff.mpr hn) (ht.trans hm.symm) (List.Perm.refl _), crs_dis' hn ht hm, ← pairSum_add]
  have e : (fun x y => dis o m x y + dis m t x y) = fun x y => dis o t x y + (tw o m t x y + tw o m t x y) := funext fun x => funext fun y => dis_tri o m t x y
  rw [e, pairSum_add, pairSum_add]
  unfold twN; omega
theorem sum_nonneg {l : List Int} (h : ∀ x ∈ l, 0 ≤ x) : 0 ≤ l.sum := by
  induction l with
  | nil => exact Int.le_refl _
  | cons x xs ih =>
    have := ih fun y hy => h y (List.mem_cons_of_mem _ hy)
    have := h x List.mem_cons_self
    rw [List.sum_cons]; omega
theorem pair_nonneg {g : Int → Int → Int} (h : ∀ x y, 0 ≤ g x y) (l : List Int) : 0 ≤ pairSum g l := by
  induction l with
  | nil => exact Int.le_refl _
  | cons x xs ih =>
    have := sum_nonneg (l := xs.map (g x)) fun z hz => by obtain ⟨y, _, rfl⟩ := List.mem_map.mp hz; exact h x y
    simp only [pairSum]; omega
theorem tw_nonneg (o m t : List Int) (x y : Int) : 0 ≤ tw o m t x y := by
  unfold tw
  split
  · exact Int.le_refl _
  · split <;> decide
theorem twN_nonneg (o m t : List Int) : 0 ≤ twN o m t := pair_nonneg (tw_nonneg o m t) m
theorem sum_zero {l : List Int} (h : ∀ x ∈ l, 0 ≤ x) : l.sum = 0 ↔ ∀ x ∈ l, x = 0 := by
  induction l with
  | nil => simp
  | cons x xs ih =>
    have h1 := sum_nonneg fun y hy => h y (List.mem_cons_of_mem _ hy)
    have h2 := h x List.mem_cons_self
    have ih := ih fun y hy => h y (List.mem_cons_of_mem _ hy)
    rw [List.sum_cons]
    constructor
    · intro e y hy
      have e1 : x = 0 := by omega
      have e2 : xs.sum = 0 := by omega
      rcases List.mem_cons.mp hy with q | q
      · rw [q, e1]
      · exact ih.mp e2 y q
    · intro e
      have := ih.mpr fun y hy => e y (List.mem_cons_of_mem _ hy)
      have := e x List.mem_cons_self
      omega
theorem pair_zero_iff {g : Int → Int → Int} (h : ∀ x y, 0 ≤ g x y) (l : List Int) : pairSum g l = 0 ↔ l.Pairwise fun x y => g x y = 0 := by
  induction l with
  | nil => simp [pairSum]
  | cons x xs ih =>
    have h1 : ∀ z ∈ xs.map (g x), 0 ≤ z := fun z hz => by obtain ⟨y, _, rfl⟩ := List.mem_map.mp hz; exact h x y
    have h2 := sum_nonneg h1
    have h3 := pair_nonneg h xs
    simp only [pairSum]
    rw [List.pairwise_cons, ← ih]
    have h4 := sum_zero h1
    constructor
    · intro e
      refine ⟨fun y hy => h4.mp (by omega) _ (List.mem_map_of_mem hy), by omega⟩
    · rintro ⟨e1, e2⟩
      have := h4.mpr fun z hz => by obtain ⟨y, hy, rfl⟩ := List.mem_map.mp hz; exact e1 y hy
      omega
/-! ### neighbours changed -/
theorem invL_swap {u v : Int} (h : u < v) : ∀ (a b : List Int), invL (a ++ v :: u :: b) = invL (a ++ u :: v :: b) + 1
  | [], b => by
    simp only [List.nil_append, invL, List.filter_cons]
    rw [if_pos (by simpa using h), if_neg (by simp; omega), List.length_cons]; omega
  | x :: a, b => by
    have ih := invL_swap h a b
    simp only [List.cons_append, invL, List.filter_append, List.filter_cons, List.length_append, ih]
    by_cases h1 : x > u <;> by_cases h2 : x > v <;> simp [h1, h2] <;> omega
theorem invL_move {v : Int} : ∀ (m a b : List Int), (∀ u ∈ m, u < v) → invL (a ++ v :: m ++ b) = invL (a ++ m ++ v :: b) + m.length
  | [], a, b, _ => by simp
  | u :: m, a, b, h => by
    have h1 := h u List.mem_cons_self
    have ih := invL_move m (a ++ [u]) b fun w hw => h w (List.mem_cons_of_mem _ hw)
    have sw := invL_swap h1 a (m ++ b)
    have e1 : a ++ v :: (u :: m) ++ b = a ++ v :: u :: (m ++ b) := by simp
    have e2 : a ++ u :: v :: (m ++ b) = a ++ [u] ++ v :: m ++ b := by simp
    have e3 : a ++ [u] ++ m ++ v :: b = a ++ (u :: m) ++ v :: b := by simp
    rw [e1, sw, e2, ih, e3, List.length_cons]; omega
theorem crs_swap {a b : List Int} {x y : Int} (hn : (a ++ x :: y :: b).Nodup) : crs (a ++ y :: x :: b) (a ++ x :: y :: b) = 1 := by
  have h0 := crs_self hn
  unfold crs at h0 ⊢
  have hlt : pos (a ++ x :: y :: b) x < pos (a ++ x :: y :: b) y := by
    have := pos_pw hn
    rw [List.pairwise_append] at this
    exact (List.pairwise_cons.mp this.2.1).1 y (by simp)
  generalize pos (a ++ x :: y :: b) = f at h0 hlt ⊢
  rw [List.map_append, List.map_cons, List.map_cons] at h0 ⊢
  rw [invL_swap hlt, h0]
theorem pos_getElem {l : List Int} (hn : l.Nodup) {i : Nat} {x : Int} (h : l[i]? = some x) : pos l x = i := by
  obtain ⟨hi, e⟩ := List.getElem?_eq_some_iff.mp h
  unfold pos; rw [← e, hn.idxOf_getElem i hi]
/-- laid further ahead by so many -/
theorem crs_lay {l : List Int} {b : Int} (hn : l.Nodup) (hb : b ∈ l) {k : Nat} (hk : k ≤ l.idxOf b) : (crs (lay l b k) l : Int) = pos l b - k := by
  obtain ⟨A, B, rfl, hA⟩ : ∃ A B, l = A ++ b :: B ∧ b ∉ A := by
    obtain ⟨A, B, e⟩ := List.append_of_mem hb
    refine ⟨A, B, e, fun h => ?_⟩
    rw [e, List.nodup_append] at hn
    exact hn.2.2 b h b List.mem_cons_self rfl
  have hB : b ∉ B := by
    have := (List.nodup_append.mp hn).2.1
    exact (List.nodup_cons.mp this).1
  have hr : rest (A ++ b :: B) b = A ++ B := by
    have e1 := rest_eq A b hA
    have e2 := rest_eq B b hB
    unfold rest at e1 e2 ⊢
    rw [List.filter_append, List.filter_cons, e1, e2, if_neg (by simp)]
  have hp : (A ++ b :: B).idxOf b = A.length := by
    rw [List.idxOf_append]
    simp [hA]
  rw [hp] at hk
  have hpos : pos (A ++ b :: B) b = A.length := by unfold pos; rw [hp]
  rw [hpos]
  have hl : lay (A ++ b :: B) b k = A.take k ++ b :: A.drop k ++ B := by
    unfold lay
    rw [hr, List.take_append_of_le_length hk, List.drop_append_of_le_length hk]
    simp
  rw [hl]
  have h0 := crs_self hn
  have hlt : ∀ u ∈ A, pos (A ++ b :: B) u < pos (A ++ b :: B) b := by
    have := pos_pw hn
    rw [List.pairwise_append] at this
    exact fun u hu => this.2.2 u hu b List.mem_cons_self
  unfold crs at h0 ⊢
  generalize pos (A ++ b :: B) = f at h0 hlt
  have e : (A.take k ++ b :: A.drop k ++ B).map f = (A.take k).map f ++ f b :: (A.drop k).map f ++ B.map f := by simp
  have e2 : (A ++ b :: B).map f = (A.take k).map f ++ (A.drop k).map f ++ f b :: B.map f := by
    rw [← List.map_append, List.take_append_drop, List.map_append]; rfl
  rw [e2] at h0
  rw [e, invL_move _ _ _ (fun u hu => by obtain ⟨w, hw, rfl⟩ := List.mem_map.mp hu; exact hlt w (List.mem_of_mem_drop hw)), h0, List.length_map, List.length_drop]
  omega
/-! ### by choosing -/
theorem invL_mono {f g : Int → Int} : ∀ {l : List Int}, (∀ x ∈ l, ∀ y ∈ l, f x > f y ↔ g x > g y) → invL (l.map f) = invL (l.map g)
  | [], _ => rfl
  | x :: xs, h => by
    simp only [List.map_cons, invL]
    rw [invL_mono fun a ha b hb => h a (List.mem_cons_of_mem _ ha) b (List.mem_cons_of_mem _ hb), List.filter_map, List.filter_map, List.length_map, List.length_map]
    congr 2
    refine List.filter_congr fun y hy => ?_
    simp only [Function.comp]
    exact decide_eq_decide.mpr (h x List.mem_cons_self y (List.mem_cons_of_mem _ hy))
theorem rest_pos {l : List Int} {b x y : Int} (hx : x ≠ b) (hy : y ≠ b) : pos l x > pos l y ↔ pos (rest l b) x > pos (rest l b) y := by
  induction l with
  | nil => simp [rest, pos]
  | cons z zs ih =>
    have e : rest (z :: zs) b = if z = b then rest zs b else z :: rest zs b := by
      unfold rest; rw [List.filter_cons]; by_cases q : z = b <;> simp [q]
    rw [e, pos_cons, pos_cons]
    have n1 := pos_nonneg zs x
    have n2 := pos_nonneg zs y
    have n3 := pos_nonneg (rest zs b) x
    have n4 := pos_nonneg (rest zs b) y
    by_cases q : z = b
    · subst q
      rw [if_pos rfl, if_neg (Ne.symm hx), if_neg (Ne.symm hy), ← ih]; omega
    · rw [if_neg q, pos_cons, pos_cons]
      by_cases q1 : z = x
      · rw [if_pos q1, if_pos q1]
        by_cases q2 : z = y
        · rw [if_pos q2, if_pos q2]
        · rw [if_neg q2, if_neg q2]; omega
      · rw [if_neg q1, if_neg q1]
        by_cases q2 : z = y
        · rw [if_pos q2, if_pos q2]; omega
        · rw [if_neg q2, if_neg q2]
          constructor
          · intro h; have := ih.mp (by omega); omega
          · intro h; have := ih.mpr (by omega); omega
theorem count_before {l : List Int} {b : Int} (hn : l.Nodup) (hb : b ∈ l) : (((rest l b).filter fun y => decide (pos l b > pos l y)).length : Int) = pos l b := by
  obtain ⟨A, B, rfl⟩ := List.append_of_mem hb
  have hA : b ∉ A := fun h => (List.nodup_append.mp hn).2.2 b h b List.mem_cons_self rfl
  have hB : b ∉ B := (List.nodup_cons.mp (List.nodup_append.mp hn).2.1).1
  have hr : rest (A ++ b :: B) b = A ++ B := by
    have e1 := rest_eq A b hA
    have e2 := rest_eq B b hB
    unfold rest at e1 e2 ⊢
    rw [List.filter_append, List.filter_cons, e1, e2, if_neg (by simp)]
  have hp : (A ++ b :: B).idxOf b = A.length := by
    rw [List.idxOf_append]
    simp [hA]
  have pw := pos_pw hn
  rw [List.pairwise_append] at pw
  have h1 : ∀ u ∈ A, pos (A ++ b :: B) u < pos (A ++ b :: B) b := fun u hu => pw.2.2 u hu b List.mem_cons_self
  have h2 : ∀ u ∈ B, pos (A ++ b :: B) b < pos (A ++ b :: B) u := (List.pairwise_cons.mp pw.2.1).1
  rw [hr, List.filter_append, List.filter_eq_self.mpr fun u hu => by simpa using h1 u hu, List.filter_eq_nil_iff.mpr fun u hu => by have := h2 u hu; simp; omega]
  unfold pos; rw [hp]; simp
/-- the sum of the places in what is left -/
def pick : List Int → List Int → Int
  | _, [] => 0
  | row, b :: bs => pos row b + pick (rest row b) bs
theorem pick_crs : ∀ {other one : List Int}, one.Nodup → other.Perm one → pick one other = (crs other one : Int)
  | [], one, _, hp => by
    have : one = [] := List.perm_nil.mp hp.symm
    subst this; rfl
  | b :: bs, one, hn, hp => by
    have hb : b ∈ one := hp.mem_iff.mp List.mem_cons_self
    have hr := rest_perm hb hn
    have hbs : bs.Perm (rest one b) := (hp.trans hr.symm).cons_inv
    have hrn : (rest one b).Nodup := hn.filter _
    have ih := pick_crs hrn hbs
    show pos one b + pick (rest one b) bs = _
    rw [ih]
    unfold crs
    rw [List.map_cons, invL]
    have ne : ∀ x ∈ bs, x ≠ b := fun x hx => by
      have := hbs.mem_iff.mp hx
      unfold rest at this
      simpa using (List.mem_filter.mp this).2
    have e1 : invL (bs.map (pos one)) = invL (bs.map (pos (rest one b))) := invL_mono fun x hx y hy => rest_pos (ne x hx) (ne y hy)
    have e2 : ((bs.map (pos one)).filter fun y => decide (pos one b > y)).length = ((rest one b).filter fun y => decide (pos one b > pos one y)).length := by
      rw [List.filter_map, List.length_map]
      exact (hbs.filter _).length_eq
    have e3 := count_before hn hb
    rw [e1, e2]
    push_cast
    omega
/-! ### other names -/
theorem pos_map {ν : Int → Int} {l : List Int} {b : Int} (hi : ∀ x ∈ l, ν x = ν b → x = b) : pos (l.map ν) (ν b) = pos l b := by
  induction l with
  | nil => rfl
  | cons x xs ih =>
    rw [List.map_cons, pos_cons, pos_cons, ih fun y hy => hi y (List.mem_cons_of_mem _ hy)]
    by_cases e : x = b
    · rw [if_pos e, if_pos (by rw [e])]
    · rw [if_neg e, if_neg fun q => e (hi x List.mem_cons_self q)]
theorem crs_map {ν : Int → Int} {l t : List Int} (hi : ∀ b ∈ l, ∀ x ∈ t, ν x = ν b → x = b) : crs (l.map ν) (t.map ν) = crs l t := by
  unfold crs
  rw [List.map_map]
  congr 1
  exact List.map_congr_left fun b hb => pos_map (hi b hb)
end Tp

set_option Elab.async false
set_option linter.all false
set_option maxRecDepth 100000
set_option maxHeartbeats 1000000
/-! TP4: to the front against fixed rows. -/
namespace Tp
open PySem L2 DL
theorem sum_le {f g : Int → Int} {l : List Int} (h : ∀ x ∈ l, f x ≤ g x) : (l.map f).sum ≤ (l.map g).sum := by
  induction l with
  | nil => exact Int.le_refl _
  | cons x xs ih =>
    have h1 := h x List.mem_cons_self
    have h2 := ih fun y hy => h y (List.mem_cons_of_mem _ hy)
    simp only [List.map_cons, List.sum_cons]; omega
theorem pairSum_le {g h : Int → Int → Int} {l : List Int} (p : l.Pairwise fun x y => g x y ≤ h x y) : pairSum g l ≤ pairSum h l := by
  induction l with
  | nil => exact Int.le_refl _
  | cons x xs ih =>
    obtain ⟨h1, h2⟩ := List.pairwise_cons.mp p
    have a := sum_le h1
    have b := ih h2
    simp only [pairSum]; omega
/-- the other one ahead of b -/
def aheadOf (o : List Int) (b x y : Int) : Int := if y = b then (if bef o x b then 1 else 0) else if x = b then (if bef o y b then 1 else 0) else 0
theorem aheadOf_sym (o : List Int) (b : Int) (x y : Int) : aheadOf o b x y = aheadOf o b y x := by
  unfold aheadOf
  by_cases h1 : y = b
  · by_cases h2 : x = b
    · rw [h1, h2]
    · rw [if_pos h1, if_neg h2, if_pos h1]
  · by_cases h2 : x = b
    · rw [if_neg h1, if_pos h2, if_pos h2]
    · rw [if_neg h1, if_neg h2, if_neg h2, if_neg h1]
theorem pair_ahead {o : List Int} {b : Int} (hn : o.Nodup) (hb : b ∈ o) : pairSum (aheadOf o b) o = pos o b := by
  rw [← pair_pos hn hb]
  refine pairSum_congr ((List.pairwise_and_iff.mpr ⟨pos_pw hn, hn⟩).imp fun {x y} ⟨h, ne⟩ => ?_)
  unfold aheadOf bef
  by_cases h1 : y = b
  · subst h1; rw [if_pos rfl, if_pos (by simpa using h), if_pos rfl]
  · rw [if_neg h1, if_neg h1]
    by_cases h2 : x = b
    · subst h2
      rw [if_pos rfl, if_neg]
      have : ¬ pos o y < pos o x := by omega
      simpa using this
    · rw [if_neg h2]
theorem front_step {t o : List Int} {b : Int} (hn : t.Nodup) (hp : o.Perm t) (hb : b ∈ t) : pos t b + (crs (mtf t b) o : Int) ≤ (crs t o : Int) + 2 * pos o b := by
  have on := hp.nodup_iff.mpr hn
  have hm := mtf_perm hb hn
  have mn := hm.nodup_iff.mpr hn
  rw [crs_dis' mn (hp.trans hm.symm) hm.symm, crs_dis' hn hp (List.Perm.refl _), ← pair_pos hn hb, ← pair_ahead on (hp.mem_iff.mpr hb), pairSum_perm (aheadOf_sym o b) hp]
  have e1 : ∀ g h : Int → Int → Int, pairSum g t + pairSum h t = pairSum (fun x y => g x y + h x y) t := fun g h => (pairSum_add g h t).symm
  have e2 : 2 * pairSum (aheadOf o b) t = pairSum (aheadOf o b) t + pairSum (aheadOf o b) t := by omega
  rw [e2, e1, e1, e1]
  refine pairSum_le (List.Pairwise.imp_of_mem ?_ (List.pairwise_and_iff.mpr ⟨pos_pw hn, hn⟩))
  intro x y hx hy ⟨h, ne⟩
  have bt : bef t x y = true := decide_eq_true h
  have cons_pos : ∀ z, z ≠ b → pos (mtf t b) z = pos (rest t b) z + 1 := fun z hz => by
    unfold mtf; rw [pos_cons, if_neg (Ne.symm hz)]
  have b0 : pos (mtf t b) b = 0 := by unfold mtf; rw [pos_cons, if_pos rfl]
  unfold dis aheadOf
  rw [bt]
  by_cases h1 : y = b
  · subst h1
    have bm : bef (mtf t y) x y = false := decide_eq_false (by rw [b0]; have := pos_nonneg (mtf t y) x; omega)
    rw [bm, if_pos rfl]
    simp only [if_true]
    cases bef o x y <;> decide
  · rw [if_neg h1]
    by_cases h2 : x = b
    · subst h2
      have bm : bef (mtf t x) x y = true := decide_eq_true (by rw [b0, cons_pos y h1]; have := pos_nonneg (rest t x) y; omega)
      rw [bm, if_neg h1, if_pos rfl]
      split <;> split <;> omega
    · have bm : bef (mtf t b) x y = true := decide_eq_true (by
        rw [cons_pos x h2, cons_pos y h1]
        have := (rest_pos (l := t) h1 h2).mp h
        omega)
      rw [bm, if_neg h1, if_neg h2]
      split <;> omega
theorem front_two : ∀ (as t o : List Int), t.Nodup → o.Perm t → (∀ b ∈ as, b ∈ t) → fcost t as ≤ 2 * scost o as + (crs t o : Int)
  | [], t, o, _, _, _ => by simp [fcost, scost]
  | b :: as, t, o, hn, hp, hs => by
    have hb := hs b List.mem_cons_self
    have hm := mtf_perm hb hn
    have ih := front_two as (mtf t b) o (hm.nodup_iff.mpr hn) (hp.trans hm.symm) fun c hc => hm.mem_iff.mpr (hs c (List.mem_cons_of_mem _ hc))
    have st := front_step hn hp hb
    simp only [fcost, scost, List.map_cons, List.sum_cons] at ih ⊢
    omega
theorem invL_max (xs : List Int) : 2 * (invL xs : Int) ≤ xs.length * (xs.length - 1) := by
  induction xs with
  | nil => decide
  | cons x xs ih =>
    rw [invL, List.length_cons]
    have := List.length_filter_le (fun y => decide (x > y)) xs
    have e : ((xs.length + 1 : Nat) : Int) * (((xs.length + 1 : Nat) : Int) - 1) = xs.length * (xs.length - 1) + 2 * xs.length := by
      push_cast
      rw [show ((xs.length : Int) + 1 - 1) = xs.length by omega, Int.add_mul, Int.mul_sub]
      omega
    rw [e]; push_cast; omega
theorem crs_max (l t : List Int) : 2 * (crs l t : Int) ≤ l.length * (l.length - 1) := by
  have := invL_max (l.map (pos t))
  rwa [List.length_map] at this
/-! ### fixed rows -/
def cntI (as : List Int) (b : Int) : Int := (as.count b : Nat)
theorem cnt_cons (b : Int) (as : List Int) (y : Int) : cntI (b :: as) y = (if y = b then 1 else 0) + cntI as y := by
  unfold cntI
  rw [List.count_cons]
  by_cases h : y = b
  · subst h; simp; omega
  · have : (b == y) = false := by simpa using fun e => h e.symm
    simp [this, h]
theorem scost_pair {l : List Int} (hn : l.Nodup) : ∀ as : List Int, (∀ b ∈ as, b ∈ l) → scost l as = pairSum (fun _ y => cntI as y) l
  | [], _ => by
    have : ∀ m : List Int, pairSum (fun _ y => cntI [] y) m = 0 := by
      intro m
      induction m with
      | nil => rfl
      | cons x xs ih =>
        simp only [pairSum]; rw [ih]
        have : ∀ k : List Int, (k.map fun y => cntI [] y).sum = 0 := by
          intro k
          induction k with
          | nil => rfl
          | cons z zs ih => rw [List.map_cons, List.sum_cons, ih]; rfl
        rw [this]; rfl
    rw [this]; rfl
  | b :: as, hs => by
    have ih := scost_pair hn as fun c hc => hs c (List.mem_cons_of_mem _ hc)
    have e : (fun (_ y : Int) => cntI (b :: as) y) = fun x y => (if y = b then (1 : Int) else 0) + cntI as y := funext fun x => funext fun y => cnt_cons b as y
    rw [e, pairSum_add (fun _ y => if y = b then 1 else 0) (fun _ y => cntI as y), pair_pos hn (hs b List.mem_cons_self), ← ih]
    simp [scost]
theorem cnt_sum {l : List Int} (hn : l.Nodup) : ∀ as : List Int, (∀ b ∈ as, b ∈ l) → (l.map (cntI as)).sum = as.length
  | [], _ => by
    have : ∀ k : List Int, (k.map (cntI [])).sum = 0 := by
      intro k
      induction k with
      | nil => rfl
      | cons z zs ih => rw [List.map_cons, List.sum_cons, ih]; rfl
    rw [this]; rfl
  | b :: as, hs => by
    have ih := cnt_sum hn as fun c hc => hs c (List.mem_cons_of_mem _ hc)
    have e : cntI (b :: as) = fun y => (if y = b then (1 : Int) else 0) + cntI as y := funext fun y => cnt_cons b as y
    rw [e, sum_map_add, sum_one hn (hs b List.mem_cons_self), ih, List.length_cons]; push_cast; omega
theorem enum_steps (c : Int → Int) : ∀ (l : List Int) (k : Nat), ((enumL k l).map fun p => c p.2 * (p.1 + 1)).sum = (k + 1) * (l.map c).sum + pairSum (fun _ y => c y) l
  | [], k => by simp [enumL, pairSum]
  | x :: xs, k => by
    simp only [enumL, List.map_cons, List.sum_cons, pairSum]
    rw [enum_steps c xs (k + 1)]
    push_cast
    rw [Int.mul_comm (c x)]
    have e1 : ((k : Int) + 1 + 1) * (xs.map c).sum = (k + 1) * (xs.map c).sum + (xs.map c).sum := by rw [Int.add_mul, Int.one_mul]
    have e2 : ((k : Int) + 1) * (c x + (xs.map c).sum) = (k + 1) * c x + (k + 1) * (xs.map c).sum := Int.mul_add _ _ _
    rw [e1, e2]
    have : (xs.map fun y => c y).sum = (xs.map c).sum := rfl
    omega
theorem steps_scost {l as : List Int} (hn : l.Nodup) (hs : ∀ b ∈ as, b ∈ l) : ((enumL 0 l).map fun p => cntI as p.2 * (p.1 + 1)).sum = scost l as + as.length := by
  rw [enum_steps, scost_pair hn as hs, cnt_sum hn as hs]; push_cast; omega
/-- the row by falling counts is the cheapest -/
theorem best_least {best l as : List Int} (hn : l.Nodup) (hp : best.Perm l) (hs : ∀ b ∈ as, b ∈ l) (hd : best.Pairwise fun x y => cntI as x ≥ cntI as y) : scost best as ≤ scost l as := by
  have bn := hp.nodup_iff.mpr hn
  rw [scost_pair bn as fun b hb => hp.mem_iff.mpr (hs b hb), scost_pair hn as hs]
  have e1 : pairSum (fun _ y => cntI as y) best = pairSum (fun x y => min (cntI as x) (cntI as y)) best := pairSum_congr (hd.imp fun {x y} h => by omega)
  have e2 : pairSum (fun x y => min (cntI as x) (cntI as y)) best = pairSum (fun x y => min (cntI as x) (cntI as y)) l := pairSum_perm (fun x y => Int.min_comm _ _) hp
  rw [e1, e2]
  refine pairSum_le (List.pairwise_iff_getElem.mpr fun i j hi hj hij => ?_)
  exact Int.min_le_right _ _
def fct : Nat → Nat
  | 0 => 1
  | n + 1 => (n + 1) * fct n
end Tp

set_option Elab.async false
set_option linter.all false
set_option maxRecDepth 100000
set_option maxHeartbeats 1000000
namespace Law
open PySem L2 DL
/-! the program's own -/
section
open Tp
theorem crossed_ok {one other : List Int} (h1 : one.length ≤ 900) (h2 : other.length ≤ 900) (hn : other.Nodup) (hs : ∀ b ∈ one, b ∈ other) : m_crossed one other = some (crs one other : Int) := by
  refine ok_is (ok_bind (ok_compMap (fun p => (p.2, p.1)) (by rw [enumL_length]; omega) (fun _ _ => rfl) ?_))
  rw [show ((enumL 0 other).map fun p => (p.2, p.1)) = spot other from rfl]
  refine ok_bind (ok_some ?_)
  rw [spot_merge hn]
  refine ok_bind (ok_compMap (pos other) (by omega) (fun b hb => by rw [spot_at (hs b hb)]; rfl) ?_)
  refine ok_bind (ok_rng (by decide) (by decide) (by rw [List.length_map]; omega) (by rw [List.length_map]; omega) ?_)
  rw [show (((one.map (pos other)).length : Int) - 0).toNat = (one.map (pos other)).length by omega]
  refine ok_bind ((crossN _ (by rw [List.length_map]; exact h1)).imp fun r hr => ok_some ?_)
  rw [hr]; rfl
theorem laid_ok {tape : List Int} {b place : Int} (h1 : tape.length ≤ 900) (h0 : 0 ≤ place) : m_laid_ahead tape b place = some (lay tape b place.toNat) := by
  have hr := rest_len tape b
  unfold Tp.rest at hr
  refine ok_is (ok_bind (ok_compF (fun y => decide (y ≠ b)) (fun y => y) (by omega) (fun y _ => by simp) ?_))
  rw [List.map_id']
  rw [cut_to h0, cut_from h0]
  refine ok_bind (ok_cat (by simp only [List.length_take, List.length_cons, List.length_nil]; omega) (ok_bind (ok_cat (by simp only [List.length_append, List.length_take, List.length_drop, List.length_cons, List.length_nil]; omega) (ok_some rfl))))
end
section
open Tp
theorem ahead_ok {tape : List Int} {b place : Int} (h1 : tape.length ≤ 900) (h0 : 0 ≤ place) : m_law_ahead tape b place = some (lay tape b place.toNat) := by
  have hr := rest_len tape b
  unfold Tp.rest at hr
  refine ok_is (ok_bind (ok_compF (fun y => decide (y ≠ b)) (fun y => y) (by omega) (fun y _ => by simp) ?_))
  rw [List.map_id']
  rw [cut_to h0, cut_from h0]
  refine ok_bind (ok_cat (by simp only [List.length_take, List.length_cons, List.length_nil]; omega) (ok_bind (ok_cat (by simp only [List.length_append, List.length_take, List.length_drop, List.length_cons, List.length_nil]; omega) (ok_some rfl))))
theorem law_crossed_ok {one other : List Int} (h1 : one.length ≤ 900) (h2 : other.length ≤ 900) (hn : other.Nodup) (hs : ∀ b ∈ one, b ∈ other) : m_law_crossed one other = some (crs one other : Int) := by
  refine ok_is (ok_bind (ok_compMap (fun p => (p.2, p.1)) (by rw [enumL_length]; omega) (fun _ _ => rfl) ?_))
  rw [show ((enumL 0 other).map fun p => (p.2, p.1)) = spot other from rfl]
  refine ok_bind (ok_some ?_)
  rw [spot_merge hn]
  refine ok_bind (ok_fold (fun i s => s = (invL ((one.take i).map (pos other)) : Int)) rfl ?_ ?_)
  · rintro i p _ hp rfl
    obtain ⟨b, hb, rfl⟩ := enumL_at hp
    dsimp only
    rw [cut_to (by omega), Int.toNat_natCast]
    refine ok_bind (ok_compF (fun m => decide (pos other m > pos other b)) (fun m => m) (by rw [List.length_take]; omega) (fun m hm => ?_) ?_)
    · rw [spot_at (hs m (List.mem_of_mem_take hm)), spot_at (hs b (List.mem_of_getElem? hb))]; rfl
    · refine ok_bind (ok_some (ok_some ?_))
      rw [take_filter_snoc one (pos other) hb, List.map_id']; push_cast; rfl
  · rintro _ rfl
    rw [enumL_length, List.take_length]
    exact ok_some rfl
end
section
open Tp
theorem way_costs_ok {tape asks : List Int} {way : List (List Int × Int)} (hn : tape.Nodup) (hl : tape.length ≤ 900) (hw : wok tape (asks.zip way)) : m_way_costs tape asks way = some (wcost tape (asks.zip way)) := by
  refine ok_is (ok_bind (ok_some (ok_bind (ok_foldR (fun w s => s.2.2.2.Nodup ∧ s.2.2.2.length ≤ 900 ∧ wok s.2.2.2 w ∧ (s.1 + (wcost s.2.2.2 w).1, s.2.1 + (wcost s.2.2.2 w).2.1, s.2.2.1 + (wcost s.2.2.2 w).2.2) = wcost tape (asks.zip way)) ⟨hn, hl, hw, ?_⟩ ?_ ?_))))
  · refine Prod.ext ?_ (Prod.ext ?_ ?_) <;> simp
  · rintro ⟨b, f, p⟩ t ⟨s, e, fr, lies⟩ ⟨h1, h2, ⟨h3, h4, h5, h6⟩, h7⟩
    dsimp only at h1 h2 h3 h4 h5 h6 h7 ⊢
    have fn : f.Nodup := h3.nodup_iff.mpr h1
    have fl := h3.length_eq
    rw [oIdx_mem h4, crossed_ok h2 (by omega) fn (fun c hc => h3.mem_iff.mpr hc), laid_ok (by omega) h5]
    refine ok_bind (ok_some (ok_bind (ok_some (ok_bind (ok_some (ok_bind (ok_some (ok_bind (ok_some (ok_bind (ok_some (ok_some ?_))))))))))))
    have lp := lay_perm h4 fn p.toNat
    refine ⟨lp.nodup_iff.mpr fn, by rw [lp.length_eq]; omega, h6, ?_⟩
    rw [← h7]
    refine Prod.ext ?_ (Prod.ext ?_ ?_) <;> simp [wcost] <;> omega
  · rintro ⟨s, e, fr, lies⟩ ⟨_, _, _, h7⟩
    refine ok_some ?_
    rw [← h7]
    refine Prod.ext ?_ (Prod.ext ?_ ?_) <;> simp [wcost]
end
section
open Tp
theorem row_of_tup {α : Type} {e : α → Dv} {xs : List α} {n : Int} : m_is_row_of (eT e xs) [n] = some (decide ((xs.length : Int) = n)) := by
  unfold m_is_row_of
  refine ok_is (ok_bind (ok_of (a := true) rfl (ok_ift rfl (ok_bind (ok_of (a := ((xs.map e).length : Int)) rfl (ok_some ?_))))))
  rw [List.length_map]; simp
theorem row_of_pair {α β : Type} {e : α → Dv} {f : β → Dv} {p : α × β} : m_is_row_of (eP e f p) [2] = some true := by
  unfold m_is_row_of
  rfl
theorem is_index_ok {v n : Int} : m_is_index v n = some (decide (0 ≤ v ∧ v < n)) := by
  unfold m_is_index m_is_number m_is_integer
  by_cases h : 0 ≤ v <;> simp [h]
theorem is_tape_ok {t : List Int} {n : Int} (hp : t.Perm (rngL 0 n.toNat)) (h0 : 0 ≤ n) (hl : t.length ≤ 900) : m_is_tape t n = some true := by
  have ln := hp.length_eq
  rw [rngL_length] at ln
  unfold m_is_tape
  rw [row_of_tup]
  refine ok_is (ok_bind (ok_some (ok_iff (by simp; omega) ?_)))
  refine ok_bind (ok_compMap (fun _ => true) (by omega) (fun x hx => ?_) ?_)
  · have := rngL_mem.mp (hp.mem_iff.mp hx)
    rw [is_index_ok, decide_eq_true (by omega)]; rfl
  · refine ok_iff (by simp) ?_
    have hn : t.Nodup := hp.nodup_iff.mpr (rngL_nodup _ _)
    refine ok_bind (ok_of (a := (t.length : Int)) ?_ (ok_some ?_))
    · unfold oLenSet
      rw [if_pos (by omega), dd_of_nodup hn]
    · rw [decide_eq_true (by omega)]
end
section
open Tp
theorem front_way_ok {tape asks : List Int} (hn : tape.Nodup) (hl : tape.length ≤ 900) (hs : ∀ b ∈ asks, b ∈ tape) (ha : asks.length ≤ 1000) : m_front_way tape asks = some (fway tape asks) := by
  refine ok_is (ok_bind (ok_foldR (fun w s => s.1.Nodup ∧ s.1.length ≤ 900 ∧ (∀ b ∈ w, b ∈ s.1) ∧ w.length + s.2.length ≤ 1000 ∧ s.2 ++ fway s.1 w = fway tape asks) ⟨hn, hl, hs, by simpa using ha, rfl⟩ ?_ ?_))
  · rintro b t ⟨lies, fnd⟩ ⟨h1, h2, h3, h4, h5⟩
    dsimp only at h1 h2 h3 h4 h5 ⊢
    rw [List.length_cons] at h4
    have hb := h3 b List.mem_cons_self
    have hp := mtf_perm hb h1
    rw [laid_ok h2 (Int.le_refl 0)]
    refine ok_bind (ok_app (by omega) (ok_bind (ok_some (ok_some ?_))))
    rw [show (0 : Int).toNat = 0 from rfl, lay_zero]
    refine ⟨hp.nodup_iff.mpr h1, by rw [hp.length_eq]; exact h2, fun c hc => hp.mem_iff.mpr (h3 c (List.mem_cons_of_mem _ hc)), by simp; omega, ?_⟩
    rw [← h5, List.append_assoc]; rfl
  · rintro ⟨lies, fnd⟩ ⟨_, _, _, _, h5⟩
    refine ok_some ?_
    rw [← h5]; simp [fway]
theorem front_steps_ok {tape asks : List Int} (hn : tape.Nodup) (hl : tape.length ≤ 900) (hs : ∀ b ∈ asks, b ∈ tape) (ha : asks.length ≤ 1000) : m_front_steps tape asks = some (fcost tape asks + asks.length) := by
  obtain ⟨h1, h2⟩ := fway_ok asks tape hn hs
  unfold m_front_steps
  rw [front_way_ok hn hl hs ha]
  show ((m_way_costs tape asks (fway tape asks)).bind _) = _
  rw [way_costs_ok hn hl h1]
  show some _ = _
  rw [h2]
end
/-- what the source of asks gives -/
theorem asks_in {d : Deal} {p k : Int} (hp : 1 ≤ p ∧ p ≤ 1000) (hk : 0 ≤ k ∧ k ≤ 1000) : Ok (m_law_asks d p k) fun r => (r.1.length : Int) ≤ k ∧ ∀ a ∈ r.1, 0 ≤ a ∧ a < p := by
  refine ok_bind (ok_any (by omega) (by omega) fun v d1 v0 v1 => ?_)
  refine ok_bind (ok_any (by decide) (by decide) fun form d2 _ _ => ?_)
  refine ok_bind (ok_rgl (by decide) (by decide) (by omega) (by omega) ?_)
  refine ok_bind (ok_rng (by decide) (by decide) (by omega) (by omega) ?_)
  refine ok_bind (ok_fold (fun i s => (s.2.1.length ≤ 1000 ∧ ∀ a ∈ s.2.1, 0 ≤ a ∧ a < p) ∧ s.2.2.length = i ∧ ∀ a ∈ s.2.2, 0 ≤ a ∧ a < p) ⟨⟨by rw [rngL_length]; omega, fun a ha => by have := rngL_mem.mp ha; omega⟩, rfl, by simp⟩ ?_ ?_)
  · rintro i x ⟨d3, sm, fnd⟩ hx ⟨h1, h2, hin⟩
    dsimp only at h1 h2 hin
    obtain ⟨hi, rfl⟩ := rngL_get hx
    have push : ∀ (d : Deal) (sm : List Int) (y : Int), (sm.length ≤ 1000 ∧ ∀ a ∈ sm, 0 ≤ a ∧ a < p) → (0 ≤ y ∧ y < p) → Ok ((oApp fnd y).bind fun f => some (d, sm, f)) fun s => (s.2.1.length ≤ 1000 ∧ ∀ a ∈ s.2.1, 0 ≤ a ∧ a < p) ∧ s.2.2.length = i + 1 ∧ ∀ a ∈ s.2.2, 0 ≤ a ∧ a < p := fun d sm y hs hy =>
      ok_bind (ok_app (by omega) (ok_some ⟨hs, by simp [h2], fun a ha => by
        rcases List.mem_append.mp ha with q | q
        · exact hin a q
        · simp at q; subst q; exact hy⟩))
    refine ok_if (fun h => ?_) fun h => ?_
    · refine ok_bind (ok_div (by omega) (by omega) (ok_bind (ok_mul ?_ (push _ _ _ h1 ?_))))
      · exact .inr ⟨by omega, by omega⟩
      · have e := Int.emod_def (0 + (i : Int)) p
        have e1 := Int.emod_nonneg (0 + (i : Int)) (show p ≠ 0 by omega)
        have e2 := Int.emod_lt_of_pos (0 + (i : Int)) (show 0 < p by omega)
        rw [Int.mul_comm] at e
        constructor <;> omega
    · refine ok_bind (Ok.imp (Q := fun r => r.1 = true → fnd ≠ []) ?_ ?_)
      · refine ok_if (fun h => ?_) fun h => ok_some (by simp)
        refine ok_bind (ok_if (fun h => ?_) fun h => ok_some (ok_some (by simp)))
        refine ok_bind (ok_any (by decide) (by decide) fun v d4 _ _ => ok_some (ok_some fun _ => by simpa using h))
      rintro ⟨c, d4⟩ hc
      refine ok_if (fun h => ?_) fun h => ?_
      · have hf := hc h
        refine ok_bind (ok_any (by decide) (by decide) fun v d5 v0 v1 => ?_)
        have := List.length_pos_iff.mpr hf
        refine ok_bind (ok_ix (by omega) (by omega) fun hh => push _ _ _ h1 (hin _ (List.getElem_mem hh)))
      · refine ok_if (fun h => ?_) fun h => ?_
        · have hs : 0 < sm.length := by simp at h; omega
          refine ok_bind (ok_any (by decide) (by decide) fun v d5 _ _ => ?_)
          refine ok_bind (Ok.imp (Q := fun (r : Deal × List Int) => r.2 ≠ [] ∧ r.2.length ≤ 1000 ∧ ∀ a ∈ r.2, 0 ≤ a ∧ a < p) ?_ ?_)
          · refine ok_if (fun h => ?_) fun h => ok_some ⟨fun e => by have e : sm = [] := e; rw [e] at hs; simp at hs, h1⟩
            refine ok_bind (ok_rgl (by decide) (by decide) (by omega) (by omega) (ok_bind (ok_mixed (by rw [rngL_length]; omega) fun ys d6 hy => ?_)))
            refine ok_bind (ok_any (by omega) (by omega) fun v d7 v0 v1 => ok_bind (ok_some (ok_some ?_)))
            have hl := hy.length_eq
            rw [rngL_length] at hl
            rw [cut_to (by omega)]
            refine ⟨fun e => ?_, by rw [List.length_take]; omega, fun a ha => ?_⟩
            · have := congrArg List.length e
              rw [List.length_take, List.length_nil] at this
              omega
            · have := rngL_mem.mp (hy.mem_iff.mp (List.mem_of_mem_take ha)); omega
          · rintro ⟨d6, sm2⟩ ⟨h3, h4⟩
            dsimp only at h3 h4
            exact ok_bind (ok_oneof h3 (by omega) fun y d7 hy => push _ _ _ h4 (h4.2 y hy))
        · exact ok_bind (ok_any (by omega) (by omega) fun v d5 v0 v1 => push _ _ _ h1 ⟨v0, v1⟩)
  · rintro ⟨d3, sm, fnd⟩ ⟨h1, h2, hin⟩
    dsimp only at h1 h2 hin
    refine ok_some ?_
    rw [rngL_length] at h2
    exact ⟨by show (fnd.length : Int) ≤ k; omega, hin⟩
section
open Tp
theorem zip_map_mem {as : List Int} {f : Int → List Int × Int} {x : Int × (List Int × Int)} (h : x ∈ as.zip (as.map f)) : x.1 ∈ as ∧ x.2 = f x.1 := by
  obtain ⟨i, h1, h2⟩ := zip_get h
  rw [List.getElem?_map, h1] at h2
  exact ⟨List.mem_of_getElem? h1, (Option.some.inj h2).symm⟩
theorem keeping_ok {order asks : List Int} (hs : ∀ b ∈ asks, b ∈ order) (ha : asks.length ≤ 1000) : m_law_keeping order asks = some (cway order asks) :=
  ok_is (ok_bind (ok_compMap (fun b => (order, pos order b)) (by omega) (fun b hb => by rw [oIdx_mem (hs b hb)]; rfl) (ok_some rfl)))
theorem keep_way {tape order asks : List Int} {n : Nat} (ht : tape.Perm (rngL 0 n)) (ho : order.Perm (rngL 0 n)) (hn : n ≤ 900) (hs : ∀ b ∈ asks, b ∈ order) : m_is_tape_way tape asks (cway order asks) = some true := by
  have tl := ht.length_eq
  have ol := ho.length_eq
  rw [rngL_length] at tl ol
  refine ok_is ?_
  unfold m_is_tape_way
  rw [row_of_tup]
  refine ok_bind (ok_some (ok_iff (by simp [cway]) ?_))
  refine ok_forM (fun _ => True) trivial (fun x _ hx _ => ?_) fun _ _ => ok_some rfl
  obtain ⟨b, p⟩ := x
  obtain ⟨h1, h2⟩ := zip_map_mem hx
  dsimp only at h1 h2 ⊢
  subst h2
  dsimp only
  rw [row_of_pair, is_tape_ok (n := (tape.length : Int)) (by rw [show ((tape.length : Int)).toNat = n by omega]; exact ho) (by omega) (by omega), oIdx_mem (hs b h1)]
  refine ok_bind (ok_some (ok_iff rfl (ok_bind (ok_some (ok_iff rfl (ok_bind (ok_some ?_)))))))
  rw [is_index_ok, decide_eq_true (show 0 ≤ pos order b ∧ pos order b < pos order b + 1 from ⟨pos_nonneg _ _, by omega⟩)]
  exact ok_bind (ok_some (ok_iff rfl (ok_some trivial)))
theorem bent_way {tape order asks : List Int} {n : Nat} (ht : tape.Perm (rngL 0 n)) (ho : order.Perm (rngL 0 n)) (hn : n ≤ 900) (hs : ∀ b ∈ asks, b ∈ order) : m_is_tape_way tape asks ((cway order asks).map fun x => (x.1, x.2 + 1)) = some (decide (asks = [])) := by
  have tl := ht.length_eq
  have ol := ho.length_eq
  rw [rngL_length] at tl ol
  refine ok_is ?_
  unfold m_is_tape_way
  rw [row_of_tup]
  refine ok_bind (ok_some (ok_iff (by simp [cway]) ?_))
  cases asks with
  | nil => exact ok_bind (ok_some (ok_some rfl))
  | cons b as =>
    refine ok_bind (ok_bind ?_)
    dsimp only
    rw [row_of_pair]
    refine ok_bind (ok_some (ok_iff rfl ?_))
    show Ok ((m_is_tape order (tape.length : Int)).bind _) _
    rw [is_tape_ok (n := (tape.length : Int)) (by rw [show ((tape.length : Int)).toNat = n by omega]; exact ho) (by omega) (by omega)]
    refine ok_bind (ok_some (ok_iff rfl ?_))
    show Ok ((oIdx order b).bind _) _
    rw [oIdx_mem (hs b List.mem_cons_self)]
    refine ok_bind (ok_some ?_)
    show Ok ((m_is_index (pos order b + 1) (pos order b + 1)).bind _) _
    rw [is_index_ok, decide_eq_false (by omega)]
    exact ok_bind (ok_some (ok_ift rfl (ok_some (ok_some (ok_some rfl)))))
theorem law_front_ok {tape asks : List Int} (hn : tape.Nodup) (hl : tape.length ≤ 900) (hs : ∀ b ∈ asks, b ∈ tape) (ha : asks.length ≤ 1000) : m_law_front tape asks = some (fway tape asks) := by
  refine ok_is (ok_bind (ok_foldR (fun w s => s.2.Nodup ∧ s.2.length ≤ 900 ∧ (∀ b ∈ w, b ∈ s.2) ∧ w.length + s.1.length ≤ 1000 ∧ s.1 ++ fway s.2 w = fway tape asks) ⟨hn, hl, hs, by simpa using ha, rfl⟩ ?_ ?_))
  · rintro b t ⟨fnd, lies⟩ ⟨h1, h2, h3, h4, h5⟩
    dsimp only at h1 h2 h3 h4 h5 ⊢
    rw [List.length_cons] at h4
    have hb := h3 b List.mem_cons_self
    have hp := mtf_perm hb h1
    rw [ahead_ok h2 (Int.le_refl 0)]
    refine ok_bind (ok_app (by omega) (ok_bind (ok_some (ok_some ?_))))
    rw [show (0 : Int).toNat = 0 from rfl, lay_zero]
    refine ⟨hp.nodup_iff.mpr h1, by rw [hp.length_eq]; exact h2, fun c hc => hp.mem_iff.mpr (h3 c (List.mem_cons_of_mem _ hc)), by simp; omega, ?_⟩
    rw [← h5, List.append_assoc]; rfl
  · rintro ⟨fnd, lies⟩ ⟨_, _, _, _, h5⟩
    refine ok_some ?_
    rw [← h5]; simp [fway]
def pots : List Int → List Int → List Int → List Int
  | _, _, [] => []
  | lies, o, b :: as => (crs (mtf lies b) o : Int) :: pots (mtf lies b) o as
theorem rising_ok {tape o asks : List Int} (hn : tape.Nodup) (ho : o.Perm tape) (hl : tape.length ≤ 900) (hs : ∀ b ∈ asks, b ∈ tape) (ha : asks.length ≤ 1000) : m_law_rising asks (fway tape asks) (cway o asks) = some (0 :: pots tape o asks) := by
  refine ok_is (ok_bind (ok_some (ok_bind (ok_foldR (fun w s => ∃ as lies, w = as.zip ((fway lies as).zip (cway o as)) ∧ lies.Perm tape ∧ (∀ b ∈ as, b ∈ tape) ∧ s.length + as.length ≤ 1001 ∧ s ++ pots lies o as = 0 :: pots tape o asks) ⟨asks, tape, rfl, List.Perm.refl _, hs, by simp; omega, rfl⟩ ?_ ?_))))
  · rintro x t fnd ⟨as, lies, hw, hp, hin, hlen, he⟩
    cases as with
    | nil => cases hw
    | cons b as =>
      simp only [fway, cway, List.map_cons, List.zip_cons_cons] at hw
      obtain ⟨rfl, rfl⟩ := List.cons.inj hw
      dsimp only
      have hb := hin b List.mem_cons_self
      have ln := hp.nodup_iff.mpr hn
      have hbl := hp.mem_iff.mpr hb
      have hm := mtf_perm hbl ln
      have mn := hm.nodup_iff.mpr ln
      have on := ho.nodup_iff.mpr hn
      have hbo := ho.mem_iff.mpr hb
      have l1 := hp.length_eq
      have l2 := hm.length_eq
      have l3 := ho.length_eq
      have e1 : lay o b (pos o b).toNat = o := by unfold pos; rw [Int.toNat_natCast]; exact lay_self hbo on
      rw [ahead_ok (by omega) (Int.le_refl 0), ahead_ok (by omega) (pos_nonneg o b), e1, show (0 : Int).toNat = 0 from rfl, lay_zero]
      refine ok_bind (ok_some (ok_bind (ok_some ?_)))
      rw [law_crossed_ok (by omega) (by omega) on fun c hc => ho.mem_iff.mpr (hp.mem_iff.mp (hm.mem_iff.mp hc))]
      simp only [List.length_cons] at hlen
      refine ok_bind (ok_some (ok_bind (ok_app (by omega) (ok_some ⟨as, mtf lies b, rfl, hm.trans hp, fun c hc => hin c (List.mem_cons_of_mem _ hc), by simp; omega, ?_⟩))))
      rw [← he, List.append_assoc]; rfl
  · rintro fnd ⟨as, lies, hw, hp, hin, hlen, he⟩
    refine ok_some ?_
    cases as with
    | nil => rw [← he]; simp [pots]
    | cons b as => simp only [fway, cway, List.map_cons, List.zip_cons_cons] at hw; cases hw
theorem potentials_ok {tape o asks : List Int} (hn : tape.Nodup) (ho : o.Perm tape) (hl : tape.length ≤ 900) (hs : ∀ b ∈ asks, b ∈ tape) (ha : asks.length ≤ 1000) : m_tape_potentials tape asks (cway o asks) = some (0 :: pots tape o asks) := by
  refine ok_is (ok_bind (ok_some (ok_bind (ok_foldR (fun w s => ∃ as, w = as.zip (cway o as) ∧ s.1.Perm tape ∧ (∀ b ∈ as, b ∈ tape) ∧ s.2.length + as.length ≤ 1001 ∧ s.2 ++ pots s.1 o as = 0 :: pots tape o asks) ⟨asks, rfl, List.Perm.refl _, hs, by simp; omega, rfl⟩ ?_ ?_))))
  · rintro x t ⟨lies, fnd⟩ ⟨as, hw, hp, hin, hlen, he⟩
    dsimp only at hp hlen he
    cases as with
    | nil => cases hw
    | cons b as =>
      simp only [cway, List.map_cons, List.zip_cons_cons] at hw
      obtain ⟨rfl, rfl⟩ := List.cons.inj hw
      dsimp only
      have hb := hin b List.mem_cons_self
      have ln := hp.nodup_iff.mpr hn
      have hbl := hp.mem_iff.mpr hb
      have hm := mtf_perm hbl ln
      have mn := hm.nodup_iff.mpr ln
      have on := ho.nodup_iff.mpr hn
      have hbo := ho.mem_iff.mpr hb
      have l1 := hp.length_eq
      have l2 := hm.length_eq
      have l3 := ho.length_eq
      have e1 : lay o b (pos o b).toNat = o := by unfold pos; rw [Int.toNat_natCast]; exact lay_self hbo on
      rw [laid_ok (by omega) (Int.le_refl 0), laid_ok (by omega) (pos_nonneg o b), e1, show (0 : Int).toNat = 0 from rfl, lay_zero]
      refine ok_bind (ok_some (ok_bind (ok_some ?_)))
      rw [crossed_ok (by omega) (by omega) on fun c hc => ho.mem_iff.mpr (hp.mem_iff.mp (hm.mem_iff.mp hc))]
      simp only [List.length_cons] at hlen
      refine ok_bind (ok_some (ok_bind (ok_app (by omega) (ok_some ⟨as, rfl, hm.trans hp, fun c hc => hin c (List.mem_cons_of_mem _ hc), by simp; omega, ?_⟩))))
      rw [← he, List.append_assoc]; rfl
  · rintro ⟨lies, fnd⟩ ⟨as, hw, hp, hin, hlen, he⟩
    refine ok_some ?_
    dsimp only at he
    cases as with
    | nil => rw [← he]; simp [pots]
    | cons b as => simp only [cway, List.map_cons, List.zip_cons_cons] at hw; cases hw
def cnts (n : Nat) (asks : List Int) : List Int := (rngL 0 n).map (cntI asks)
theorem cnts_at {n : Nat} {asks : List Int} {b : Int} (hb : b ∈ rngL 0 n) : oIx (cnts n asks) b = some (cntI asks b) := by
  have h := rngL_mem.mp hb
  have hl : (cnts n asks).length = n := by unfold cnts; rw [List.length_map, rngL_length]
  rw [oIx_int h.1 (by omega)]
  congr 1
  unfold cnts rngL
  simp only [List.getElem_map, List.getElem_range]
  congr 1; omega
theorem law_steps_ok {order asks : List Int} {n : Nat} (ho : order.Perm (rngL 0 n)) (hn : n ≤ 900) (hs : ∀ b ∈ asks, b ∈ order) : m_law_steps order (cnts n asks) = some (scost order asks + asks.length) := by
  have ol := ho.length_eq
  rw [rngL_length] at ol
  refine ok_is (ok_bind (ok_compMap (fun p => cntI asks p.2 * (p.1 + 1)) (by rw [enumL_length]; omega) (fun p hp => ?_) (ok_some ?_)))
  · obtain ⟨i, hi, e⟩ := enumL_mem hp
    obtain ⟨at_, b⟩ := p
    dsimp only at hi e ⊢
    subst e
    have hlt := (List.getElem?_eq_some_iff.mp hi).1
    rw [cnts_at (ho.mem_iff.mp (List.mem_of_getElem? hi))]
    refine ok_is (ok_bind (ok_some (ok_bind (ok_mul (.inr ⟨by omega, by omega⟩) (ok_some rfl)))))
  · exact steps_scost (ho.nodup_iff.mpr (rngL_nodup _ _)) hs
theorem cat3_perm (l : List Int) (k : Nat) (x : Int) : (l.take k ++ [x] ++ l.drop k).Perm (l ++ [x]) := by
  rw [List.append_assoc, List.singleton_append]
  refine List.perm_middle.trans ?_
  rw [List.take_append_drop]
  exact (List.perm_append_singleton x l).symm
theorem fct_le {n : Nat} (h : n ≤ 5) : fct n ≤ 120 ∧ (n ≤ 4 → fct n ≤ 24) := by
  match n, h with
  | 0, _ => decide
  | 1, _ => decide
  | 2, _ => decide
  | 3, _ => decide
  | 4, _ => decide
  | 5, _ => decide
theorem orders_ok {n : Int} (h0 : 0 ≤ n) (h5 : n ≤ 5) : Ok (m_law_orders n) fun l => (∀ o ∈ l, o.Perm (rngL 0 n.toNat)) ∧ l.length ≤ 120 := by
  refine ok_bind (ok_some (ok_bind (ok_rng (by decide) (by decide) (by omega) (by omega) ?_)))
  rw [Int.sub_zero]
  refine ok_bind (ok_fold (fun i s => (∀ o ∈ s, o.Perm (rngL 0 i)) ∧ s.length = fct i) ⟨by simp [rngL], rfl⟩ ?_ ?_)
  · rintro i x s hx ⟨h1, h2⟩
    obtain ⟨hi, rfl⟩ := rngL_get hx
    rw [Int.zero_add]
    have fl := (fct_le (n := i) (by omega)).2 (by omega)
    refine ok_bind (ok_fold (fun j r => (∀ o ∈ r, o.Perm (rngL 0 (i + 1))) ∧ r.length = j * (i + 1)) ⟨by simp, by simp⟩ ?_ ?_)
    · rintro j one r hone ⟨g1, g2⟩
      have hj := (List.getElem?_eq_some_iff.mp hone).1
      have hop := h1 one (List.mem_of_getElem? hone)
      have hol := hop.length_eq
      rw [rngL_length] at hol
      have hjl : j * (i + 1) ≤ 24 * 5 := Nat.mul_le_mul (by omega) (by omega)
      refine ok_bind (ok_rng (by decide) (by decide) (by omega) (by omega) ?_)
      rw [show ((i : Int) + 1 - 0).toNat = i + 1 by omega]
      refine ok_bind (ok_compMap (fun k => one.take k.toNat ++ [(i : Int)] ++ one.drop k.toNat) (by rw [rngL_length]; omega) (fun k hk => ?_) ?_)
      · have hk := rngL_mem.mp hk
        rw [cut_to hk.1, cut_from hk.1]
        refine ok_is (ok_bind (ok_cat (by simp; omega) (ok_bind (ok_cat (by simp; omega) (ok_some rfl)))))
      · refine ok_bind (ok_cat (by rw [List.length_map, rngL_length]; omega) (ok_some ⟨fun o ho => ?_, ?_⟩))
        · rcases List.mem_append.mp ho with q | q
          · exact g1 o q
          · obtain ⟨k, hk, rfl⟩ := List.mem_map.mp q
            have e : rngL 0 (i + 1) = rngL 0 i ++ [(i : Int)] := by rw [rngL_succ]; simp
            rw [e]
            exact (cat3_perm one k.toNat i).trans (hop.append_right _)
        · rw [List.length_append, List.length_map, rngL_length, g2, Nat.add_mul, Nat.one_mul]
    · rintro r ⟨g1, g2⟩
      exact ok_some ⟨g1, by rw [g2, h2]; show _ = (i + 1) * fct i; rw [Nat.mul_comm]⟩
  · rintro s ⟨h1, h2⟩
    rw [rngL_length] at h1 h2
    exact ok_some ⟨h1, by rw [h2]; exact (fct_le (by omega)).1⟩
theorem law_true (d0 : Deal) : m_law d0 = some true := by
  refine ok_is (ok_bind (ok_rng (by decide) (by decide) (by decide) (by decide) ?_))
  refine ok_forM (fun _ => True) trivial (fun turn d _ _ => ?_) fun _ _ => ok_some rfl
  refine ok_bind (ok_oneof (by simp) (by simp) fun n d1 hn => ?_)
  have hn' : 1 ≤ n ∧ n ≤ 64 := by
    simp only [List.mem_cons, List.not_mem_nil, or_false] at hn
    rcases hn with rfl | rfl | rfl | rfl | rfl | rfl | rfl | rfl <;> first | decide | (split <;> decide)
  refine ok_bind (ok_rgl (by decide) (by decide) (by omega) (by omega) ?_)
  rw [Int.sub_zero]
  refine ok_bind (ok_mixed (by rw [rngL_length]; omega) fun tape d2 ht => ?_)
  refine ok_bind (ok_oneof (by simp) (by simp) fun most d3 hm => ?_)
  have hm' : 0 ≤ most ∧ most ≤ 400 := by
    simp only [List.mem_cons, List.not_mem_nil, or_false] at hm
    rcases hm with rfl | rfl | rfl | rfl <;> first | decide | (split <;> decide)
  refine ok_bind ((asks_in (by omega) (by omega)).imp ?_)
  rintro ⟨asks0, d4⟩ ⟨ha0, hin0⟩
  dsimp only at ha0 hin0 ⊢
  refine ok_bind (ok_some ?_)
  obtain ⟨asks, easks, ha, hin⟩ : ∃ asks, (if decide (n > 20) = true then cut asks0 none (some 10) else asks0) = asks ∧ asks.length ≤ 400 ∧ ∀ a ∈ asks, 0 ≤ a ∧ a < n := by
    refine ⟨_, rfl, ?_, ?_⟩
    · split
      · exact Nat.le_trans (cut_len _ _ _) (by omega)
      · omega
    · intro a h
      split at h
      · rw [cut_to (by decide)] at h; exact hin0 a (List.mem_of_mem_take h)
      · exact hin0 a h
  rw [easks]
  clear easks ha0 hin0
  have tn : tape.Nodup := ht.nodup_iff.mpr (rngL_nodup _ _)
  have tl := ht.length_eq
  rw [rngL_length] at tl
  have hr : ∀ b ∈ asks, b ∈ rngL 0 n.toNat := fun b hb => by rw [rngL_mem]; have := hin b hb; omega
  have hs : ∀ b ∈ asks, b ∈ tape := fun b hb => ht.mem_iff.mpr (hr b hb)
  refine ok_bind (ok_rng (by decide) (by decide) (by omega) (by omega) ?_)
  rw [Int.sub_zero]
  refine ok_bind (ok_compMap (cntI asks) (by rw [rngL_length]; omega) (fun b hb => ?_) ?_)
  · refine ok_is (ok_bind (ok_compF (fun x => decide (x = b)) (fun _ => 1) (by omega) (fun x _ => rfl) (ok_some ?_)))
    rw [List.length_map]
    unfold cntI
    rw [List.count_eq_countP, List.countP_eq_length_filter]
    have : (fun x => decide (x = b)) = fun x : Int => x == b := funext fun x => by by_cases h : x = b <;> simp [h]
    rw [this]
  rw [show (rngL 0 n.toNat).map (cntI asks) = cnts n.toNat asks from rfl]
  refine ok_bind (ok_rng (by decide) (by decide) (by omega) (by omega) ?_)
  rw [Int.sub_zero]
  refine ok_bind (ok_compMap (fun b => (0 - cntI asks b, b)) (by rw [rngL_length]; omega) (fun b hb => by rw [cnts_at hb]; rfl) ?_)
  have sp := srt_perm leP ((rngL 0 n.toNat).map fun b => (0 - cntI asks b, b))
  have sl := sp.length_eq
  rw [List.length_map, rngL_length] at sl
  refine ok_bind (ok_compMap (fun p => p.2) (by omega) (fun p _ => by obtain ⟨a, b⟩ := p; rfl) ?_)
  obtain ⟨best, ebest, hbest, hfall⟩ : ∃ best, (srt leP ((rngL 0 n.toNat).map fun b => (0 - cntI asks b, b))).map (fun p => p.2) = best ∧ best.Perm (rngL 0 n.toNat) ∧ best.Pairwise fun x y => cntI asks x ≥ cntI asks y := by
    refine ⟨_, rfl, ?_, ?_⟩
    · refine (sp.map _).trans (List.Perm.of_eq ?_)
      rw [List.map_map]
      exact (List.map_congr_left fun b _ => rfl).trans (List.map_id _)
    · rw [List.pairwise_map]
      refine List.Pairwise.imp_of_mem ?_ (srt_pw leP_ok _)
      intro p q hp hq h
      obtain ⟨b, _, rfl⟩ := List.mem_map.mp (sp.mem_iff.mp hp)
      obtain ⟨c, _, rfl⟩ := List.mem_map.mp (sp.mem_iff.mp hq)
      rw [leP_iff] at h
      dsimp only at h ⊢
      omega
  rw [ebest]
  have bt : best.Perm tape := hbest.trans ht.symm
  rw [front_steps_ok tn (by omega) hs (by omega), law_steps_ok hbest (by omega) fun b hb => hbest.mem_iff.mpr (hr b hb)]
  refine ok_bind (ok_some (ok_bind (ok_some ?_)))
  -- the front rule once more
  refine ok_bind (Ok.imp (Q := fun s => s.2 = fcost tape asks + asks.length) (ok_foldR (fun w s => s.1.Nodup ∧ s.1.length ≤ 900 ∧ (∀ b ∈ w, b ∈ s.1) ∧ s.2 + fcost s.1 w + w.length = fcost tape asks + asks.length) ⟨tn, by show tape.length ≤ 900; omega, hs, by simp⟩ ?_ ?_) ?_)
  · rintro b t ⟨lies, s⟩ ⟨h1, h2, h3, h4⟩
    dsimp only at h1 h2 h3 h4 ⊢
    have hb := h3 b List.mem_cons_self
    have hp := mtf_perm hb h1
    rw [oIdx_mem hb, ahead_ok h2 (Int.le_refl 0)]
    refine ok_bind (ok_some (ok_bind (ok_some (ok_bind (ok_some (ok_some ?_))))))
    rw [show (0 : Int).toNat = 0 from rfl, lay_zero]
    refine ⟨hp.nodup_iff.mpr h1, by rw [hp.length_eq]; exact h2, fun c hc => hp.mem_iff.mpr (h3 c (List.mem_cons_of_mem _ hc)), ?_⟩
    rw [← h4, List.length_cons]
    simp only [fcost]; push_cast; omega
  · rintro ⟨lies, s⟩ ⟨_, _, _, h4⟩
    dsimp only at h4 ⊢
    rw [← h4]; simp [fcost]
  rintro ⟨lies, own⟩ hown
  dsimp only at hown
  subst hown
  refine ok_bind (ok_same sh_int rfl (ok_iff rfl ?_))
  refine ok_bind (ok_mul (.inl ⟨by omega, by omega⟩) ?_)
  have k1 := front_two asks tape best tn bt hs
  have k2 := crs_max tape best
  have en : (tape.length : Int) = n := by omega
  rw [en] at k2
  refine ok_iff (decide_eq_false (by omega)) ?_
  refine ok_bind (ok_rgl (by decide) (by decide) (by omega) (by omega) ?_)
  rw [Int.sub_zero]
  refine ok_bind (ok_mixed (by rw [rngL_length]; omega) fun third d5 h3 => ?_)
  refine ok_bind (ok_some ?_)
  refine ok_bind (Ok.imp (Q := fun l => (∀ o ∈ l, o.Perm (rngL 0 n.toNat)) ∧ l.length ≤ 120) ?_ ?_)
  · refine ok_if (fun h => ?_) fun h => ok_some ⟨by simp, by simp⟩
    have h : n < 6 := by
      have := (Bool.and_eq_true _ _ ▸ h).1
      simpa using this
    exact ok_bind ((orders_ok (by omega) (by omega)).imp fun l hl => ok_some hl)
  rintro orders ⟨ho1, ho2⟩
  refine ok_bind (ok_cat (by simp; omega) ?_)
  have hsome : ∀ o ∈ [best, tape, third], o.Perm (rngL 0 n.toNat) := by
    intro o ho
    simp only [List.mem_cons, List.not_mem_nil, or_false] at ho
    rcases ho with rfl | rfl | rfl
    · exact hbest
    · exact ht
    · exact h3
  refine ok_forM (fun _ => True) trivial (fun o _ ho _ => ?_) fun _ _ => ?_
  · have hp : o.Perm (rngL 0 n.toNat) := by
      rcases List.mem_append.mp ho with q | q
      · exact hsome o q
      · exact ho1 o q
    have ot := hp.trans ht.symm
    have ol := ot.length_eq
    have on := ot.nodup_iff.mpr tn
    rw [law_steps_ok hp (by omega) fun b hb => hp.mem_iff.mpr (hr b hb), law_crossed_ok (by omega) (by omega) on fun b hb => ot.mem_iff.mpr hb]
    refine ok_bind (ok_some (ok_bind (ok_some ?_)))
    have k3 := best_least on (hbest.trans hp.symm) (fun b hb => hp.mem_iff.mpr (hr b hb)) hfall
    have k4 := front_two asks tape o tn ot hs
    exact ok_iff (decide_eq_false (by omega)) (ok_iff (decide_eq_false (by omega)) (ok_some trivial))
  refine ok_forM (fun _ => True) trivial (fun o _ ho _ => ?_) fun _ _ => ?_
  · have hp := hsome o ho
    have ot := hp.trans ht.symm
    have ol := ot.length_eq
    have on := ot.nodup_iff.mpr tn
    have ho2 : ∀ b ∈ asks, b ∈ o := fun b hb => hp.mem_iff.mpr (hr b hb)
    rw [keeping_ok ho2 (by omega), law_steps_ok hp (by omega) ho2, law_crossed_ok (by omega) (by omega) on (fun b hb => ot.mem_iff.mpr hb), crossed_ok (by omega) (by omega) on (fun b hb => ot.mem_iff.mpr hb)]
    refine ok_bind (ok_some (ok_bind (ok_some ?_)))
    refine ok_bind (Ok.imp (Q := fun v => v = if asks = [] then 0 else (crs tape o : Int)) ?_ ?_)
    · refine ok_if (fun h => ok_bind (ok_some (ok_some ?_))) fun h => ok_some ?_
      · have h : asks ≠ [] := by simpa using h
        rw [if_neg h]
      · have h : asks = [] := by simpa using h
        rw [if_pos h]
    · rintro v rfl
      refine ok_bind (ok_some ?_)
      obtain ⟨w1, w2⟩ := cway_ok (as := asks) on ot ho2
      rw [keep_way ht hp (by omega) ho2, way_costs_ok tn (by omega) w1, w2]
      refine ok_bind (ok_some (ok_bind (ok_some (ok_bind (ok_some (ok_bind (ok_some ?_)))))))
      refine ok_bind (ok_cat (by simp) ?_)
      refine ok_bind (ok_some (ok_bind (ok_same ?_ rfl (ok_iff rfl ?_))))
      · refine sh_lst (by simp) fun x hx => ?_
        simp only [List.cons_append, List.nil_append, List.mem_cons, List.not_mem_nil, or_false] at hx
        rcases hx with rfl | rfl | rfl
        · exact sh_bl
        · exact sh_p3 sh_int sh_int sh_int
        · exact sh_int
      · refine ok_bind (ok_compMap (fun x => (x.1, x.2 + 1)) (by simp [cway]; omega) (fun x _ => by obtain ⟨a, b⟩ := x; rfl) ?_)
        rw [bent_way ht hp (by omega) ho2]
        exact ok_bind (ok_some (ok_bind (ok_same sh_bl rfl (ok_iff rfl (ok_some trivial)))))
  · refine ok_bind (ok_some ?_)
    rw [cut_to (by decide)]
    refine ok_if (fun h => ?_) fun h => ok_some trivial
    refine ok_bind (ok_last rfl (x := third) rfl ?_)
    have hf : ∀ b ∈ asks.take (20 : Int).toNat, b ∈ tape := fun b hb => hs b (List.mem_of_mem_take hb)
    have h3t := h3.trans ht.symm
    have lt : (asks.take (20 : Int).toNat).length ≤ 1000 := by rw [List.length_take]; omega
    rw [keeping_ok (fun b hb => h3t.mem_iff.mpr (hf b hb)) lt, law_front_ok tn (by omega) hf lt]
    refine ok_bind (ok_some (ok_bind (ok_some ?_)))
    rw [rising_ok tn h3t (by omega) hf lt, potentials_ok tn h3t (by omega) hf lt]
    have pl : ∀ (as l : List Int), (pots l third as).length = as.length := by
      intro as
      induction as with
      | nil => intro l; rfl
      | cons b as ih => intro l; simp [pots, ih]
    refine ok_bind (ok_some (ok_bind (ok_some (ok_bind (ok_same (sh_tup (by rw [List.length_cons, pl]; omega) fun _ _ => sh_int) rfl (ok_iff rfl (ok_some trivial)))))))
end
end Law

set_option Elab.async false
set_option linter.all false
set_option maxRecDepth 100000
set_option maxHeartbeats 4000000
namespace Law
open PySem L2 DL
theorem all_mk {l : PySem.W.OpenLaw} {w : World} {K : PySem.W.Frag} {h : Heap} {mg : Str → Option Value} {fa : Addr} (X : K.In h) (G : h.Ns mainGlobals mg) (hfa : mg "law" = some (.ref fa))
    {f0 : Addr} {oc0 kV0 dc0 pm0 cd0 ct0 : Value} {od0 an0 : Option Addr} {sl0 : Array (Option Value)}
    (a0 : PySem.W.nsIn K mainGlobals "is_integer" = some (some (.ref f0))) (l0 : K.lookup f0 = some ⟨oc0, od0, .func (PySem.W.fnOf "is_integer" "is_integer" (defArgs s_is_integer) (defBody s_is_integer) (defScope s_is_integer) .none kV0 dc0 pm0 an0 cd0 ct0), sl0⟩) (c0 : PySem.W.codeIn K cd0 "is_integer" = true) (k0 : PySem.W.keepIn K (.ref f0) = true)
    {f1 : Addr} {oc1 kV1 dc1 pm1 cd1 ct1 : Value} {od1 an1 : Option Addr} {sl1 : Array (Option Value)}
    (a1 : PySem.W.nsIn K mainGlobals "is_number" = some (some (.ref f1))) (l1 : K.lookup f1 = some ⟨oc1, od1, .func (PySem.W.fnOf "is_number" "is_number" (defArgs s_is_number) (defBody s_is_number) (defScope s_is_number) .none kV1 dc1 pm1 an1 cd1 ct1), sl1⟩) (c1 : PySem.W.codeIn K cd1 "is_number" = true) (k1 : PySem.W.keepIn K (.ref f1) = true)
    {f2 : Addr} {oc2 kV2 dc2 pm2 cd2 ct2 : Value} {od2 an2 : Option Addr} {sl2 : Array (Option Value)}
    (a2 : PySem.W.nsIn K mainGlobals "is_index" = some (some (.ref f2))) (l2 : K.lookup f2 = some ⟨oc2, od2, .func (PySem.W.fnOf "is_index" "is_index" (defArgs s_is_index) (defBody s_is_index) (defScope s_is_index) .none kV2 dc2 pm2 an2 cd2 ct2), sl2⟩) (c2 : PySem.W.codeIn K cd2 "is_index" = true) (k2 : PySem.W.keepIn K (.ref f2) = true)
    {f3 : Addr} {oc3 kV3 dc3 pm3 cd3 ct3 : Value} {od3 an3 : Option Addr} {sl3 : Array (Option Value)}
    (a3 : PySem.W.nsIn K mainGlobals "is_row_of" = some (some (.ref f3))) (l3 : K.lookup f3 = some ⟨oc3, od3, .func (PySem.W.fnOf "is_row_of" "is_row_of" (defArgs s_is_row_of) (defBody s_is_row_of) (defScope s_is_row_of) .none kV3 dc3 pm3 an3 cd3 ct3), sl3⟩) (c3 : PySem.W.codeIn K cd3 "is_row_of" = true) (k3 : PySem.W.keepIn K (.ref f3) = true)
    {f4 : Addr} {oc4 kV4 dc4 pm4 cd4 ct4 : Value} {od4 an4 : Option Addr} {sl4 : Array (Option Value)}
    (a4 : PySem.W.nsIn K mainGlobals "is_tape" = some (some (.ref f4))) (l4 : K.lookup f4 = some ⟨oc4, od4, .func (PySem.W.fnOf "is_tape" "is_tape" (defArgs s_is_tape) (defBody s_is_tape) (defScope s_is_tape) .none kV4 dc4 pm4 an4 cd4 ct4), sl4⟩) (c4 : PySem.W.codeIn K cd4 "is_tape" = true) (k4 : PySem.W.keepIn K (.ref f4) = true)
    {f5 : Addr} {oc5 kV5 dc5 pm5 cd5 ct5 : Value} {od5 an5 : Option Addr} {sl5 : Array (Option Value)}
    (a5 : PySem.W.nsIn K mainGlobals "crossed" = some (some (.ref f5))) (l5 : K.lookup f5 = some ⟨oc5, od5, .func (PySem.W.fnOf "crossed" "crossed" (defArgs s_crossed) (defBody s_crossed) (defScope s_crossed) .none kV5 dc5 pm5 an5 cd5 ct5), sl5⟩) (c5 : PySem.W.codeIn K cd5 "crossed" = true) (k5 : PySem.W.keepIn K (.ref f5) = true)
    {f6 : Addr} {oc6 kV6 dc6 pm6 cd6 ct6 : Value} {od6 an6 : Option Addr} {sl6 : Array (Option Value)}
    (a6 : PySem.W.nsIn K mainGlobals "laid_ahead" = some (some (.ref f6))) (l6 : K.lookup f6 = some ⟨oc6, od6, .func (PySem.W.fnOf "laid_ahead" "laid_ahead" (defArgs s_laid_ahead) (defBody s_laid_ahead) (defScope s_laid_ahead) .none kV6 dc6 pm6 an6 cd6 ct6), sl6⟩) (c6 : PySem.W.codeIn K cd6 "laid_ahead" = true) (k6 : PySem.W.keepIn K (.ref f6) = true)
    {f7 : Addr} {oc7 kV7 dc7 pm7 cd7 ct7 : Value} {od7 an7 : Option Addr} {sl7 : Array (Option Value)}
    (a7 : PySem.W.nsIn K mainGlobals "is_tape_way" = some (some (.ref f7))) (l7 : K.lookup f7 = some ⟨oc7, od7, .func (PySem.W.fnOf "is_tape_way" "is_tape_way" (defArgs s_is_tape_way) (defBody s_is_tape_way) (defScope s_is_tape_way) .none kV7 dc7 pm7 an7 cd7 ct7), sl7⟩) (c7 : PySem.W.codeIn K cd7 "is_tape_way" = true) (k7 : PySem.W.keepIn K (.ref f7) = true)
    {f8 : Addr} {oc8 kV8 dc8 pm8 cd8 ct8 : Value} {od8 an8 : Option Addr} {sl8 : Array (Option Value)}
    (a8 : PySem.W.nsIn K mainGlobals "way_costs" = some (some (.ref f8))) (l8 : K.lookup f8 = some ⟨oc8, od8, .func (PySem.W.fnOf "way_costs" "way_costs" (defArgs s_way_costs) (defBody s_way_costs) (defScope s_way_costs) .none kV8 dc8 pm8 an8 cd8 ct8), sl8⟩) (c8 : PySem.W.codeIn K cd8 "way_costs" = true) (k8 : PySem.W.keepIn K (.ref f8) = true)
    {f9 : Addr} {oc9 kV9 dc9 pm9 cd9 ct9 : Value} {od9 an9 : Option Addr} {sl9 : Array (Option Value)}
    (a9 : PySem.W.nsIn K mainGlobals "front_way" = some (some (.ref f9))) (l9 : K.lookup f9 = some ⟨oc9, od9, .func (PySem.W.fnOf "front_way" "front_way" (defArgs s_front_way) (defBody s_front_way) (defScope s_front_way) .none kV9 dc9 pm9 an9 cd9 ct9), sl9⟩) (c9 : PySem.W.codeIn K cd9 "front_way" = true) (k9 : PySem.W.keepIn K (.ref f9) = true)
    {f10 : Addr} {oc10 kV10 dc10 pm10 cd10 ct10 : Value} {od10 an10 : Option Addr} {sl10 : Array (Option Value)}
    (a10 : PySem.W.nsIn K mainGlobals "front_steps" = some (some (.ref f10))) (l10 : K.lookup f10 = some ⟨oc10, od10, .func (PySem.W.fnOf "front_steps" "front_steps" (defArgs s_front_steps) (defBody s_front_steps) (defScope s_front_steps) .none kV10 dc10 pm10 an10 cd10 ct10), sl10⟩) (c10 : PySem.W.codeIn K cd10 "front_steps" = true) (k10 : PySem.W.keepIn K (.ref f10) = true)
    {f11 : Addr} {oc11 kV11 dc11 pm11 cd11 ct11 : Value} {od11 an11 : Option Addr} {sl11 : Array (Option Value)}
    (a11 : PySem.W.nsIn K mainGlobals "tape_potentials" = some (some (.ref f11))) (l11 : K.lookup f11 = some ⟨oc11, od11, .func (PySem.W.fnOf "tape_potentials" "tape_potentials" (defArgs s_tape_potentials) (defBody s_tape_potentials) (defScope s_tape_potentials) .none kV11 dc11 pm11 an11 cd11 ct11), sl11⟩) (c11 : PySem.W.codeIn K cd11 "tape_potentials" = true) (k11 : PySem.W.keepIn K (.ref f11) = true)
    {f12 : Addr} {oc12 kV12 dc12 pm12 cd12 ct12 : Value} {od12 an12 : Option Addr} {sl12 : Array (Option Value)}
    (a12 : PySem.W.nsIn K mainGlobals "_law_draw" = some (some (.ref f12))) (l12 : K.lookup f12 = some ⟨oc12, od12, .func (PySem.W.fnOf "_law_draw" "_law_draw" (defArgs s_law_draw) (defBody s_law_draw) (defScope s_law_draw) .none kV12 dc12 pm12 an12 cd12 ct12), sl12⟩) (c12 : PySem.W.codeIn K cd12 "_law_draw" = true) (k12 : PySem.W.keepIn K (.ref f12) = true)
    {f13 : Addr} {oc13 kV13 dc13 pm13 cd13 ct13 : Value} {od13 an13 : Option Addr} {sl13 : Array (Option Value)}
    (a13 : PySem.W.nsIn K mainGlobals "_law_any" = some (some (.ref f13))) (l13 : K.lookup f13 = some ⟨oc13, od13, .func (PySem.W.fnOf "_law_any" "_law_any" (defArgs s_law_any) (defBody s_law_any) (defScope s_law_any) .none kV13 dc13 pm13 an13 cd13 ct13), sl13⟩) (c13 : PySem.W.codeIn K cd13 "_law_any" = true) (k13 : PySem.W.keepIn K (.ref f13) = true)
    {f14 : Addr} {oc14 kV14 dc14 pm14 cd14 ct14 : Value} {od14 an14 : Option Addr} {sl14 : Array (Option Value)}
    (a14 : PySem.W.nsIn K mainGlobals "_law_of" = some (some (.ref f14))) (l14 : K.lookup f14 = some ⟨oc14, od14, .func (PySem.W.fnOf "_law_of" "_law_of" (defArgs s_law_of) (defBody s_law_of) (defScope s_law_of) .none kV14 dc14 pm14 an14 cd14 ct14), sl14⟩) (c14 : PySem.W.codeIn K cd14 "_law_of" = true) (k14 : PySem.W.keepIn K (.ref f14) = true)
    {f15 : Addr} {oc15 kV15 dc15 pm15 cd15 ct15 : Value} {od15 an15 : Option Addr} {sl15 : Array (Option Value)}
    (a15 : PySem.W.nsIn K mainGlobals "_law_mixed" = some (some (.ref f15))) (l15 : K.lookup f15 = some ⟨oc15, od15, .func (PySem.W.fnOf "_law_mixed" "_law_mixed" (defArgs s_law_mixed) (defBody s_law_mixed) (defScope s_law_mixed) .none kV15 dc15 pm15 an15 cd15 ct15), sl15⟩) (c15 : PySem.W.codeIn K cd15 "_law_mixed" = true) (k15 : PySem.W.keepIn K (.ref f15) = true)
    {f16 : Addr} {oc16 kV16 dc16 pm16 cd16 ct16 : Value} {od16 an16 : Option Addr} {sl16 : Array (Option Value)}
    (a16 : PySem.W.nsIn K mainGlobals "_law_same" = some (some (.ref f16))) (l16 : K.lookup f16 = some ⟨oc16, od16, .func (PySem.W.fnOf "_law_same" "_law_same" (defArgs s_law_same) (defBody s_law_same) (defScope s_law_same) .none kV16 dc16 pm16 an16 cd16 ct16), sl16⟩) (c16 : PySem.W.codeIn K cd16 "_law_same" = true) (k16 : PySem.W.keepIn K (.ref f16) = true)
    {f17 : Addr} {oc17 kV17 dc17 pm17 cd17 ct17 : Value} {od17 an17 : Option Addr} {sl17 : Array (Option Value)}
    (a17 : PySem.W.nsIn K mainGlobals "_law_asks" = some (some (.ref f17))) (l17 : K.lookup f17 = some ⟨oc17, od17, .func (PySem.W.fnOf "_law_asks" "_law_asks" (defArgs s_law_asks) (defBody s_law_asks) (defScope s_law_asks) .none kV17 dc17 pm17 an17 cd17 ct17), sl17⟩) (c17 : PySem.W.codeIn K cd17 "_law_asks" = true) (k17 : PySem.W.keepIn K (.ref f17) = true)
    {f18 : Addr} {oc18 kV18 dc18 pm18 cd18 ct18 : Value} {od18 an18 : Option Addr} {sl18 : Array (Option Value)}
    (a18 : PySem.W.nsIn K mainGlobals "_law_ahead" = some (some (.ref f18))) (l18 : K.lookup f18 = some ⟨oc18, od18, .func (PySem.W.fnOf "_law_ahead" "_law_ahead" (defArgs s_law_ahead) (defBody s_law_ahead) (defScope s_law_ahead) .none kV18 dc18 pm18 an18 cd18 ct18), sl18⟩) (c18 : PySem.W.codeIn K cd18 "_law_ahead" = true) (k18 : PySem.W.keepIn K (.ref f18) = true)
    {f19 : Addr} {oc19 kV19 dc19 pm19 cd19 ct19 : Value} {od19 an19 : Option Addr} {sl19 : Array (Option Value)}
    (a19 : PySem.W.nsIn K mainGlobals "_law_crossed" = some (some (.ref f19))) (l19 : K.lookup f19 = some ⟨oc19, od19, .func (PySem.W.fnOf "_law_crossed" "_law_crossed" (defArgs s_law_crossed) (defBody s_law_crossed) (defScope s_law_crossed) .none kV19 dc19 pm19 an19 cd19 ct19), sl19⟩) (c19 : PySem.W.codeIn K cd19 "_law_crossed" = true) (k19 : PySem.W.keepIn K (.ref f19) = true)
    {f20 : Addr} {oc20 kV20 dc20 pm20 cd20 ct20 : Value} {od20 an20 : Option Addr} {sl20 : Array (Option Value)}
    (a20 : PySem.W.nsIn K mainGlobals "_law_rising" = some (some (.ref f20))) (l20 : K.lookup f20 = some ⟨oc20, od20, .func (PySem.W.fnOf "_law_rising" "_law_rising" (defArgs s_law_rising) (defBody s_law_rising) (defScope s_law_rising) .none kV20 dc20 pm20 an20 cd20 ct20), sl20⟩) (c20 : PySem.W.codeIn K cd20 "_law_rising" = true) (k20 : PySem.W.keepIn K (.ref f20) = true)
    {f21 : Addr} {oc21 kV21 dc21 pm21 cd21 ct21 : Value} {od21 an21 : Option Addr} {sl21 : Array (Option Value)}
    (a21 : PySem.W.nsIn K mainGlobals "_law_front" = some (some (.ref f21))) (l21 : K.lookup f21 = some ⟨oc21, od21, .func (PySem.W.fnOf "_law_front" "_law_front" (defArgs s_law_front) (defBody s_law_front) (defScope s_law_front) .none kV21 dc21 pm21 an21 cd21 ct21), sl21⟩) (c21 : PySem.W.codeIn K cd21 "_law_front" = true) (k21 : PySem.W.keepIn K (.ref f21) = true)
    {f22 : Addr} {oc22 kV22 dc22 pm22 cd22 ct22 : Value} {od22 an22 : Option Addr} {sl22 : Array (Option Value)}
    (a22 : PySem.W.nsIn K mainGlobals "_law_orders" = some (some (.ref f22))) (l22 : K.lookup f22 = some ⟨oc22, od22, .func (PySem.W.fnOf "_law_orders" "_law_orders" (defArgs s_law_orders) (defBody s_law_orders) (defScope s_law_orders) .none kV22 dc22 pm22 an22 cd22 ct22), sl22⟩) (c22 : PySem.W.codeIn K cd22 "_law_orders" = true) (k22 : PySem.W.keepIn K (.ref f22) = true)
    {f23 : Addr} {oc23 kV23 dc23 pm23 cd23 ct23 : Value} {od23 an23 : Option Addr} {sl23 : Array (Option Value)}
    (a23 : PySem.W.nsIn K mainGlobals "_law_keeping" = some (some (.ref f23))) (l23 : K.lookup f23 = some ⟨oc23, od23, .func (PySem.W.fnOf "_law_keeping" "_law_keeping" (defArgs s_law_keeping) (defBody s_law_keeping) (defScope s_law_keeping) .none kV23 dc23 pm23 an23 cd23 ct23), sl23⟩) (c23 : PySem.W.codeIn K cd23 "_law_keeping" = true) (k23 : PySem.W.keepIn K (.ref f23) = true)
    {f24 : Addr} {oc24 kV24 dc24 pm24 cd24 ct24 : Value} {od24 an24 : Option Addr} {sl24 : Array (Option Value)}
    (a24 : PySem.W.nsIn K mainGlobals "_law_steps" = some (some (.ref f24))) (l24 : K.lookup f24 = some ⟨oc24, od24, .func (PySem.W.fnOf "_law_steps" "_law_steps" (defArgs s_law_steps) (defBody s_law_steps) (defScope s_law_steps) .none kV24 dc24 pm24 an24 cd24 ct24), sl24⟩) (c24 : PySem.W.codeIn K cd24 "_law_steps" = true) (k24 : PySem.W.keepIn K (.ref f24) = true)
    {f25 : Addr} {oc25 kV25 dc25 pm25 cd25 ct25 : Value} {od25 an25 : Option Addr} {sl25 : Array (Option Value)}
    (a25 : PySem.W.nsIn K mainGlobals "law" = some (some (.ref f25))) (l25 : K.lookup f25 = some ⟨oc25, od25, .func (PySem.W.fnOf "law" "law" (defArgs s_law) (defBody s_law) (defScope s_law) .none kV25 dc25 pm25 an25 cd25 ct25), sl25⟩) (c25 : PySem.W.codeIn K cd25 "law" = true) (k25 : PySem.W.keepIn K (.ref f25) = true)
    (z_isinstance : PySem.W.nsIn K mainGlobals "isinstance" = some none)
    (z_bool : PySem.W.nsIn K mainGlobals "bool" = some none)
    (z_int : PySem.W.nsIn K mainGlobals "int" = some none)
    (z_len : PySem.W.nsIn K mainGlobals "len" = some none)
    (z_tuple : PySem.W.nsIn K mainGlobals "tuple" = some none)
    (z_set : PySem.W.nsIn K mainGlobals "set" = some none)
    (z_all : PySem.W.nsIn K mainGlobals "all" = some none)
    (z_range : PySem.W.nsIn K mainGlobals "range" = some none)
    (z_enumerate : PySem.W.nsIn K mainGlobals "enumerate" = some none)
    (z_zip : PySem.W.nsIn K mainGlobals "zip" = some none)
    (z_abs : PySem.W.nsIn K mainGlobals "abs" = some none)
    (z_list : PySem.W.nsIn K mainGlobals "list" = some none)
    (z_str : PySem.W.nsIn K mainGlobals "str" = some none)
    (z_max : PySem.W.nsIn K mainGlobals "max" = some none)
    (z_dict : PySem.W.nsIn K mainGlobals "dict" = some none)
    (z_sum : PySem.W.nsIn K mainGlobals "sum" = some none)
    (z_sorted : PySem.W.nsIn K mainGlobals "sorted" = some none)
    : ∃ fd : FuncData, (∀ (s : Shared) (v : Value), BindsTo s fd ⟨[v], []⟩ [("script", v)]) ∧ ∀ base : Heap, K.In base → base.Ns mainGlobals mg → FnOk l.prog w K mg base CX0 13 fa fd ["script"] (lawAsk K) := by
  have e := hfa.symm.trans (PySem.W.mg_of X G a25)
  cases e
  have B : Bs mg := ⟨PySem.W.mg_none_of X G z_isinstance, PySem.W.mg_none_of X G z_bool, PySem.W.mg_none_of X G z_int, PySem.W.mg_none_of X G z_len, PySem.W.mg_none_of X G z_tuple, PySem.W.mg_none_of X G z_set, PySem.W.mg_none_of X G z_all, PySem.W.mg_none_of X G z_range, PySem.W.mg_none_of X G z_enumerate, PySem.W.mg_none_of X G z_zip, PySem.W.mg_none_of X G z_abs, PySem.W.mg_none_of X G z_list, PySem.W.mg_none_of X G z_str, PySem.W.mg_none_of X G z_max, PySem.W.mg_none_of X G z_dict, PySem.W.mg_none_of X G z_sum, PySem.W.mg_none_of X G z_sorted⟩
  refine ⟨PySem.W.fnOf "law" "law" (defArgs s_law) (defBody s_law) (defScope s_law) .none kV25 dc25 pm25 an25 cd25 ct25, fun s v => .of_eq rfl, fun base _ _ => ?_⟩
  have h_law_same := ok_law_same (P := l.prog) (w := w) (base := base) B  ⟨fun_mk (st := s_law_same) l16 c16 k16, PySem.W.mg_of X G a16⟩ 12
  have h_crossed := ok_crossed (P := l.prog) (w := w) (base := base) B  ⟨fun_mk (st := s_crossed) l5 c5 k5, PySem.W.mg_of X G a5⟩
  have h_laid_ahead := ok_laid_ahead (P := l.prog) (w := w) (base := base) B  ⟨fun_mk (st := s_laid_ahead) l6 c6 k6, PySem.W.mg_of X G a6⟩
  have h_tape_potentials := ok_tape_potentials (P := l.prog) (w := w) (base := base) B h_crossed h_laid_ahead ⟨fun_mk (st := s_tape_potentials) l11 c11 k11, PySem.W.mg_of X G a11⟩
  have h_law_crossed := ok_law_crossed (P := l.prog) (w := w) (base := base) B  ⟨fun_mk (st := s_law_crossed) l19 c19 k19, PySem.W.mg_of X G a19⟩
  have h_law_ahead := ok_law_ahead (P := l.prog) (w := w) (base := base) B  ⟨fun_mk (st := s_law_ahead) l18 c18 k18, PySem.W.mg_of X G a18⟩
  have h_law_rising := ok_law_rising (P := l.prog) (w := w) (base := base) B h_law_crossed h_law_ahead ⟨fun_mk (st := s_law_rising) l20 c20 k20, PySem.W.mg_of X G a20⟩
  have h_law_front := ok_law_front (P := l.prog) (w := w) (base := base) B h_law_ahead ⟨fun_mk (st := s_law_front) l21 c21 k21, PySem.W.mg_of X G a21⟩
  have h_law_keeping := ok_law_keeping (P := l.prog) (w := w) (base := base) B  ⟨fun_mk (st := s_law_keeping) l23 c23 k23, PySem.W.mg_of X G a23⟩
  have h_is_integer := ok_is_integer (P := l.prog) (w := w) (base := base) B  ⟨fun_mk (st := s_is_integer) l0 c0 k0, PySem.W.mg_of X G a0⟩
  have h_is_number := ok_is_number (P := l.prog) (w := w) (base := base) B h_is_integer ⟨fun_mk (st := s_is_number) l1 c1 k1, PySem.W.mg_of X G a1⟩
  have h_is_index := ok_is_index (P := l.prog) (w := w) (base := base) B h_is_number ⟨fun_mk (st := s_is_index) l2 c2 k2, PySem.W.mg_of X G a2⟩
  have h_is_row_of := ok_is_row_of (P := l.prog) (w := w) (base := base) B  ⟨fun_mk (st := s_is_row_of) l3 c3 k3, PySem.W.mg_of X G a3⟩
  have h_is_tape := ok_is_tape (P := l.prog) (w := w) (base := base) B h_is_index h_is_row_of ⟨fun_mk (st := s_is_tape) l4 c4 k4, PySem.W.mg_of X G a4⟩
  have h_is_tape_way := ok_is_tape_way (P := l.prog) (w := w) (base := base) B h_is_index h_is_tape h_is_row_of ⟨fun_mk (st := s_is_tape_way) l7 c7 k7, PySem.W.mg_of X G a7⟩
  have h_way_costs := ok_way_costs (P := l.prog) (w := w) (base := base) B h_laid_ahead h_crossed ⟨fun_mk (st := s_way_costs) l8 c8 k8, PySem.W.mg_of X G a8⟩
  have h_law_steps := ok_law_steps (P := l.prog) (w := w) (base := base) B  ⟨fun_mk (st := s_law_steps) l24 c24 k24, PySem.W.mg_of X G a24⟩
  have h_law_orders := ok_law_orders (P := l.prog) (w := w) (base := base) B  ⟨fun_mk (st := s_law_orders) l22 c22 k22, PySem.W.mg_of X G a22⟩
  have h_law_any := ok_law_any (P := l.prog) (w := w) (base := base) B  ⟨fun_mk (st := s_law_any) l13 c13 k13, PySem.W.mg_of X G a13⟩
  have h_law_mixed := ok_law_mixed (P := l.prog) (w := w) (base := base) B h_law_any ⟨fun_mk (st := s_law_mixed) l15 c15 k15, PySem.W.mg_of X G a15⟩
  have h_front_way := ok_front_way (P := l.prog) (w := w) (base := base) B h_laid_ahead ⟨fun_mk (st := s_front_way) l9 c9 k9, PySem.W.mg_of X G a9⟩
  have h_front_steps := ok_front_steps (P := l.prog) (w := w) (base := base) B h_way_costs h_front_way ⟨fun_mk (st := s_front_steps) l10 c10 k10, PySem.W.mg_of X G a10⟩
  have h_law_of := ok_law_of (P := l.prog) (w := w) (base := base) B h_law_any ⟨fun_mk (st := s_law_of) l14 c14 k14, PySem.W.mg_of X G a14⟩
  have h_law_asks := ok_law_asks (P := l.prog) (w := w) (base := base) B h_law_any h_law_of h_law_mixed ⟨fun_mk (st := s_law_asks) l17 c17 k17, PySem.W.mg_of X G a17⟩
  have h_law_draw := ok_law_draw (P := l.prog) (w := w) (base := base) B  ⟨fun_mk (st := s_law_draw) l12 c12 k12, PySem.W.mg_of X G a12⟩
  have h_law := ok_law (P := l.prog) (w := w) (base := base) B h_law_same h_tape_potentials h_law_rising h_law_front h_law_keeping h_is_tape_way h_law_crossed h_crossed h_way_costs h_law_steps h_law_orders h_law_mixed h_law_ahead h_front_steps h_law_asks h_law_of h_law_draw ⟨fun_mk (st := s_law) l25 c25 k25, PySem.W.mg_of X G a25⟩
  exact h_law.ok.imp fun vs H Q E h => law_sp (fun ns W h1 h2 => use_law h1 law_true h2) h
end Law
open PySem PySem.W PyProof.Rows in
set_option maxRecDepth 100000 in
set_option maxHeartbeats 0 in
theorem PySem.Challenge.cw_fewerpours_k22_whole_best_fixed_tapes_holds : PySem.Challenge.rw_fewerpours_k22_whole_best_fixed_tapes.Holds := by
  w_on; o_law; k_head; (case hw => w_witness2)
  k_fill
  refine DL.law_walk (k := 13) (l := PySem.Challenge.rw_fewerpours_k22_whole_best_fixed_tapes) ⟨rfl, by decide, by decide⟩ rfl rfl (fun w h Y => PySem.W.kIn_of Y) ?F
  case F =>
    intro w mg fa h KX G hmg
    refine' Law.all_mk KX G hmg ?a0 ?l0 ?c0 ?k0 ?a1 ?l1 ?c1 ?k1 ?a2 ?l2 ?c2 ?k2 ?a3 ?l3 ?c3 ?k3 ?a4 ?l4 ?c4 ?k4 ?a5 ?l5 ?c5 ?k5 ?a6 ?l6 ?c6 ?k6 ?a7 ?l7 ?c7 ?k7 ?a8 ?l8 ?c8 ?k8 ?a9 ?l9 ?c9 ?k9 ?a10 ?l10 ?c10 ?k10 ?a11 ?l11 ?c11 ?k11 ?a12 ?l12 ?c12 ?k12 ?a13 ?l13 ?c13 ?k13 ?a14 ?l14 ?c14 ?k14 ?a15 ?l15 ?c15 ?k15 ?a16 ?l16 ?c16 ?k16 ?a17 ?l17 ?c17 ?k17 ?a18 ?l18 ?c18 ?k18 ?a19 ?l19 ?c19 ?k19 ?a20 ?l20 ?c20 ?k20 ?a21 ?l21 ?c21 ?k21 ?a22 ?l22 ?c22 ?k22 ?a23 ?l23 ?c23 ?k23 ?a24 ?l24 ?c24 ?k24 ?a25 ?l25 ?c25 ?k25 ?z_isinstance ?z_bool ?z_int ?z_len ?z_tuple ?z_set ?z_all ?z_range ?z_enumerate ?z_zip ?z_abs ?z_list ?z_str ?z_max ?z_dict ?z_sum ?z_sorted
    (case a0 => k_is)
    (case l0 => k_is)
    (case c0 => k_is)
    (case k0 => k_is)
    (case a1 => k_is)
    (case l1 => k_is)
    (case c1 => k_is)
    (case k1 => k_is)
    (case a2 => k_is)
    (case l2 => k_is)
    (case c2 => k_is)
    (case k2 => k_is)
    (case a3 => k_is)
    (case l3 => k_is)
    (case c3 => k_is)
    (case k3 => k_is)
    (case a4 => k_is)
    (case l4 => k_is)
    (case c4 => k_is)
    (case k4 => k_is)
    (case a5 => k_is)
    (case l5 => k_is)
    (case c5 => k_is)
    (case k5 => k_is)
    (case a6 => k_is)
    (case l6 => k_is)
    (case c6 => k_is)
    (case k6 => k_is)
    (case a7 => k_is)
    (case l7 => k_is)
    (case c7 => k_is)
    (case k7 => k_is)
    (case a8 => k_is)
    (case l8 => k_is)
    (case c8 => k_is)
    (case k8 => k_is)
    (case a9 => k_is)
    (case l9 => k_is)
    (case c9 => k_is)
    (case k9 => k_is)
    (case a10 => k_is)
    (case l10 => k_is)
    (case c10 => k_is)
    (case k10 => k_is)
    (case a11 => k_is)
    (case l11 => k_is)
    (case c11 => k_is)
    (case k11 => k_is)
    (case a12 => k_is)
    (case l12 => k_is)
    (case c12 => k_is)
    (case k12 => k_is)
    (case a13 => k_is)
    (case l13 => k_is)
    (case c13 => k_is)
    (case k13 => k_is)
    (case a14 => k_is)
    (case l14 => k_is)
    (case c14 => k_is)
    (case k14 => k_is)
    (case a15 => k_is)
    (case l15 => k_is)
    (case c15 => k_is)
    (case k15 => k_is)
    (case a16 => k_is)
    (case l16 => k_is)
    (case c16 => k_is)
    (case k16 => k_is)
    (case a17 => k_is)
    (case l17 => k_is)
    (case c17 => k_is)
    (case k17 => k_is)
    (case a18 => k_is)
    (case l18 => k_is)
    (case c18 => k_is)
    (case k18 => k_is)
    (case a19 => k_is)
    (case l19 => k_is)
    (case c19 => k_is)
    (case k19 => k_is)
    (case a20 => k_is)
    (case l20 => k_is)
    (case c20 => k_is)
    (case k20 => k_is)
    (case a21 => k_is)
    (case l21 => k_is)
    (case c21 => k_is)
    (case k21 => k_is)
    (case a22 => k_is)
    (case l22 => k_is)
    (case c22 => k_is)
    (case k22 => k_is)
    (case a23 => k_is)
    (case l23 => k_is)
    (case c23 => k_is)
    (case k23 => k_is)
    (case a24 => k_is)
    (case l24 => k_is)
    (case c24 => k_is)
    (case k24 => k_is)
    (case a25 => k_is)
    (case l25 => k_is)
    (case c25 => k_is)
    (case k25 => k_is)
    (case z_isinstance => k_is)
    (case z_bool => k_is)
    (case z_int => k_is)
    (case z_len => k_is)
    (case z_tuple => k_is)
    (case z_set => k_is)
    (case z_all => k_is)
    (case z_range => k_is)
    (case z_enumerate => k_is)
    (case z_zip => k_is)
    (case z_abs => k_is)
    (case z_list => k_is)
    (case z_str => k_is)
    (case z_max => k_is)
    (case z_dict => k_is)
    (case z_sum => k_is)
    (case z_sorted => k_is)

