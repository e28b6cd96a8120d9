import PyProof.Rows.All
import Wide.All
import OpenK.AllK
import Wide.FinOn
import KE.DataCmp
import HandS.Deep
import HandS.ForMost
import HandS.Defaults
import HandS.TupAny
import HandS.List
import HandS.Strs
import HandS.Wide
import HandS.Gcd
import HandS.IsInst
import HandS.Style
import HandS.Conv
import HandS.NoneIn
import HandS.Flow
import HandS.Zip
import KE.SortData
import HandS.Head2
import HandS.HeadEnd
import HandS.HeadHook2
import KE.KStateDown
import HandS.Dict
import HandS.Text
import PyProof.StrBlock2
import PyProof.TwoTypesSub
import PyProof.ReprRoads
import PyProof.ListStr
import HandS.More
import HandS.WideBits
import PyProof.FitsReplace
import HandS.Head3
import PySem.Challenge.RW_everygrown_k16_growing_and_useful
set_option Elab.async false
set_option linter.all false
set_option maxRecDepth 100000
set_option maxHeartbeats 4000000
/-! Tuples whose object is known to have no dict: so that a method of theirs can be called. -/
namespace PQ
open PySem PySem.Spec PyProof.Rows L2
/-- at a stands a tuple of xs, and its object has no dict -/
def SqN (K : PySem.W.Frag) (H : Hp) (a : Addr) (xs : List V) : Prop :=
  (∃ o : Obj, H a = some (.frz o (.tup xs)) ∧ o.cls = .type "tuple" ∧ o.dict = none) ∨
  ∃ (o : Obj) (its : Array Value) (n : Nat), K.lookup a = some o ∧ o.cls = .type "tuple" ∧ o.dict = none ∧ o.data = .seq its n ∧ its.size ≤ sizeLine ∧ Vals xs its.toList
theorem SqN.sq {K : PySem.W.Frag} {H : Hp} {a : Addr} {xs : List V} (h : SqN K H a xs) : SqT K H a xs := by
  rcases h with ⟨o, h, _⟩ | ⟨o, its, n, h1, h2, _, h3, h4, h5⟩
  · exact .inl (.inr ⟨o, h⟩)
  · exact .inr ⟨o, its, n, h1, h2, h3, h4, h5⟩
/-- a new tuple -/
def NwT (H : Hp) (Q : VK) (xs : List V) : Prop := ∀ (p : Addr) (o : Obj), H p = none → o.cls = .type "tuple" → o.dict = none → Q (.ref p) (upd H p (.frz o (.tup xs)))
theorem SqN.new {K : PySem.W.Frag} {H : Hp} {p : Addr} {o : Obj} {xs : List V} (h1 : o.cls = .type "tuple") (h2 : o.dict = none) : SqN K (upd H p (.frz o (.tup xs))) p xs := .inl ⟨o, upd_same, h1, h2⟩
section
variable {X : Cx} {pos : Pos} {es : List Expr} {t : TA}
def tTupN (t : TA) : TE := fun σ H Q => t σ H fun xs H1 => xs.length ≤ sizeLine ∧ NwT H1 Q xs
theorem pe_tupN {x1} (h : PA X es t) : PE X (.Tuple es x1 pos) (tTupN t) := by
  refine ⟨fun pins s σ H Q I hq => ?_⟩
  refine wpAny_Tuple_spliced (thn (h.run pos pins s σ H _ I hq) fun us s1 ⟨xs, H1, I1, r, z, q⟩ => ⟨by rw [← r.length]; exact z, ?_⟩)
  have hf : H1 s1.heap.objs.size = none := I1.hok.fresh (Nat.le_refl _)
  have hg := Heap.get?_push_size (h := s1.heap) (o := ({ cls := .type "tuple", data := .seq us.toArray } : Obj)) rfl
  refine ⟨.ref s1.heap.objs.size, upd H1 s1.heap.objs.size (.frz { cls := .type "tuple", data := .seq us.toArray } (.tup xs)), I1.laid (t' := s1.toks) (fun b u e => Heap.get?_push_of_some _ e) (Nat.le_refl _) ?_, rfl, q _ _ hf rfl rfl⟩
  exact ⟨hg, z, us, r, ⟨_, hg, rfl, _, rfl⟩⟩
def rCatN (K : PySem.W.Frag) : R2 := fun x y H Q => ∃ a b xs ys, x = .ref a ∧ y = .ref b ∧ SqT K H a xs ∧ SqT K H b ys ∧ xs.length + ys.length ≤ sizeLine ∧
  (xs = [] → Q (.ref b) H) ∧ (xs ≠ [] → ys = [] → Q (.ref a) H) ∧ (xs ≠ [] → ys ≠ [] → NwT H Q (xs ++ ys))
theorem op_catN : OpR X (binaryOp .Add) (rCatN X.K) := by
  intro pins s σ H x y v u Q I rx ry h
  obtain ⟨a, b, xs, ys, rfl, rfl, ha, hb, hz, q0, q1, q2⟩ := h
  by_cases hx : xs = []
  · subst hx
    cases rx
    cases ry
    obtain ⟨its, r1, p1, _⟩ := I.tuple ha
    obtain ⟨its2, r2, p2, _⟩ := I.tuple hb
    cases r1
    exact cat_tup0 p1 p2 ⟨.ref b, H, I, rfl, q0 rfl⟩
  · cases rx
    cases ry
    obtain ⟨its, r1, p1, _⟩ := I.tuple ha
    obtain ⟨its2, r2, p2, _⟩ := I.tuple hb
    refine HT.cat_tup p1 p2 (fun z => hx (r1.nil_iff.mp z)) (fun z => ⟨.ref a, H, I, rfl, q1 hx (r2.nil_iff.mp z)⟩) (fun z => ?_) (by rw [← r1.length, ← r2.length]; exact hz)
    have hg := Heap.get?_push_size (h := s.heap) (o := ({ cls := .type "tuple", data := .seq (its ++ its2).toArray } : Obj)) rfl
    refine ⟨.ref s.heap.objs.size, _, I.laid (t' := s.toks) (o := .frz { cls := .type "tuple", data := .seq (its ++ its2).toArray } (.tup (xs ++ ys))) (fun b ob q => Heap.get?_push_of_some _ q) (Nat.le_refl _) ?_, rfl, q2 hx (fun w => z (r2.nil_iff.mpr w)) _ _ (I.hok.fresh (Nat.le_refl _)) rfl rfl⟩
    exact ⟨hg, by rw [List.length_append]; exact hz, _, r1.append r2, ⟨_, hg, rfl, _, rfl⟩⟩
def rSlN (K : PySem.W.Frag) : V → Option Int → Option Int → Hp → VK → Prop := fun x lo hi H Q => ∃ a xs, x = .ref a ∧ SqT K H a xs ∧
  (HT.sIx xs.length 0 lo = 0 ∧ HT.sIx xs.length xs.length hi = xs.length → Q (.ref a) H) ∧ (¬ (HT.sIx xs.length 0 lo = 0 ∧ HT.sIx xs.length xs.length hi = xs.length) → NwT H Q (cutV xs lo hi))
theorem sl_tupN : SlR X (rSlN X.K) := by
  intro pins s σ H x v vl vu lo hi sl Q I rx hs pl pu h
  obtain ⟨a, xs, rfl, hx, q1, q2⟩ := h
  cases rx
  obtain ⟨its, r, ht, hz⟩ := I.tuple hx
  have hlen : its.toArray.size = xs.length := by rw [List.size_toArray]; exact r.length.symm
  by_cases hw : HT.sIx xs.length 0 lo = 0 ∧ HT.sIx xs.length xs.length hi = xs.length
  · refine ⟨"tuple", _, PyProof.Rows.slot_tuple_getitem.lookup, ht.typeIs, ?_⟩
    exact getItem_tuple_whole ht hs pl pu (by rw [hlen]; exact hw) ⟨.ref a, H, I, rfl, q1 hw⟩
  · refine ⟨"tuple", _, PyProof.Rows.slot_tuple_getitem.lookup, ht.typeIs, ?_⟩
    refine HT.getItem_tuple_cut ht hs pl pu (by rw [hlen]; exact hw) ?_ (by rw [hlen]; exact hz)
    rw [hlen]
    have hg := Heap.get?_push_size (h := s.heap) (o := ({ cls := .type "tuple", data := .seq ((its.drop (HT.sIx xs.length 0 lo)).take (HT.sIx xs.length xs.length hi - HT.sIx xs.length 0 lo)).toArray } : Obj)) rfl
    refine ⟨.ref s.heap.objs.size, _, I.laid (t' := s.toks) (o := .frz { cls := .type "tuple", data := .seq ((its.drop (HT.sIx xs.length 0 lo)).take (HT.sIx xs.length xs.length hi - HT.sIx xs.length 0 lo)).toArray } (.tup (cutV xs lo hi))) (fun b ob q => Heap.get?_push_of_some _ q) (Nat.le_refl _) ?_, rfl, q2 hw _ _ (I.hok.fresh (Nat.le_refl _)) rfl rfl⟩
    exact ⟨hg, Nat.le_trans (cutV_length xs lo hi) hz, _, (r.drop (HT.sIx xs.length 0 lo)).take (HT.sIx xs.length xs.length hi - HT.sIx xs.length 0 lo), ⟨_, hg, rfl, _, rfl⟩⟩
theorem call_tupleN : CallR X (.type "tuple") (fun xs H Q => ∃ p ys, xs = [.ref p] ∧ ((SqL X.K H p ys ∧ NwT H Q ys) ∨ (SqT X.K H p ys ∧ Q (.ref p) H))) := by
  intro pins s σ H xs us Q I r h
  obtain ⟨p, ys, rfl, h⟩ := h
  obtain ⟨u, rfl, rx⟩ := vals1 r
  cases rx
  rcases h with ⟨hq, q⟩ | ⟨hq, q⟩
  · obtain ⟨its, r', pl, hz⟩ := I.list hq
    have hlen := r'.length
    refine call_tuple_list pl.isList (fun h' kp => ?_) (by simp only [List.size_toArray] <;> omega)
    have I1 : Inv X pins σ H { s with heap := h' } := I.kept (t' := s.toks) kp
    have hg := Heap.get?_push_size (h := h') (o := ({ cls := .type "tuple", data := .seq its.toArray } : Obj)) rfl
    have I2 : Inv X pins σ (upd H h'.objs.size (.frz { cls := .type "tuple", data := .seq its.toArray } (.tup ys))) { s with heap := h'.push { cls := .type "tuple", data := .seq its.toArray } } :=
      I1.laid (t' := s.toks) (fun b o e => Heap.get?_push_of_some _ e) (Nat.le_refl _) (show ObjOk X.prog X.w _ _ _ (.frz _ (.tup ys)) from ⟨hg, hz, its, r', ⟨_, hg, rfl, _, rfl⟩⟩)
    exact ⟨.ref h'.objs.size, _, I2, rfl, q _ _ (I1.hok.fresh (Nat.le_refl _)) rfl rfl⟩
  · obtain ⟨its, r', pl, hz⟩ := I.tuple hq
    exact call_tuple_same pl ⟨.ref p, H, I, rfl, q⟩
/-- t.index(i), the first place, of numbers -/
theorem mt_tup_indexI : MtR X "tuple.index" (fun x xs H Q => ∃ p, ∃ ys : List Int, ∃ z j, x = .ref p ∧ xs = [.int z] ∧ SqT X.K H p (ys.map V.int) ∧ ys[j]? = some z ∧ (∀ m, m < j → ys[m]? ≠ some z) ∧ Q (.int (j : Nat)) H) := by
  intro pins s σ H x xs v us Q I rx rs h
  obtain ⟨p, ys, z, j, rfl, rfl, hq, hy, hno, q⟩ := h
  cases rx
  obtain ⟨u, rfl, t, rfl⟩ := vals1 rs
  obtain ⟨its, r, pl, hz⟩ := I.tuple hq
  obtain ⟨⟨cls, dd, dt, sl⟩, ho, hc, n, hd⟩ := pl
  simp only at hc hd
  subst hc
  subst hd
  have hl : its.toArray.size = ys.length := by rw [List.size_toArray, ← r.length, List.length_map]
  have hj : j < its.toArray.size := by rw [hl]; exact (List.getElem?_eq_some_iff.mp hy).1
  have at' : ∀ (m : Nat) (hm : m < its.toArray.size), ∃ y t', ys[m]? = some y ∧ its.toArray[m] = Value.int y t' := fun m hm => by
    have hm' : m < ys.length := by rw [← hl]; exact hm
    obtain ⟨w, hw, t', hw'⟩ := r.get (i := m) (x := .int ys[m]) (by simp [hm'])
    refine ⟨ys[m], t', List.getElem?_eq_getElem hm', ?_⟩
    have e := (List.getElem?_eq_some_iff.mp hw).2
    rw [← hw', ← e]
    simp
  have fl : (ys.map V.int).all flatV = true := by
    rw [List.all_map]
    exact List.all_eq_true.mpr fun _ _ => rfl
  refine call_meets PySem.F.slot_tuple_index ⟨_, ho, rfl⟩ PySem.F.entry_tuple_index (PySem.F.args_tuple_index_2 _ _) (TI.tuple_indexAt p its.toArray n dd sl (.int z t) (eqU (.int z)) j hj ?_ ?_)
    ⟨ho, fun w hw => mem_eqAt (x := .int z) ⟨t, rfl⟩ rfl r fl w (by simpa using hw), ⟨.int (j : Nat), H, I.tok _, ⟨_, rfl⟩, q⟩⟩
  · obtain ⟨y, t', h1, h2⟩ := at' j hj
    rw [hy] at h1
    cases h1
    rw [h2]
    show (z == z) = true
    exact beq_self_eq_true z
  · intro m hm hmj
    obtain ⟨y, t', h1, h2⟩ := at' m hm
    rw [h2]
    show (y == z) = false
    exact beq_eq_false_iff_ne.mpr fun e => hno m hmj (e ▸ h1)
/-! ### data as deep as a thousand -/
def shp (d : PyData) : Bool := d.canLay0 && decide (d.depth ≤ 3000)
theorem canLay_of_shp {d : PyData} (h : shp d = true) : d.canLay0 = true := (Bool.and_eq_true_iff.mp h).1
theorem depth_of_shp {d : PyData} (h : shp d = true) : d.depth ≤ 3000 := of_decide_eq_true (Bool.and_eq_true_iff.mp h).2
theorem room_of_shp {A : Around} {da db : PyData} (h : shp da = true) (hu : A.units + 3010 < cLine) : A.units + min da.depth db.depth < cLine := by
  have h1 := depth_of_shp h
  have h2 : min da.depth db.depth ≤ da.depth := Nat.min_le_left _ _
  omega
theorem room_in_shp {A : Around} {xs : List PyData} {d : PyData} (hd : shp d = true) (hu : A.units + 3010 < cLine) : A.units + 1 + min (PyData.depthAll xs) d.depth < cLine := by
  have h1 := depth_of_shp hd
  have h2 : min (PyData.depthAll xs) d.depth ≤ d.depth := Nat.min_le_right _ _
  omega
def rEqP (K : PySem.W.Frag) : R2 := fun x y H Q => ∃ d e, Dp K H x d ∧ Dp K H y e ∧ shp d = true ∧ shp e = true ∧ Q (.bl (PyData.eqv d e)) H
def rNeP (K : PySem.W.Frag) : R2 := fun x y H Q => ∃ d e, Dp K H x d ∧ Dp K H y e ∧ shp d = true ∧ shp e = true ∧ Q (.bl (!PyData.eqv d e)) H
def rInP (K : PySem.W.Frag) : R2 := fun x y H Q => ∃ d ds, Dp K H x d ∧ Dp K H y (.list ds) ∧ shp d = true ∧ shp (.list ds) = true ∧ Q (.bl (ds.any fun z => PyData.eqv z d)) H
def rNotInP (K : PySem.W.Frag) : R2 := fun x y H Q => ∃ d ds, Dp K H x d ∧ Dp K H y (.list ds) ∧ shp d = true ∧ shp (.list ds) = true ∧ Q (.bl (!ds.any fun z => PyData.eqv z d)) H
theorem op_eqP (hu : X.A.units + 3010 < cLine) : OpR X (compareOp .Eq) (rEqP X.K) := by
  intro pins s σ H x y v u Q I rx ry h
  obtain ⟨d, e, hd, he, sd, se, q⟩ := h
  obtain ⟨as, r1⟩ := Dp.reads I d x v hd rx
  obtain ⟨bs, r2⟩ := Dp.reads I e y u he ry
  exact SeqAt.compareEq_reads r1 r2 (canLay_of_shp sd) (canLay_of_shp se) (room_of_shp sd hu) ⟨.bl _, H, I, rfl, q⟩
theorem op_neP (hu : X.A.units + 3010 < cLine) : OpR X (compareOp .NotEq) (rNeP X.K) := by
  intro pins s σ H x y v u Q I rx ry h
  obtain ⟨d, e, hd, he, sd, se, q⟩ := h
  obtain ⟨as, r1⟩ := Dp.reads I d x v hd rx
  obtain ⟨bs, r2⟩ := Dp.reads I e y u he ry
  exact SeqAt.compareNe_reads r1 r2 (canLay_of_shp sd) (canLay_of_shp se) (room_of_shp sd hu) ⟨.bl _, H, I, rfl, q⟩
theorem op_inP (hu : X.A.units + 3010 < cLine) : OpR X (compareOp .In) (rInP X.K) := by
  intro pins s σ H x y v u Q I rx ry h
  obtain ⟨d, ds, hd, he, sd, se, q⟩ := h
  obtain ⟨as, r1⟩ := Dp.reads I d x v hd rx
  obtain ⟨bs, r2⟩ := Dp.reads I (.list ds) y u he ry
  exact SeqAt.in_list_reads r2 r1 (canLay_of_shp se) (canLay_of_shp sd) (room_in_shp sd hu) ⟨.bl _, H, I, rfl, q⟩
theorem op_notInP (hu : X.A.units + 3010 < cLine) : OpR X (compareOp .NotIn) (rNotInP X.K) := by
  intro pins s σ H x y v u Q I rx ry h
  obtain ⟨d, ds, hd, he, sd, se, q⟩ := h
  obtain ⟨as, r1⟩ := Dp.reads I d x v hd rx
  obtain ⟨bs, r2⟩ := Dp.reads I (.list ds) y u he ry
  exact SeqAt.notIn_list_reads r2 r1 (canLay_of_shp se) (canLay_of_shp sd) (room_in_shp sd hu) ⟨.bl _, H, I, rfl, q⟩
/-! ### the order of data -/
def isNonP : PyData → Bool
  | .none => true
  | _ => false
def cmpOk (p q : PyData) : Bool := PySem.W.alike p q && !isNonP p && decide (p.depth ≤ 3000)
def rOrd (b : PyData → PyData → Bool) (K : PySem.W.Frag) : R2 := fun x y H Q => ∃ d e, Dp K H x d ∧ Dp K H y e ∧ cmpOk d e = true ∧ Q (.bl (b d e)) H
theorem cmpOk_of {d e : PyData} (h : cmpOk d e = true) : PySem.W.alike d e = true ∧ d ≠ .none ∧ d.depth ≤ 3000 := by
  unfold cmpOk at h
  simp only [Bool.and_eq_true, Bool.not_eq_true', decide_eq_true_eq] at h
  exact ⟨h.1.1, fun z => by rw [z] at h; simp [isNonP] at h, h.2⟩
theorem room_of_dep {A : Around} {da db : PyData} (h : da.depth ≤ 3000) (hu : A.units + 3010 < cLine) : A.units + min da.depth db.depth < cLine := by
  have h2 : min da.depth db.depth ≤ da.depth := Nat.min_le_left _ _
  omega
theorem op_ltO (hu : X.A.units + 3010 < cLine) : OpR X (compareOp .Lt) (rOrd (fun d e => PySem.W.dataLt d e) X.K) := by
  intro pins s σ H x y v u Q I rx ry ⟨d, e, hd, he, ok, q⟩
  obtain ⟨as, r1⟩ := Dp.reads I d x v hd rx
  obtain ⟨bs, r2⟩ := Dp.reads I e y u he ry
  obtain ⟨h1, h2, h3⟩ := cmpOk_of ok
  exact PySem.W.lt_data r1 r2 h1 h2 (room_of_dep h3 hu) ⟨.bl _, H, I, rfl, q⟩
theorem op_gtO (hu : X.A.units + 3010 < cLine) : OpR X (compareOp .Gt) (rOrd (fun d e => PySem.W.dataLt e d) X.K) := by
  intro pins s σ H x y v u Q I rx ry ⟨d, e, hd, he, ok, q⟩
  obtain ⟨as, r1⟩ := Dp.reads I d x v hd rx
  obtain ⟨bs, r2⟩ := Dp.reads I e y u he ry
  obtain ⟨h1, h2, h3⟩ := cmpOk_of ok
  exact PySem.W.gt_data r1 r2 h1 h2 (room_of_dep h3 hu) ⟨.bl _, H, I, rfl, q⟩
theorem op_leO (hu : X.A.units + 3010 < cLine) : OpR X (compareOp .LtE) (rOrd (fun d e => !PySem.W.dataLt e d) X.K) := by
  intro pins s σ H x y v u Q I rx ry ⟨d, e, hd, he, ok, q⟩
  obtain ⟨as, r1⟩ := Dp.reads I d x v hd rx
  obtain ⟨bs, r2⟩ := Dp.reads I e y u he ry
  obtain ⟨h1, h2, h3⟩ := cmpOk_of ok
  exact PySem.W.le_data r1 r2 h1 h2 (room_of_dep h3 hu) ⟨.bl _, H, I, rfl, q⟩
theorem op_geO (hu : X.A.units + 3010 < cLine) : OpR X (compareOp .GtE) (rOrd (fun d e => !PySem.W.dataLt d e) X.K) := by
  intro pins s σ H x y v u Q I rx ry ⟨d, e, hd, he, ok, q⟩
  obtain ⟨as, r1⟩ := Dp.reads I d x v hd rx
  obtain ⟨bs, r2⟩ := Dp.reads I e y u he ry
  obtain ⟨h1, h2, h3⟩ := cmpOk_of ok
  exact PySem.W.ge_data r1 r2 h1 h2 (room_of_dep h3 hu) ⟨.bl _, H, I, rfl, q⟩
/-- l.index(x): the first place of an equal one -/
def rIndexP (K : PySem.W.Frag) : V → List V → Hp → VK → Prop := fun x xs H Q => ∃ (a : Addr) (y : V) (d : PyData) (ds : List PyData) (j : Nat) (z : PyData), x = V.ref a ∧ xs = [y] ∧ Dp K H (V.ref a) (.list ds) ∧ Dp K H y d ∧
  shp (.list ds) = true ∧ shp d = true ∧ ds[j]? = some z ∧ PyData.eqv z d = true ∧ (∀ (m : Nat) (z' : PyData), m < j → ds[m]? = some z' → PyData.eqv z' d = false) ∧ Q (.int (j : Nat)) H
theorem mt_indexP (hu : X.A.units + 3010 < cLine) : MtR X "list.index" (rIndexP X.K) := by
  intro pins s σ H x xs v us Q I rx rxs h
  obtain ⟨a, y, d, ds, j, z, rfl, rfl, hl, hy, sl, sd, hz, hzj, hno, q⟩ := h
  cases rx
  cases rxs with
  | cons ry rt =>
    rename_i uy ut
    cases rt
    obtain ⟨bs, r1⟩ := Dp.reads I d y uy hy ry
    have hxs : PyData.canLayAll0 ds = true := canLay_of_shp sl
    have hroom : X.A.units + 1 + min (PyData.depthAll ds) d.depth < cLine := room_in_shp sd hu
    cases hl with
    | lst hs ha =>
      obtain ⟨its, rv, ⟨⟨cls, dd, data, sls⟩, n, ho, hc, hdn, hdt⟩, hlen⟩ := I.list hs
      simp only at hc hdt
      subst hc hdt
      obtain ⟨as, h4⟩ := Dp.readsAll I ds _ its ha rv
      have hn : its.length = ds.length := SeqAt.ReadsAll.length ds its as h4
      have hmap : its.map (SeqAt.readOf s.heap) = ds := SeqAt.readsAll_map ds its as hxs h4
      have hvl := rv.length
      have hsl := sizeLine_eq
      obtain ⟨hjd, _⟩ := List.getElem?_eq_some_iff.mp hz
      have hjl : j < its.length := by omega
      have hj : j < its.toArray.size := by simpa using hjl
      have at_ : ∀ (m : Nat) (hm : m < its.toArray.size) (z' : PyData), ds[m]? = some z' → SeqAt.readOf s.heap its.toArray[m] = z' := by
        intro m hm z' hz'
        have hml : m < its.length := by simpa using hm
        rw [← hmap, List.getElem?_map, List.getElem?_eq_getElem hml] at hz'
        have e1 : SeqAt.readOf s.heap its[m] = z' := Option.some.inj (show some (SeqAt.readOf s.heap its[m]) = some z' from hz')
        simpa using e1
      refine call_meets PySem.F.slot_list_index ⟨_, ho, rfl⟩ PySem.F.entry_list_index (PySem.F.args_list_index_2 _ _)
        (SeqAt.list_indexAt a its.toArray n dd sls uy (fun u => PyData.eqv (SeqAt.readOf s.heap u) d) j hj (by omega) ?_ ?_) ⟨ho, SeqAt.items_eqAt (vs := its.toArray) (show ReadsAll s.heap its.toArray.toList ds as from h4) r1 hxs (canLay_of_shp sd) hroom, ?_⟩
      · show PyData.eqv (SeqAt.readOf s.heap its.toArray[j]) d = true
        rw [at_ j hj z hz]
        exact hzj
      · intro m hm hmj
        have hmd : m < ds.length := by omega
        have hz' : ds[m]? = some ds[m] := List.getElem?_eq_getElem hmd
        show PyData.eqv (SeqAt.readOf s.heap its.toArray[m]) d = false
        rw [at_ m hm _ hz']
        exact hno m _ hmj hz'
      · exact ⟨.int (j : Nat), H, I.tok _, ⟨_, rfl⟩, q⟩
/-- t.index(x), of data -/
def rIndexT (K : PySem.W.Frag) : V → List V → Hp → VK → Prop := fun x xs H Q => ∃ (a : Addr) (y : V) (d : PyData) (ds : List PyData) (j : Nat) (z : PyData), x = V.ref a ∧ xs = [y] ∧ Dp K H (V.ref a) (.tuple ds) ∧ Dp K H y d ∧
  shp (.list ds) = true ∧ shp d = true ∧ ds[j]? = some z ∧ PyData.eqv z d = true ∧ (∀ (m : Nat) (z' : PyData), m < j → ds[m]? = some z' → PyData.eqv z' d = false) ∧ Q (.int (j : Nat)) H
theorem mt_indexT (hu : X.A.units + 3010 < cLine) : MtR X "tuple.index" (rIndexT X.K) := by
  intro pins s σ H x xs v us Q I rx rxs h
  obtain ⟨a, y, d, ds, j, z, rfl, rfl, hl, hy, sl, sd, hz, hzj, hno, q⟩ := h
  cases rx
  cases rxs with
  | cons ry rt =>
    rename_i uy ut
    cases rt
    obtain ⟨bs, r1⟩ := Dp.reads I d y uy hy ry
    have hxs : PyData.canLayAll0 ds = true := canLay_of_shp sl
    have hroom : X.A.units + 1 + min (PyData.depthAll ds) d.depth < cLine := room_in_shp sd hu
    cases hl with
    | tup hs ha =>
      obtain ⟨its, rv, ⟨⟨cls, dd, data, sls⟩, ho, hc, n, hdt⟩, hlen⟩ := I.tuple hs
      simp only at hc hdt
      subst hc hdt
      obtain ⟨as, h4⟩ := Dp.readsAll I ds _ its ha rv
      have hn : its.length = ds.length := SeqAt.ReadsAll.length ds its as h4
      have hmap : its.map (SeqAt.readOf s.heap) = ds := SeqAt.readsAll_map ds its as hxs h4
      have hvl := rv.length
      obtain ⟨hjd, _⟩ := List.getElem?_eq_some_iff.mp hz
      have hjl : j < its.length := by omega
      have hj : j < its.toArray.size := by simpa using hjl
      have at_ : ∀ (m : Nat) (hm : m < its.toArray.size) (z' : PyData), ds[m]? = some z' → SeqAt.readOf s.heap its.toArray[m] = z' := by
        intro m hm z' hz'
        have hml : m < its.length := by simpa using hm
        rw [← hmap, List.getElem?_map, List.getElem?_eq_getElem hml] at hz'
        have e1 : SeqAt.readOf s.heap its[m] = z' := Option.some.inj (show some (SeqAt.readOf s.heap its[m]) = some z' from hz')
        simpa using e1
      refine call_meets PySem.F.slot_tuple_index ⟨_, ho, rfl⟩ PySem.F.entry_tuple_index (PySem.F.args_tuple_index_2 _ _)
        (TI.tuple_indexAt a its.toArray n dd sls uy (fun u => PyData.eqv (SeqAt.readOf s.heap u) d) j hj ?_ ?_) ⟨ho, SeqAt.items_eqAt (vs := its.toArray) (show ReadsAll s.heap its.toArray.toList ds as from h4) r1 hxs (canLay_of_shp sd) hroom, ?_⟩
      · show PyData.eqv (SeqAt.readOf s.heap its.toArray[j]) d = true
        rw [at_ j hj z hz]
        exact hzj
      · intro m hm hmj
        have hmd : m < ds.length := by omega
        have hz' : ds[m]? = some ds[m] := List.getElem?_eq_getElem hmd
        show PyData.eqv (SeqAt.readOf s.heap its.toArray[m]) d = false
        rw [at_ m hm _ hz']
        exact hno m _ hmj hz'
      · exact ⟨.int (j : Nat), H, I.tok _, ⟨_, rfl⟩, q⟩
def rIdxI (K : PySem.W.Frag) : V → List V → Hp → VK → Prop := fun x xs H Q => ∃ p, ∃ ys : List Int, ∃ z j, x = .ref p ∧ xs = [.int z] ∧ SqT K H p (ys.map V.int) ∧ ys[j]? = some z ∧ (∀ m, m < j → ys[m]? ≠ some z) ∧ Q (.int (j : Nat)) H
theorem mt_indexTI (hu : X.A.units + 3010 < cLine) : MtR X "tuple.index" (fun x xs H Q => rIdxI X.K x xs H Q ∨ rIndexT X.K x xs H Q) := by
  intro pins s σ H x xs v us Q I rx rxs h
  rcases h with h | h
  · exact mt_tup_indexI pins s σ H x xs v us Q I rx rxs h
  · exact mt_indexT hu pins s σ H x xs v us Q I rx rxs h
theorem sqn_is {pins : List (Addr × Obj)} {σ : L2.St} {H : Hp} {s : Shared} {p : Addr} {xs : List V} (I : Inv X pins σ H s) (h : SqN X.K H p xs) :
    s.TypeIs (.ref p) "tuple" ∧ ∀ a, Value.ref p = .ref a → ∃ ob, s.heap.get? a = some ob ∧ ob.dict = none := by
  rcases h with ⟨o, h, h1, h2⟩ | ⟨o, its, n, h, h1, h2, _⟩
  · obtain ⟨e, _⟩ := I.hok p _ h
    refine ⟨⟨o, e, h1⟩, fun a ea => ?_⟩
    cases ea
    exact ⟨o, e, h2⟩
  · refine ⟨⟨o, I.kIn p o h, h1⟩, fun a e => ?_⟩
    cases e
    exact ⟨o, I.kIn _ o h, h2⟩
section
variable {o e : Expr} {to : TE} {name : Str} {apos cpos : Pos} {id : String} {r : V → List V → Hp → VK → Prop}
def tTM (K : PySem.W.Frag) (r : V → List V → Hp → VK → Prop) (to : TE) (t : TA) : TE := fun σ H Q => to σ H fun x H1 => (∃ p xs, x = .ref p ∧ SqN K H1 p xs) ∧ t σ H1 fun xs H2 => r x xs H2 Q
/-- a method of a tuple -/
theorem pe_tm (slot : Slot "tuple" name id) (hty : typeOf (.builtin id) = pure (.type "method_descriptor")) (hm : MtR X id r) (ho : PE X o to) (ha : PA X (e :: es) t)
    (hbase : attributeBase o name X.env (eval o X.env) = eval o X.env := by rfl)
    (hfew : ((backTo cpos (starEach (e :: es) X.env)).all (fun x => !x.1) && (backToKw cpos (keywordEach [] X.env)).all (fun x => x.1.isSome)
      && decide ((e :: es).length + ([] : List Keyword).length + (if ([] : List Keyword).isEmpty then 0 else 1) < 30)) = true := by rfl)
    (hline : (apos.endLine == cpos.line) = true := by rfl) (hs : starEach (e :: es) X.env = (false, eval e X.env) :: starEach es X.env := by rfl) (hplain : (backTo cpos (starEach es X.env)).any (·.1) = false := by rfl) :
    PE X (.Call (.Attribute o name apos) (e :: es) [] cpos) (tTM X.K r to t) := by
  refine ⟨fun pins s σ H Q I h => ?_⟩
  refine wpAny_Call_method_late hbase hfew hline rfl (thn (ho.run pins s σ H _ I h) fun v s1 ⟨x, H1, I1, r1, ⟨p, xs, ex, ty⟩, q1⟩ => ?_)
  subst ex
  cases r1
  obtain ⟨h1, h2⟩ := sqn_is I1 ty
  refine ⟨"tuple", id, PySem.F.plainAttrs_tuple, slot, hty, h1, h2, ?_⟩
  have hA := ha.run cpos pins s1 σ H1 _ I1 q1
  rw [hs] at hA ⊢
  refine Calls.callWith_builtin (by show (false || (backTo cpos (starEach es X.env)).any (·.1)) = false; rw [hplain] <;> rfl) (Calls.evalArgs_plain ?_)
  exact thn hA fun us s2 ⟨vs, H2, I2, r2, q2⟩ => hm pins s2 σ H2 (.ref p) vs (.ref p) us Q I2 rfl r2 q2
def tTL (K : PySem.W.Frag) (r1 r2 : V → List V → Hp → VK → Prop) (to : TE) (t : TA) : TE := fun σ H Q => to σ H fun x H1 => ((∃ p xs, x = .ref p ∧ SqN K H1 p xs) ∧ t σ H1 fun xs H2 => r1 x xs H2 Q) ∨ (tyV K "list" x H1 ∧ t σ H1 fun xs H2 => r2 x xs H2 Q)
/-- a method of a tuple or of a list -/
theorem pe_tl {id2 : String} {r2 : V → List V → Hp → VK → Prop} (slot : Slot "tuple" name id) (hty : typeOf (.builtin id) = pure (.type "method_descriptor")) (hm : MtR X id r) (slot2 : Slot "list" name id2) (hty2 : typeOf (.builtin id2) = pure (.type "method_descriptor")) (hm2 : MtR X id2 r2) (ho : PE X o to) (ha : PA X (e :: es) t)
    (hbase : attributeBase o name X.env (eval o X.env) = eval o X.env := by rfl)
    (hfew : ((backTo cpos (starEach (e :: es) X.env)).all (fun x => !x.1) && (backToKw cpos (keywordEach [] X.env)).all (fun x => x.1.isSome)
      && decide ((e :: es).length + ([] : List Keyword).length + (if ([] : List Keyword).isEmpty then 0 else 1) < 30)) = true := by rfl)
    (hline : (apos.endLine == cpos.line) = true := by rfl) (hs : starEach (e :: es) X.env = (false, eval e X.env) :: starEach es X.env := by rfl) (hplain : (backTo cpos (starEach es X.env)).any (·.1) = false := by rfl) :
    PE X (.Call (.Attribute o name apos) (e :: es) [] cpos) (tTL X.K r r2 to t) := by
  refine ⟨fun pins s σ H Q I h => ?_⟩
  refine wpAny_Call_method_late hbase hfew hline rfl (thn (ho.run pins s σ H _ I h) fun v s1 ⟨x, H1, I1, r1, q0⟩ => ?_)
  rcases q0 with ⟨⟨p, xs, ex, ty⟩, q1⟩ | ⟨ty, q1⟩
  · subst ex
    cases r1
    obtain ⟨h1, h2⟩ := sqn_is I1 ty
    refine ⟨"tuple", id, PySem.F.plainAttrs_tuple, slot, hty, h1, h2, ?_⟩
    have hA := ha.run cpos pins s1 σ H1 _ I1 q1
    rw [hs] at hA ⊢
    refine Calls.callWith_builtin (by show (false || (backTo cpos (starEach es X.env)).any (·.1)) = false; rw [hplain] <;> rfl) (Calls.evalArgs_plain ?_)
    exact thn hA fun us s2 ⟨vs, H2, I2, r2, q2⟩ => hm pins s2 σ H2 (.ref p) vs (.ref p) us Q I2 rfl r2 q2
  · obtain ⟨h1, h2⟩ := tyV_is I1 r1 ty
    refine ⟨"list", id2, PySem.F.plainAttrs_list, slot2, hty2, h1, h2, ?_⟩
    have hA := ha.run cpos pins s1 σ H1 _ I1 q1
    rw [hs] at hA ⊢
    refine Calls.callWith_builtin (by show (false || (backTo cpos (starEach es X.env)).any (·.1)) = false; rw [hplain] <;> rfl) (Calls.evalArgs_plain ?_)
    exact thn hA fun us s2 ⟨vs, H2, I2, rr, q2⟩ => hm2 pins s2 σ H2 x vs v us Q I2 r1 rr q2
end
end
end PQ

/-! A small language of pure data and stores, and what it says of the machine. -/
namespace PQ
open PySem PySem.Spec PyProof.Rows L2

/-- data: what a Python value is worth, tuples by their items, changeable lists by a number in the store -/
inductive D where
  | non
  | bl (b : Bool)
  | int (i : Int)
  | str (x : Str)
  | tup (ds : List D)
  | ref (i : Nat)
  | fix (ds : List D)
/-- what stands in the store -/
inductive Ob where
  | lst (ds : List D)
  | dic (kvs : List (Key × D))
  /-- a dict that stands still while it is walked -/
  | frd (kvs : List (Key × D))
abbrev Sto := List Ob
abbrev En := List (Option D)
abbrev Fg := PySem.W.Frag

/-- a list that nobody changes -/
def Fix (K : Fg) (H : Hp) (a : Addr) (xs : List V) : Prop :=
  (∃ o, H a = some (.frz o (.lst xs))) ∨
    ∃ (o : Obj) (its : Array Value) (n : Nat), K.lookup a = some o ∧ o.cls = .type "list" ∧ o.dict = none ∧ o.data = .seq its n ∧ its.size ≤ sizeLine ∧ Vals xs its.toList
theorem Fix.sq {K : Fg} {H : Hp} {a : Addr} {xs : List V} (h : Fix K H a xs) : SqL K H a xs := by
  rcases h with ⟨o, h⟩ | h
  · exact .inl (.inr ⟨o, h⟩)
  · exact .inr h

mutual
def Rp (K : Fg) (μ : List Addr) (H : Hp) : D → V → Prop
  | .non, v => v = .non
  | .bl b, v => v = .bl b
  | .int i, v => v = .int i
  | .str x, v => v = .str x
  | .tup ds, v => ∃ a vs, v = .ref a ∧ SqN K H a vs ∧ RpA K μ H ds vs ∧ ds.length ≤ sizeLine
  | .ref i, v => ∃ a, v = .ref a ∧ μ[i]? = some a
  | .fix ds, v => ∃ a vs, v = .ref a ∧ Fix K H a vs ∧ RpA K μ H ds vs ∧ ds.length ≤ sizeLine
def RpA (K : Fg) (μ : List Addr) (H : Hp) : List D → List V → Prop
  | [], vs => vs = []
  | d :: ds, vs => ∃ v r, vs = v :: r ∧ Rp K μ H d v ∧ RpA K μ H ds r
end

section
variable {K : Fg} {μ μ' μ1 μ2 : List Addr} {H H' H1 H2 : Hp} {S S' : Sto} {σ σ' : L2.St} {ρ : En}

/-- what a run may do to the machine: new things, and changes at the store's own addresses -/
structure Ext (K : Fg) (μ : List Addr) (H : Hp) (μ' : List Addr) (H' : Hp) : Prop where
  pre : ∃ l, μ' = μ ++ l ∧ ∀ a ∈ l, H a = none
  alive : ∀ a, H' a = none → H a = none
  fr : ∀ a o, H a = some o → a ∉ μ → H' a = some o
  tup : ∀ a xs, SqN K H a xs → SqN K H' a xs
  fix : ∀ a xs, Fix K H a xs → Fix K H' a xs
  frd : ∀ a o vs, H a = some (.frz o (.dK vs)) → H' a = some (.frz o (.dK vs))
theorem Ext.refl : Ext K μ H μ H := ⟨⟨[], by simp, fun a h => nomatch h⟩, fun _ h => h, fun _ _ h _ => h, fun _ _ h => h, fun _ _ h => h, fun _ _ _ h => h⟩
theorem Ext.trans (a : Ext K μ H μ1 H1) (b : Ext K μ1 H1 μ2 H2) : Ext K μ H μ2 H2 := by
  obtain ⟨l, e, n⟩ := a.pre
  obtain ⟨l', e', n'⟩ := b.pre
  refine ⟨⟨l ++ l', by rw [e', e, List.append_assoc], fun c hc => ?_⟩, fun c h => a.alive c (b.alive c h), fun c o h hc => ?_, fun c xs h => b.tup c xs (a.tup c xs h), fun c xs h => b.fix c xs (a.fix c xs h), fun c o vs h => b.frd c o vs (a.frd c o vs h)⟩
  · rcases List.mem_append.mp hc with h | h
    · exact n c h
    · exact a.alive c (n' c h)
  · refine b.fr c o (a.fr c o h hc) fun hm => ?_
    rw [e] at hm
    rcases List.mem_append.mp hm with hm | hm
    · exact hc hm
    · rw [n c hm] at h; cases h
theorem Ext.get (e : Ext K μ H μ' H') {i : Nat} {a : Addr} (h : μ[i]? = some a) : μ'[i]? = some a := by
  obtain ⟨l, rfl, _⟩ := e.pre
  rw [List.getElem?_append_left (List.getElem?_eq_some_iff.mp h).1]
  exact h
theorem Ext.len (e : Ext K μ H μ' H') : μ.length ≤ μ'.length := by
  obtain ⟨l, rfl, _⟩ := e.pre
  rw [List.length_append]
  omega

/-- what is represented stays represented -/
structure Le (K : Fg) (μ : List Addr) (H : Hp) (μ' : List Addr) (H' : Hp) : Prop where
  get : ∀ (i : Nat) a, μ[i]? = some a → μ'[i]? = some a
  tup : ∀ a xs, SqN K H a xs → SqN K H' a xs
  fix : ∀ a xs, Fix K H a xs → Fix K H' a xs
theorem Ext.le (e : Ext K μ H μ' H') : Le K μ H μ' H' := ⟨fun _ _ h => e.get h, e.tup, e.fix⟩
theorem Le.more (l : List Addr) : Le K μ H (μ ++ l) H := ⟨fun i a h => by
  rw [List.getElem?_append_left (List.getElem?_eq_some_iff.mp h).1]
  exact h, fun _ _ h => h, fun _ _ h => h⟩
mutual
theorem Rp.le (e : Le K μ H μ' H') : ∀ (d : D) (v : V), Rp K μ H d v → Rp K μ' H' d v
  | .non, _, h => h
  | .bl _, _, h => h
  | .int _, _, h => h
  | .str _, _, h => h
  | .tup ds, _, ⟨a, vs, h1, h2, h3, h4⟩ => ⟨a, vs, h1, e.tup _ _ h2, RpA.le e ds vs h3, h4⟩
  | .ref _, _, ⟨a, h1, h2⟩ => ⟨a, h1, e.get _ _ h2⟩
  | .fix ds, _, ⟨a, vs, h1, h2, h3, h4⟩ => ⟨a, vs, h1, e.fix _ _ h2, RpA.le e ds vs h3, h4⟩
theorem RpA.le (e : Le K μ H μ' H') : ∀ (ds : List D) (vs : List V), RpA K μ H ds vs → RpA K μ' H' ds vs
  | [], _, h => h
  | d :: ds, _, ⟨v, r, h1, h2, h3⟩ => ⟨v, r, h1, Rp.le e d v h2, RpA.le e ds r h3⟩
end
theorem Rp.mono (e : Ext K μ H μ' H') {d : D} {v : V} (h : Rp K μ H d v) : Rp K μ' H' d v := Rp.le e.le d v h
theorem RpA.mono (e : Ext K μ H μ' H') {ds : List D} {vs : List V} (h : RpA K μ H ds vs) : RpA K μ' H' ds vs := RpA.le e.le ds vs h
theorem RpA.nil : RpA K μ H [] [] := rfl
theorem RpA.cons {d : D} {v : V} {ds : List D} {vs : List V} (h : Rp K μ H d v) (t : RpA K μ H ds vs) : RpA K μ H (d :: ds) (v :: vs) := ⟨v, vs, rfl, h, t⟩
theorem RpA.length : ∀ {ds : List D} {vs : List V}, RpA K μ H ds vs → ds.length = vs.length
  | [], _, h => by rw [h]; rfl
  | _ :: ds, _, ⟨v, r, h1, _, h3⟩ => by rw [h1, List.length_cons, List.length_cons, RpA.length h3]
theorem RpA.get : ∀ {ds : List D} {vs : List V} {i : Nat} {d : D}, RpA K μ H ds vs → ds[i]? = some d → ∃ v, vs[i]? = some v ∧ Rp K μ H d v
  | d :: ds, _, 0, _, ⟨v, r, h1, h2, _⟩, e => by
    cases e
    exact ⟨v, by rw [h1]; rfl, h2⟩
  | _ :: ds, _, i + 1, d, ⟨v, r, h1, _, h3⟩, e => by
    obtain ⟨x, e1, e2⟩ := RpA.get (i := i) h3 e
    exact ⟨x, by rw [h1]; exact e1, e2⟩
theorem RpA.getV : ∀ {ds : List D} {vs : List V} {i : Nat} {v : V}, RpA K μ H ds vs → vs[i]? = some v → ∃ d, ds[i]? = some d ∧ Rp K μ H d v
  | [], _, _, _, h, e => by rw [h] at e; cases e
  | d :: ds, _, 0, _, ⟨v, r, h1, h2, _⟩, e => by
    rw [h1] at e
    cases e
    exact ⟨d, rfl, h2⟩
  | _ :: ds, _, i + 1, v, ⟨_, r, h1, _, h3⟩, e => by
    rw [h1] at e
    obtain ⟨x, e1, e2⟩ := RpA.getV (i := i) h3 e
    exact ⟨x, e1, e2⟩
theorem RpA.append : ∀ {ds es : List D} {vs us : List V}, RpA K μ H ds vs → RpA K μ H es us → RpA K μ H (ds ++ es) (vs ++ us)
  | [], _, _, _, h, t => by rw [h]; exact t
  | _ :: ds, _, _, _, ⟨v, r, h1, h2, h3⟩, t => by rw [h1]; exact ⟨v, _, rfl, h2, RpA.append h3 t⟩
theorem RpA.set {d : D} {v : V} (hd : Rp K μ H d v) : ∀ {ds : List D} {vs : List V} (i : Nat), RpA K μ H ds vs → RpA K μ H (ds.set i d) (vs.set i v)
  | [], _, _, h => by rw [h]; exact rfl
  | _ :: ds, _, 0, ⟨w, r, h1, h2, h3⟩ => by rw [h1]; exact ⟨v, r, rfl, hd, h3⟩
  | _ :: ds, _, i + 1, ⟨w, r, h1, h2, h3⟩ => by rw [h1]; exact ⟨w, _, rfl, h2, RpA.set hd i h3⟩
theorem RpA.take : ∀ {ds : List D} {vs : List V} (n : Nat), RpA K μ H ds vs → RpA K μ H (ds.take n) (vs.take n)
  | _, _, 0, _ => rfl
  | [], _, _ + 1, h => by rw [h]; exact rfl
  | _ :: ds, _, n + 1, ⟨w, r, h1, h2, h3⟩ => by rw [h1]; exact ⟨w, _, rfl, h2, RpA.take n h3⟩
theorem RpA.drop : ∀ {ds : List D} {vs : List V} (n : Nat), RpA K μ H ds vs → RpA K μ H (ds.drop n) (vs.drop n)
  | _, _, 0, h => h
  | [], _, _ + 1, h => by rw [h]; exact rfl
  | _ :: ds, _, n + 1, ⟨w, r, h1, h2, h3⟩ => by rw [h1]; exact RpA.drop n h3
theorem RpA.eraseIdx : ∀ {ds : List D} {vs : List V} (n : Nat), RpA K μ H ds vs → RpA K μ H (ds.eraseIdx n) (vs.eraseIdx n)
  | [], _, _, h => by rw [h]; exact rfl
  | _ :: ds, _, 0, ⟨w, r, h1, h2, h3⟩ => by rw [h1]; exact h3
  | _ :: ds, _, n + 1, ⟨w, r, h1, h2, h3⟩ => by rw [h1]; exact ⟨w, _, rfl, h2, RpA.eraseIdx n h3⟩
theorem RpA.reverse : ∀ {ds : List D} {vs : List V}, RpA K μ H ds vs → RpA K μ H ds.reverse vs.reverse
  | [], _, h => by rw [h]; exact rfl
  | d :: ds, _, ⟨w, r, h1, h2, h3⟩ => by
    rw [h1, List.reverse_cons, List.reverse_cons]
    exact RpA.append (RpA.reverse h3) (.cons h2 .nil)

/-- a dict's pairs -/
def RpK (K : Fg) (μ : List Addr) (H : Hp) : List (Key × D) → List (Key × V) → Prop
  | [], vs => vs = []
  | kd :: r, vs => ∃ v t, vs = (kd.1, v) :: t ∧ Rp K μ H kd.2 v ∧ RpK K μ H r t
theorem RpK.le (e : Le K μ H μ' H') : ∀ (ks : List (Key × D)) (vs : List (Key × V)), RpK K μ H ks vs → RpK K μ' H' ks vs
  | [], _, h => h
  | kd :: r, _, ⟨v, t, h1, h2, h3⟩ => ⟨v, t, h1, Rp.le e kd.2 v h2, RpK.le e r t h3⟩
theorem RpK.mono (e : Ext K μ H μ' H') {ks : List (Key × D)} {vs : List (Key × V)} (h : RpK K μ H ks vs) : RpK K μ' H' ks vs := RpK.le e.le ks vs h
theorem RpK.length : ∀ {ks : List (Key × D)} {vs : List (Key × V)}, RpK K μ H ks vs → ks.length = vs.length
  | [], _, h => by rw [h]; rfl
  | _ :: ks, _, ⟨v, r, h1, _, h3⟩ => by rw [h1, List.length_cons, List.length_cons, RpK.length h3]
/-- what a dict holds at a key; a dict with a key put in -/
def gD : List (Key × D) → Key → Option D
  | [], _ => none
  | (j, d) :: r, k => if j = k then some d else gD r k
def pD : List (Key × D) → Key → D → List (Key × D)
  | [], k, d => [(k, d)]
  | (j, e) :: r, k, d => if j = k then (j, d) :: r else (j, e) :: pD r k d
theorem putK_cons (j k : Key) (v w : V) (r : List (Key × V)) (hn : (r.any fun kv => decide (kv.1 = j)) = false) : putK ((j, w) :: r) k v = if j = k then (j, v) :: r else (j, w) :: putK r k v := by
  unfold putK
  by_cases e : j = k
  · subst e
    rw [if_pos (by simp), if_pos rfl, List.map_cons, if_pos rfl]
    congr 1
    rw [List.any_eq_false] at hn
    conv => rhs; rw [← List.map_id r]
    exact List.map_congr_left fun kv hkv => by
      rw [if_neg (by simpa using hn kv hkv)]
      rfl
  · rw [if_neg e]
    by_cases h : (r.any fun kv => decide (kv.1 = k)) = true
    · rw [if_pos (by simp only [List.any_cons, h, Bool.or_true]), if_pos h, List.map_cons, if_neg e]
    · rw [if_neg (by simp only [List.any_cons, Bool.or_eq_true, decide_eq_true_eq]; exact fun q => q.elim e h), if_neg h]
      rfl
/-- no key twice -/
def Nk : List (Key × D) → Prop
  | [] => True
  | (j, _) :: r => gD r j = none ∧ Nk r
theorem gD_pD : ∀ (ks : List (Key × D)) (k j : Key) (d : D), gD (pD ks k d) j = if k = j then some d else gD ks j
  | [], k, j, d => by show (if k = j then some d else none) = _; rfl
  | (i, e) :: r, k, j, d => by
    unfold pD
    by_cases h : i = k
    · rw [if_pos h]
      subst h
      unfold gD
      by_cases h2 : i = j
      · rw [if_pos h2, if_pos h2]
      · rw [if_neg h2, if_neg h2, if_neg h2]
    · rw [if_neg h]
      unfold gD
      rw [gD_pD r k j d]
      by_cases h2 : i = j
      · subst h2
        rw [if_pos rfl, if_pos rfl, if_neg (fun z => h z.symm)]
      · rw [if_neg h2, if_neg h2]
theorem Nk.put : ∀ {ks : List (Key × D)} (k : Key) (d : D), Nk ks → Nk (pD ks k d)
  | [], _, _, _ => ⟨rfl, trivial⟩
  | (i, e) :: r, k, d, ⟨h1, h2⟩ => by
    unfold pD
    by_cases h : i = k
    · rw [if_pos h]
      exact ⟨h1, h2⟩
    · rw [if_neg h]
      refine ⟨?_, h2.put k d⟩
      rw [gD_pD, if_neg (fun z => h z.symm)]
      exact h1
theorem pD_length : ∀ (ks : List (Key × D)) (k : Key) (d : D), (pD ks k d).length ≤ ks.length + 1
  | [], _, _ => Nat.le_refl _
  | (i, e) :: r, k, d => by
    unfold pD
    split
    · rw [List.length_cons, List.length_cons]; omega
    · rw [List.length_cons, List.length_cons]
      have := pD_length r k d
      omega
theorem RpK.get : ∀ {ks : List (Key × D)} {vs : List (Key × V)} (k : Key), RpK K μ H ks vs → match gD ks k, valV vs k with
    | some d, some v => Rp K μ H d v
    | none, none => True
    | _, _ => False
  | [], _, k, h => by rw [show _ = [] from h]; exact trivial
  | (j, d) :: r, _, k, ⟨v, t, h1, h2, h3⟩ => by
    rw [h1]
    unfold gD
    by_cases e : j = k
    · rw [if_pos e, valV_pos (p := (j, v)) e]
      exact h2
    · rw [if_neg e, valV_neg (p := (j, v)) e]
      exact RpK.get k h3
theorem RpK.getS {ks : List (Key × D)} {vs : List (Key × V)} {k : Key} {d : D} (h : RpK K μ H ks vs) (e : gD ks k = some d) : ∃ v, valV vs k = some v ∧ Rp K μ H d v := by
  have := h.get k
  rw [e] at this
  cases q : valV vs k with
  | none => rw [q] at this; exact this.elim
  | some v => rw [q] at this; exact ⟨v, rfl, this⟩
theorem RpK.getN {ks : List (Key × D)} {vs : List (Key × V)} {k : Key} (h : RpK K μ H ks vs) (e : gD ks k = none) : valV vs k = none := by
  have := h.get k
  rw [e] at this
  cases q : valV vs k with
  | none => rfl
  | some v => rw [q] at this; exact this.elim
theorem RpK.isSome {ks : List (Key × D)} {vs : List (Key × V)} (h : RpK K μ H ks vs) (k : Key) : (valV vs k).isSome = (gD ks k).isSome := by
  cases e : gD ks k with
  | none => rw [h.getN e]; rfl
  | some d => obtain ⟨v, q, _⟩ := h.getS e; rw [q]; rfl
theorem RpK.put {k : Key} {d : D} {v : V} (rd : Rp K μ H d v) : ∀ {ks : List (Key × D)} {vs : List (Key × V)}, Nk ks → RpK K μ H ks vs → RpK K μ H (pD ks k d) (putK vs k v)
  | [], _, _, h => by rw [show _ = [] from h]; exact ⟨v, [], rfl, rd, rfl⟩
  | (j, e) :: r, _, ⟨n1, n2⟩, ⟨w, t, h1, h2, h3⟩ => by
    rw [h1, putK_cons _ _ _ _ _ (by
      rw [valV_any, h3.getN n1]
      rfl)]
    unfold pD
    by_cases q : j = k
    · rw [if_pos q, if_pos q]
      exact ⟨v, t, rfl, rd, h3⟩
    · rw [if_neg q, if_neg q]
      exact ⟨w, _, rfl, h2, h3.put rd n2⟩
/-- an object of the store as it stands -/
def ObR (K : Fg) (μ : List Addr) (H : Hp) : Ob → Addr → Prop
  | .lst ds, a => ∃ vs, H a = some (.lst vs) ∧ RpA K μ H ds vs ∧ ds.length ≤ sizeLine
  | .dic ks, a => ∃ vs, H a = some (.dK vs) ∧ RpK K μ H ks vs ∧ ks.length ≤ sizeLine ∧ Nk ks
  | .frd ks, a => ∃ vs, (∃ o, H a = some (.frz o (.dK vs))) ∧ RpK K μ H ks vs ∧ ks.length ≤ sizeLine ∧ Nk ks
structure StOk (K : Fg) (μ : List Addr) (H : Hp) (S : Sto) : Prop where
  len : μ.length = S.length
  nd : μ.Nodup
  ob : ∀ (i : Nat) o a, S[i]? = some o → μ[i]? = some a → ObR K μ H o a
theorem ObR.some {o : Ob} {a : Addr} (h : ObR K μ H o a) : ∃ u, H a = some u ∧ (∀ xs, u ≠ .tup xs) ∧ (∀ b xs, u ≠ .frz b (.tup xs)) ∧ ∀ b xs, u ≠ .frz b (.lst xs) := by
  cases o with
  | lst ds =>
    obtain ⟨vs, e, _⟩ := h
    exact ⟨.lst vs, e, fun _ => (fun z => by cases z), fun _ _ => (fun z => by cases z), fun _ _ => (fun z => by cases z)⟩
  | dic ks =>
    obtain ⟨vs, e, _⟩ := h
    exact ⟨.dK vs, e, fun _ => (fun z => by cases z), fun _ _ => (fun z => by cases z), fun _ _ => (fun z => by cases z)⟩
  | frd ks =>
    obtain ⟨vs, ⟨o, e⟩, _⟩ := h
    exact ⟨_, e, fun _ => (fun z => by cases z), fun _ _ => (fun z => by cases z), fun _ _ => (fun z => by cases z)⟩
theorem StOk.mem (h : StOk K μ H S) {a : Addr} (m : a ∈ μ) : ∃ u, H a = some u ∧ (∀ xs, u ≠ .tup xs) ∧ (∀ b xs, u ≠ .frz b (.tup xs)) ∧ ∀ b xs, u ≠ .frz b (.lst xs) := by
  obtain ⟨i, e⟩ := List.mem_iff_getElem?.mp m
  have hi : i < S.length := by
    rw [← h.len]
    exact (List.getElem?_eq_some_iff.mp e).1
  exact (h.ob i S[i] a (List.getElem?_eq_getElem hi) e).some
/-- from what was changed alone -/
theorem StOk.ext (h : StOk K μ H S) (pre : ∃ l, μ' = μ ++ l ∧ ∀ a ∈ l, H a = none) (alive : ∀ a, H' a = none → H a = none) (fr : ∀ a o, H a = some o → a ∉ μ → H' a = some o) (fz : ∀ a o vs, H a = some (.frz o (.dK vs)) → H' a = some (.frz o (.dK vs))) : Ext K μ H μ' H' := by
  refine ⟨pre, alive, fr, fun a xs q => ?_, fun a xs q => ?_, fz⟩
  · rcases q with ⟨o, q, c1, c2⟩ | q
    · refine .inl ⟨o, fr _ _ q fun m => ?_, c1, c2⟩
      obtain ⟨u, e, _, n2, _⟩ := h.mem m
      rw [q] at e
      exact n2 _ _ (Option.some.inj e).symm
    · exact .inr q
  · rcases q with ⟨o, q⟩ | q
    · refine .inl ⟨o, fr _ _ q fun m => ?_⟩
      obtain ⟨u, e, _, _, n2⟩ := h.mem m
      rw [q] at e
      exact n2 _ _ (Option.some.inj e).symm
    · exact .inr q
/-- a new thing that the store does not know -/
theorem StOk.fresh (h : StOk K μ H S) {p : Addr} (hp : H p = none) (o : HO) : Ext K μ H μ (upd H p o) :=
  h.ext ⟨[], by simp, fun a z => nomatch z⟩ (fun a z => by
    by_cases e : a = p
    · rw [e]; exact hp
    · rw [upd_ne e] at z; exact z) (fun a u z _ => by rw [upd_ne (ne_of_none z hp)]; exact z) fun a u vs z => by rw [upd_ne (ne_of_none z hp)]; exact z
theorem ObR.le {o : Ob} {a : Addr} (e : Le K μ H μ' H') (q : H' a = H a) (h : ObR K μ H o a) : ObR K μ' H' o a := by
  cases o with
  | lst ds =>
    obtain ⟨vs, e1, e2, e3⟩ := h
    exact ⟨vs, q.trans e1, RpA.le e ds vs e2, e3⟩
  | dic ks =>
    obtain ⟨vs, e1, e2, e3, e4⟩ := h
    exact ⟨vs, q.trans e1, RpK.le e ks vs e2, e3, e4⟩
  | frd ks =>
    obtain ⟨vs, ⟨o, e1⟩, e2, e3, e4⟩ := h
    exact ⟨vs, ⟨o, q.trans e1⟩, RpK.le e ks vs e2, e3, e4⟩
theorem StOk.freshOk (h : StOk K μ H S) {p : Addr} (hp : H p = none) (o : HO) : StOk K μ (upd H p o) S :=
  ⟨h.len, h.nd, fun i ob a e1 e2 => (h.ob i ob a e1 e2).le (h.fresh hp o).le (by
    obtain ⟨u, e, _⟩ := h.mem (List.mem_of_getElem? e2)
    rw [upd_ne (ne_of_none e hp)])⟩
/-- a thing of one's own that the store takes up -/
theorem StOk.takeO (h : StOk K μ H S) {p : Addr} {ob : Ob} (hp : p ∉ μ) (r : ObR K μ H ob p) : StOk K (μ ++ [p]) H (S ++ [ob]) := by
  refine ⟨by rw [List.length_append, List.length_append, h.len]; rfl, ?_, fun i o a e1 e2 => ?_⟩
  · rw [List.nodup_append]
    exact ⟨h.nd, by simp, fun a ha b hb z => by
      have : b = p := by simpa using hb
      rw [z, this] at ha
      exact hp ha⟩
  · by_cases hi : i < S.length
    · rw [List.getElem?_append_left hi] at e1
      rw [List.getElem?_append_left (by rw [h.len]; exact hi)] at e2
      exact (h.ob i o a e1 e2).le (Le.more [p]) rfl
    · have hi2 : i = S.length := by
        have := (List.getElem?_eq_some_iff.mp e1).1
        rw [List.length_append] at this
        simp at this
        omega
      subst hi2
      rw [List.getElem?_append_right (Nat.le_refl _), Nat.sub_self] at e1
      rw [← h.len, List.getElem?_append_right (Nat.le_refl _), Nat.sub_self] at e2
      cases e1
      cases e2
      exact r.le (Le.more [p]) rfl
theorem StOk.take (h : StOk K μ H S) {p : Addr} {vs : List V} {ds : List D} (hp : p ∉ μ) (hv : H p = some (.lst vs)) (r : RpA K μ H ds vs) (hz : ds.length ≤ sizeLine) : StOk K (μ ++ [p]) H (S ++ [.lst ds]) := h.takeO hp ⟨vs, hv, r, hz⟩
theorem Ext.take (e : Ext K μ H μ1 H1) {p : Addr} (hp : H p = none) : Ext K μ H (μ1 ++ [p]) H1 := by
  obtain ⟨l, rfl, n⟩ := e.pre
  refine ⟨⟨l ++ [p], by rw [List.append_assoc], fun a ha => ?_⟩, e.alive, e.fr, e.tup, e.fix, e.frd⟩
  rcases List.mem_append.mp ha with h | h
  · exact n a h
  · have : a = p := by simpa using h
    rw [this]; exact hp
/-- a thing of the store is changed -/
theorem StOk.putE (h : StOk K μ H S) {i : Nat} {p : Addr} (u : HO) (hi : μ[i]? = some p) (nf : ∀ o vs, H p ≠ some (.frz o (.dK vs))) : Ext K μ H μ (upd H p u) := by
  have hm : p ∈ μ := List.mem_of_getElem? hi
  exact h.ext ⟨[], by simp, fun a z => nomatch z⟩ (fun a z => by
    by_cases e : a = p
    · rw [e, upd_same] at z; cases z
    · rw [upd_ne e] at z; exact z) (fun a u z q => by
      rw [upd_ne (fun e => q (by rw [e]; exact hm))]
      exact z) fun a o vs z => by
      rw [upd_ne (fun e => nf o vs (by rw [← e]; exact z))]
      exact z
theorem nf_lst {H : Hp} {p : Addr} {ws : List V} (k : H p = some (.lst ws)) : ∀ o vs, H p ≠ some (.frz o (.dK vs)) := fun o vs z => by rw [k] at z; cases z
theorem nf_dK {H : Hp} {p : Addr} {ws : List (Key × V)} (k : H p = some (.dK ws)) : ∀ o vs, H p ≠ some (.frz o (.dK vs)) := fun o vs z => by rw [k] at z; cases z
theorem StOk.putL (h : StOk K μ H S) {i : Nat} {p : Addr} {u : HO} {ob : Ob} (hi : μ[i]? = some p) (ex : Le K μ H μ (upd H p u)) (r : ObR K μ (upd H p u) ob p) : StOk K μ (upd H p u) (S.set i ob) := by
  refine ⟨by rw [List.length_set]; exact h.len, h.nd, fun j o a e1 e2 => ?_⟩
  by_cases hj : i = j
  · subst hj
    rw [hi] at e2
    cases e2
    rw [List.getElem?_set_self (by rw [← h.len]; exact (List.getElem?_eq_some_iff.mp hi).1)] at e1
    cases e1
    exact r
  · rw [List.getElem?_set_ne hj] at e1
    have hne : a ≠ p := fun z => hj (by
      rw [z] at e2
      obtain ⟨h1, q1⟩ := List.getElem?_eq_some_iff.mp hi
      obtain ⟨h2, q2⟩ := List.getElem?_eq_some_iff.mp e2
      exact (List.getElem_inj h.nd).mp (q1.trans q2.symm))
    exact (h.ob j o a e1 e2).le ex (upd_ne hne)
theorem StOk.putO (h : StOk K μ H S) {i : Nat} {p : Addr} {u : HO} {ob : Ob} (hi : μ[i]? = some p) (nf : ∀ o vs, H p ≠ some (.frz o (.dK vs))) (r : ObR K μ (upd H p u) ob p) : StOk K μ (upd H p u) (S.set i ob) := h.putL hi (h.putE u hi nf).le r
/-- a dict that stood still changes again -/
theorem frd_le {p : Addr} {od : Obj} {vs : List (Key × V)} {u : HO} (hp : H p = some (.frz od (.dK vs))) : Le K μ H μ (upd H p u) := by
  refine ⟨fun _ _ h => h, fun a xs q => ?_, fun a xs q => ?_⟩
  · rcases q with ⟨o, q, c1, c2⟩ | q
    · refine .inl ⟨o, ?_, c1, c2⟩
      rw [upd_ne fun e => by rw [e, hp] at q; cases q]
      exact q
    · exact .inr q
  · rcases q with ⟨o, q⟩ | q
    · refine .inl ⟨o, ?_⟩
      rw [upd_ne fun e => by rw [e, hp] at q; cases q]
      exact q
    · exact .inr q
/-- locked, run, unlocked -/
theorem Ext.unlock (hs : StOk K μ H S) {i : Nat} {p : Addr} {od : Obj} {vs : List (Key × V)} (hi : μ[i]? = some p) (hp : H p = some (.dK vs)) (e : Ext K μ (upd H p (.frz od (.dK vs))) μ' H') : H' p = some (.frz od (.dK vs)) ∧ Ext K μ H μ' (upd H' p (.dK vs)) := by
  have hl : H' p = some (.frz od (.dK vs)) := e.frd p od vs upd_same
  have ex := hs.putE (.frz od (.dK vs)) hi (nf_dK hp)
  have le := frd_le (K := K) (μ := μ') (u := .dK vs) hl
  refine ⟨hl, ?_, fun a z => ?_, fun a o z m => ?_, fun a xs q => le.tup a xs (e.tup a xs (ex.tup a xs q)), fun a xs q => le.fix a xs (e.fix a xs (ex.fix a xs q)), fun a o ws z => ?_⟩
  · obtain ⟨l, e1, e2⟩ := e.pre
    exact ⟨l, e1, fun a ha => ex.alive a (e2 a ha)⟩
  · by_cases h : a = p
    · rw [h, upd_same] at z; cases z
    · rw [upd_ne h] at z; exact ex.alive a (e.alive a z)
  · have h : a ≠ p := fun h => m (by rw [h]; exact List.mem_of_getElem? hi)
    rw [upd_ne h]
    exact e.fr a o (ex.fr a o z m) m
  · have h : a ≠ p := fun h => by rw [h, hp] at z; cases z
    rw [upd_ne h]
    exact e.frd a o ws (ex.frd a o ws z)
theorem StOk.put (h : StOk K μ H S) {i : Nat} {p : Addr} {vs ws : List V} {ds : List D} (hi : μ[i]? = some p) (k0 : H p = some (.lst ws)) (r : RpA K μ H ds vs) (hz : ds.length ≤ sizeLine) : Ext K μ H μ (upd H p (.lst vs)) ∧ StOk K μ (upd H p (.lst vs)) (S.set i (.lst ds)) :=
  ⟨h.putE _ hi (nf_lst k0), h.putO hi (nf_lst k0) ⟨vs, upd_same, r.mono (h.putE _ hi (nf_lst k0)), hz⟩⟩
theorem StOk.dic (h : StOk K μ H S) {i : Nat} {a : Addr} {ks : List (Key × D)} (e1 : S[i]? = some (.dic ks)) (e2 : μ[i]? = some a) : ∃ vs, H a = some (.dK vs) ∧ RpK K μ H ks vs ∧ ks.length ≤ sizeLine ∧ Nk ks := h.ob i _ a e1 e2
theorem StOk.frd (h : StOk K μ H S) {i : Nat} {a : Addr} {ks : List (Key × D)} (e1 : S[i]? = some (.frd ks)) (e2 : μ[i]? = some a) : ∃ vs, (∃ o, H a = some (.frz o (.dK vs))) ∧ RpK K μ H ks vs ∧ ks.length ≤ sizeLine ∧ Nk ks := h.ob i _ a e1 e2
theorem StOk.lst (h : StOk K μ H S) {i : Nat} {a : Addr} {ds : List D} (e1 : S[i]? = some (.lst ds)) (e2 : μ[i]? = some a) : ∃ vs, H a = some (.lst vs) ∧ RpA K μ H ds vs ∧ ds.length ≤ sizeLine := h.ob i _ a e1 e2
end
end PQ

/-! The language: its syntax and what it says. -/
namespace PQ
open PySem PySem.Spec PyProof.Rows L2

inductive Res (α : Type) where
  | ok (a : α) (S : Sto)
  | exc (c : Str) (fs : List (Str × D)) (S : Sto)
  | bad
def Res.bind {α β : Type} : Res α → (α → Sto → Res β) → Res β
  | .ok a S, f => f a S
  | .exc c fs S, _ => .exc c fs S
  | .bad, _ => .bad
/-- a wish that is granted, or nothing -/
noncomputable def ask {α : Type} (p : Prop) (r : Res α) : Res α := open Classical in if p then r else .bad
def may {α β : Type} (o : Option α) (f : α → Res β) : Res β := match o with
  | some a => f a
  | none => .bad

inductive Bop | add | sub | mul | fdiv | mod | pow | shl | shr | band | bor | bxor
inductive Cop | eq | ne | lt | le | gt | ge
inductive Ag | len | sum | all | any | min | max | tuple
inductive F1 | int | abs | str | repr
inductive F2 | min | max | gcd
inductive Ty | int | bool | str | tuple
/-- targets: a name, a row of names -/
inductive CN
  | nm (i : Nat)
  | tup (is : List Nat)

mutual
inductive CE where
  | var (i : Nat)
  | lit (d : D)
  | tup (es : CEs)
  | alloc (q : CQ)
  | bin (o : Bop) (a b : CE)
  | neg (a : CE)
  | cmp (o : Cop) (a b : CE)
  | chn (o p : Cop) (a b c : CE)
  | isN (a : CE)
  | notN (a : CE)
  | inr (a : CE) (r : CR)
  | notInr (a : CE) (r : CR)
  | and (a b : CE)
  | or (a b : CE)
  | not (a : CE)
  | ife (t : CT) (a b : CE)
  | idx (a i : CE)
  | slc (a : CE) (lo hi : CO)
  | call (f : Nat) (es : CEs)
  | fn1 (f : F1) (a : CE)
  | fn2 (f : F2) (a b : CE)
  | agg (f : Ag) (r : CR)
  | isi (a : CE) (t : Ty)
  | app (l x : CE)
  | ext (l : CE) (r : CR)
  | pop (l : CE)
  | popAt (l i : CE)
  | join (s : Str) (r : CR)
  | tix (a i : CE)
  | ins (l i x : CE)
  | dnew
  | dget (a k x : CE)
inductive CO where
  | none
  | some (e : CE)
inductive CEs where
  | nil
  | cons (a : CE) (r : CEs)
inductive CQ where
  | disp (es : CEs)
  | comp (own : List Nat) (g : CN) (it : CI) (elt : CE)
  | compIf (own : List Nat) (g : CN) (it : CI) (t : CT) (elt : CE)
  | cat (a b : CR)
  | sorted (r : CR)
  | list (r : CR)
  | listRg (a b : CE)
  | rev (r : CR)
inductive CR where
  | q (c : CQ)
  | e (c : CE)
inductive CI where
  | r (c : CR)
  | rg (a b : CE)
  | rgd (a b : CE)
inductive CT where
  | v (e : CE)
  | and (a b : CT)
  | or (a b : CT)
  | not (a : CT)
end
mutual
inductive CS where
  | set (g : CN) (e : CE)
  | par (i j : Nat) (a b : CE)
  | sub (o i e : CE)
  | aug (i : Nat) (o : Bop) (e : CE)
  | augS (o i : CE) (p : Bop) (e : CE)
  | ex (e : CE)
  | ret (e : CE)
  | ite (t : CT) (a b : CSs)
  | for (g : CN) (it : CI) (b : CSs)
  | while (t : CT) (b : CSs)
  | brk
  | cont
  | pass
  | raise
inductive CSs where
  | nil
  | cons (s : CS) (r : CSs)
end

/-! ### values -/
mutual
/-- pure data of a value; f: of the store's lists -/
def toPW (f : Nat → Option PyData) : D → Option PyData
  | .non => some .none
  | .bl b => some (.bool b)
  | .int i => some (.int i)
  | .str x => some (.str x)
  | .tup ds => (toPsW f ds).map .tuple
  | .fix ds => (toPsW f ds).map .list
  | .ref i => f i
def toPsW (f : Nat → Option PyData) : List D → Option (List PyData)
  | [] => some []
  | d :: ds => match toPW f d, toPsW f ds with
    | some p, some ps => some (p :: ps)
    | _, _ => none
end
/-- the store's lists by their contents, at most n deep -/
def refP (S : Sto) : Nat → Nat → Option PyData
  | 0, _ => none
  | n + 1, i => match S[i]? with
    | some (.lst ds) => (toPsW (refP S n) ds).map .list
    | _ => none
def toP (S : Sto) (d : D) : Option PyData := toPW (refP S 8) d
def toPs (S : Sto) (ds : List D) : Option (List PyData) := toPsW (refP S 8) ds

def scalD : D → D → Bool
  | .non, .non => true | .non, .int _ => true | .int _, .non => true | .non, .bl _ => true | .bl _, .non => true | .non, .str _ => true | .str _, .non => true
  | .int _, .int _ => true | .bl _, .bl _ => true | .str _, .str _ => true
  | .int _, .str _ => true | .str _, .int _ => true | .bl _, .str _ => true | .str _, .bl _ => true
  | _, _ => false
def eqSc : D → D → Bool
  | .non, .non => true
  | .int i, .int j => decide (i = j)
  | .bl i, .bl j => decide (i = j)
  | .str i, .str j => decide (i = j)
  | _, _ => false
def dEq (S : Sto) (x y : D) : Option Bool :=
  if scalD x y = true then some (eqSc x y) else match toP S x, toP S y with
    | some p, some q => if (shp p && shp q) = true then some (PyData.eqv p q) else none
    | _, _ => none
def tru (S : Sto) : D → Option Bool
  | .non => some false
  | .bl b => some b
  | .int i => some (i != 0)
  | .str x => if x.length ≤ sizeLine then some (x.length != 0) else none
  | .tup ds => some (!ds.isEmpty)
  | .fix ds => some (!ds.isEmpty)
  | .ref i => match S[i]? with
    | some (.lst ds) => some (!ds.isEmpty)
    | _ => none
def FDivOk (i j : Int) : Prop := j ≠ 0 ∧ Builtin.divisionGoesByPylong i j = false
noncomputable def binD (o : Bop) (x y : D) (S : Sto) : Res D :=
  match o, x, y with
  | .add, .int i, .int j => .ok (.int (i + j)) S
  | .add, .int i, .bl b => .ok (.int (i + if b = true then 1 else 0)) S
  | .add, .str a, .str b => ask (a.length + b.length ≤ sizeLine) (.ok (.str (a ++ b)) S)
  | .add, .tup a, .tup b => ask (a.length + b.length ≤ sizeLine) (.ok (.tup (a ++ b)) S)
  | .add, .ref i, .ref j => match S[i]?, S[j]? with
    | some (.lst a), some (.lst b) => ask (a.length + b.length ≤ sizeLine) (.ok (.ref S.length) (S ++ [.lst (a ++ b)]))
    | _, _ => .bad
  | .sub, .int i, .int j => .ok (.int (i - j)) S
  | .mul, .int i, .int j => ask (IntMulOk i j) (.ok (.int (i * j)) S)
  | .mul, .ref i, .int k => match S[i]? with
    | some (.lst a) => ask (-(2 ^ 63) ≤ k ∧ k < 2 ^ 63 ∧ a.length * k.toNat ≤ sizeLine) (.ok (.ref S.length) (S ++ [.lst (List.replicate k.toNat a).flatten]))
    | _ => .bad
  | .mul, .str a, .int k => ask (MulOk a k) (.ok (.str (Txt.mul a k)) S)
  | .fdiv, .int i, .int j => ask (FDivOk i j) (.ok (.int (i.fdiv j)) S)
  | .mod, .int i, .int j => ask (j ≠ 0) (.ok (.int (i.fmod j)) S)
  | .pow, .int i, .int j => ask (CPow i j) (.ok (.int (i ^ j.toNat)) S)
  | .shl, .int i, .int j => ask (CPow i j) (.ok (.int (i * 2 ^ j.toNat)) S)
  | .shr, .int i, .int j => ask (0 ≤ j) (.ok (.int (i / 2 ^ j.toNat)) S)
  | .band, .int i, .int j => .ok (.int (Builtin.bitAnd i j)) S
  | .bor, .int i, .int j => .ok (.int (Builtin.bitOr i j)) S
  | .bxor, .int i, .int j => .ok (.int (Builtin.bitXor i j)) S
  | _, _, _ => .bad
def augD (o : Bop) (x y : D) (S : Sto) : Res D :=
  match o, x, y with
  | .add, .int i, .int j => .ok (.int (i + j)) S
  | .sub, .int i, .int j => .ok (.int (i - j)) S
  | .add, .str a, .str b => if a.length + b.length ≤ sizeLine then .ok (.str (a ++ b)) S else .bad
  | _, _, _ => .bad
def isNon : D → Bool
  | .non => true
  | _ => false
/-- the order of data -/
def ordP (o : Cop) (p q : PyData) : Bool := match o with
  | .lt => PySem.W.dataLt p q
  | .gt => PySem.W.dataLt q p
  | .le => !PySem.W.dataLt q p
  | .ge => !PySem.W.dataLt p q
  | _ => false
def ordD (o : Cop) (x y : D) (S : Sto) : Res D := match toP S x, toP S y with
  | some p, some q => if cmpOk p q = true then .ok (.bl (ordP o p q)) S else .bad
  | _, _ => .bad
def cmpI (o : Cop) (f : Int → Int → Bool) (x y : D) (S : Sto) : Res D := match x, y with
  | .int i, .int j => .ok (.bl (f i j)) S
  | x, y => ordD o x y S
def cmpD (o : Cop) (x y : D) (S : Sto) : Res D :=
  match o with
  | .eq => may (dEq S x y) fun b => .ok (.bl b) S
  | .ne => may (dEq S x y) fun b => .ok (.bl (!b)) S
  | .lt => cmpI .lt (fun i j => decide (i < j)) x y S
  | .le => cmpI .le (fun i j => decide (i ≤ j)) x y S
  | .gt => cmpI .gt (fun i j => decide (j < i)) x y S
  | .ge => cmpI .ge (fun i j => decide (j ≤ i)) x y S
/-- a walked thing: one's own list, or a value -/
inductive RV
  | own (ds : List D)
  | val (d : D)
/-- a list (tracked or fixed) by its items -/
def lsOf (S : Sto) : RV → Option (List D)
  | .own ds => some ds
  | .val (.fix ds) => some ds
  | .val (.ref i) => match S[i]? with
    | some (.lst ds) => some ds
    | _ => none
  | _ => none
/-- .. a list that may change -/
def trOf (S : Sto) : RV → Option (List D)
  | .own ds => some ds
  | .val (.ref i) => match S[i]? with
    | some (.lst ds) => some ds
    | _ => none
  | _ => none
/-- a dict by its pairs -/
def dicOf (S : Sto) : RV → Option (List (Key × D))
  | .val (.ref i) => match S[i]? with
    | some (.dic ks) => some ks
    | some (.frd ks) => some ks
    | _ => none
  | _ => none
def keyOf : D → Option Key
  | .int i => some (.inl i)
  | .str x => some (.inr x)
  | _ => none
/-- .. or a tuple -/
def sqOf (S : Sto) : RV → Option (List D)
  | .val (.tup ds) => some ds
  | r => lsOf S r
def lenOf (S : Sto) (r : RV) : Option Nat := match sqOf S r with
  | some ds => some ds.length
  | none => (dicOf S r).map List.length
/-- .. what is sorted: a list, or a dict's texts -/
def strKeys : List (Key × D) → Option (List D)
  | [] => some []
  | (.inr x, _) :: r => (strKeys r).map (.str x :: ·)
  | (.inl _, _) :: _ => none
def soOf (S : Sto) (r : RV) : Option (List D) := match lsOf S r with
  | some ds => some ds
  | none => (dicOf S r).bind strKeys
/-- .. or a text by its letters -/
def lettersD (z : Str) : List D := z.cps.toList.map fun c => D.str ⟨#[c]⟩
def lstOf (S : Sto) (r : RV) : Option (List D) := match r with
  | .val (.str z) => if z.length ≤ sizeLine then some (lettersD z) else none
  | r => sqOf S r
def intsOf : List D → Option (List Int)
  | [] => some []
  | .int i :: r => (intsOf r).map (i :: ·)
  | _ => none
def boolsOf : List D → Option (List Bool)
  | [] => some []
  | .bl b :: r => (boolsOf r).map (b :: ·)
  | _ => none
def strsOf : List D → Option (List Str)
  | [] => some []
  | .str x :: r => (strsOf r).map (x :: ·)
  | _ => none
def greatest : List Int → Option Int
  | [] => none
  | [x] => some x
  | x :: r => (greatest r).map fun m => if x < m then m else x
def least : List Int → Option Int
  | [] => none
  | [x] => some x
  | x :: r => (least r).map fun m => if m < x then m else x
def aggD (f : Ag) (r : RV) (S : Sto) : Res D :=
  match f with
  | .len => match r with
    | .val (.str x) => if x.length ≤ sizeLine then .ok (.int x.length) S else .bad
    | r => may (lenOf S r) fun n => .ok (.int n) S
  | .sum => may (lsOf S r) fun ds => may (intsOf ds) fun ns => .ok (.int ns.sum) S
  | .all => may (lsOf S r) fun ds => may (boolsOf ds) fun bs => .ok (.bl (bs.all id)) S
  | .any => may (lsOf S r) fun ds => may (boolsOf ds) fun bs => .ok (.bl (bs.any id)) S
  | .max => may (lsOf S r) fun ds => may (intsOf ds) fun ns => may (greatest ns) fun m => .ok (.int m) S
  | .min => may (lsOf S r) fun ds => may (intsOf ds) fun ns => may (least ns) fun m => .ok (.int m) S
  | .tuple => may (sqOf S r) fun ds => .ok (.tup ds) S
def fn1D (f : F1) (x : D) (S : Sto) : Res D :=
  match f, x with
  | .int, .int i => .ok (.int i) S
  | .int, .bl b => .ok (.int (if b then 1 else 0)) S
  | .abs, .int i => .ok (.int (if i < 0 then -i else i)) S
  | .str, .int i => if i.natAbs.log2 < 1920 then .ok (.str (toString i)) S else .bad
  | .repr, x => may (toP S x) fun p => if p.showable = true ∧ p.hasDict = false ∧ p.shown.length ≤ sizeLine ∧ p.depth ≤ 1000 then .ok (.str p.shown) S else .bad
  | _, _ => .bad
def fn2D (f : F2) (x y : D) (S : Sto) : Res D :=
  match f, x, y with
  | .min, .int i, .int j => .ok (.int (if j < i then j else i)) S
  | .max, .int i, .int j => .ok (.int (if j > i then j else i)) S
  | .gcd, .int i, .int j => .ok (.int ((Nat.gcd i.natAbs j.natAbs : Nat) : Int)) S
  | _, _, _ => .bad
def tyB (t : Ty) (S : Sto) : D → Option Bool
  | .non => some false
  | .bl _ => some (match t with | .int => true | .bool => true | _ => false)
  | .int _ => some (match t with | .int => true | _ => false)
  | .str _ => some (match t with | .str => true | _ => false)
  | .tup _ => some (match t with | .tuple => true | _ => false)
  | .fix _ => some false
  | .ref i => match S[i]? with
    | some (.lst _) => some false
    | _ => none
def idxD (x i : D) (S : Sto) : Res D :=
  match x, i with
  | .tup ds, .int i => may (atI ds i) fun d => .ok d S
  | .fix ds, .int i => may (atI ds i) fun d => .ok d S
  | .ref a, .int i => match S[a]? with
    | some (.lst ds) => may (atI ds i) fun d => .ok d S
    | some (.dic ks) => may (gD ks (.inl i)) fun d => .ok d S
    | some (.frd ks) => may (gD ks (.inl i)) fun d => .ok d S
    | none => .bad
  | .ref a, .str z => match S[a]? with
    | some (.dic ks) => may (gD ks (.inr z)) fun d => .ok d S
    | some (.frd ks) => may (gD ks (.inr z)) fun d => .ok d S
    | _ => .bad
  | .str z, .int i => if z.length ≤ sizeLine then may (atI z.cps.toList i) fun c => .ok (.str ⟨#[c]⟩) S else .bad
  | _, _ => .bad
def cutD (ds : List D) (lo hi : Option Int) : List D := (ds.drop (HT.sIx ds.length 0 lo)).take (HT.sIx ds.length ds.length hi - HT.sIx ds.length 0 lo)
def slcD (x : D) (lo hi : Option Int) (S : Sto) : Res D :=
  match x with
  | .tup ds => .ok (.tup (cutD ds lo hi)) S
  | .fix ds => .ok (.ref S.length) (S ++ [.lst (cutD ds lo hi)])
  | .ref a => match S[a]? with
    | some (.lst ds) => .ok (.ref S.length) (S ++ [.lst (cutD ds lo hi)])
    | _ => .bad
  | .str z => if z.length ≤ sizeLine then .ok (.str (cutS z lo hi)) S else .bad
  | _ => .bad
/-- a list of the store -/
def withL {α : Type} (S : Sto) (x : D) (f : Nat → List D → Res α) : Res α :=
  match x with
  | .ref a => match S[a]? with
    | some (.lst ds) => f a ds
    | _ => .bad
  | _ => .bad
/-- a dict of the store -/
def withD {α : Type} (S : Sto) (x : D) (f : Nat → List (Key × D) → Res α) : Res α :=
  match x with
  | .ref a => match S[a]? with
    | some (.dic ks) => f a ks
    | _ => .bad
  | _ => .bad
/-- a dict of the store that is only read -/
def withR {α : Type} (S : Sto) (x : D) (f : Nat → List (Key × D) → Res α) : Res α :=
  match x with
  | .ref a => match S[a]? with
    | some (.dic ks) => f a ks
    | some (.frd ks) => f a ks
    | _ => .bad
  | _ => .bad
def isDic (S : Sto) : D → Bool
  | .ref a => match S[a]? with
    | some (.dic _) => true
    | _ => false
  | _ => false
def setD (x i v : D) (S : Sto) : Res Unit := if isDic S x = true then (withD S x fun a ks => may (keyOf i) fun k => if ks.length < sizeLine then .ok () (S.set a (.dic (pD ks k v))) else .bad) else withL S x fun a ds => match i with
  | .int i => may (ixN ds.length i) fun j => .ok () (S.set a (.lst (ds.set j v)))
  | _ => .bad
/-- what is changed at a place -/
def getD (x i : D) (S : Sto) : Res D := match x with
  | .ref _ => idxD x i S
  | _ => .bad
def dgetD (x k y : D) (S : Sto) : Res D := withR S x fun _ ks => may (keyOf k) fun k => .ok ((gD ks k).getD y) S
def appD (x v : D) (S : Sto) : Res D := withL S x fun a ds => if ds.length < sizeLine then .ok .non (S.set a (.lst (ds ++ [v]))) else .bad
def extD (x : D) (r : RV) (S : Sto) : Res D := withL S x fun a ds => may (trOf S r) fun es => if ds.length + es.length ≤ sizeLine then .ok .non (S.set a (.lst (ds ++ es))) else .bad
def popD (x : D) (S : Sto) : Res D := withL S x fun a ds => may ds[ds.length - 1]? fun d => .ok d (S.set a (.lst ds.dropLast))
def popAtD (x i : D) (S : Sto) : Res D := withL S x fun a ds => match i with
  | .int i => if -(2 ^ 63) ≤ i ∧ i < 2 ^ 63 then may (seqIndex? i ds.length) fun k => may ds[k]? fun d => .ok d (S.set a (.lst (ds.eraseIdx k))) else .bad
  | _ => .bad
def insD (x i v : D) (S : Sto) : Res D := withL S x fun a ds => match i with
  | .int i => if 0 ≤ i ∧ i < 2 ^ 63 ∧ ds.length < sizeLine then .ok .non (S.set a (.lst (ds.take i.toNat ++ [v] ++ ds.drop i.toNat))) else .bad
  | _ => .bad
/-- a target takes a value -/
def setAll : List Nat → List D → En → Option En
  | [], [], ρ => some ρ
  | i :: is, d :: ds, ρ => setAll is ds (ρ.set i (some d))
  | _, _, _ => none
def bindN (g : CN) (d : D) (ρ : En) (S : Sto) : Option En :=
  match g with
  | .nm i => some (ρ.set i (some d))
  | .tup is => (sqOf S (.val d)).bind fun ds => setAll is ds ρ
/-- flows -/
inductive Fl
  | nx (ρ : En)
  | bk (ρ : En)
  | ct (ρ : En)
  | rt (d : D)
/-- what is walked: the items, and whether the walked list must stand still -/
structure Itv where
  items : List D
  at_ : Option Nat
def Itv.still (t : Itv) (S : Sto) : Prop := match t.at_ with
  | none => True
  | some i => S[i]? = some (.lst t.items)
noncomputable def loopQ (C : Sto → Prop) (f : D → Sto → Res (Option D)) : List D → Sto → Res (List D)
  | [], S => ask (C S) (.ok [] S)
  | d :: ds, S => ask (C S) ((f d S).bind fun o S1 => (loopQ C f ds S1).bind fun r S2 => .ok (match o with | some x => x :: r | none => r) S2)
noncomputable def loopS (C : Sto → Prop) (f : D → En → Sto → Res Fl) : List D → En → Sto → Res Fl
  | [], ρ, S => ask (C S) (.ok (.nx ρ) S)
  | d :: ds, ρ, S => ask (C S) ((f d ρ S).bind fun fl S1 => match fl with
    | .nx ρ' => loopS C f ds ρ' S1
    | .ct ρ' => loopS C f ds ρ' S1
    | .bk ρ' => .ok (.nx ρ') S1
    | .rt d => .ok (.rt d) S1)
def whileS (t : En → Sto → Res Bool) (b : En → Sto → Res Fl) : Nat → En → Sto → Res Fl
  | 0, _, _ => .bad
  | n + 1, ρ, S => (t ρ S).bind fun c S1 => if c = true then (b ρ S1).bind fun fl S2 => (match fl with
      | .nx ρ' => whileS t b n ρ' S2
      | .ct ρ' => whileS t b n ρ' S2
      | .bk ρ' => .ok (.nx ρ') S2
      | .rt d => .ok (.rt d) S2) else .ok (.nx ρ) S1
def turns : Nat := 1000000000000
def wipeE (ρ : En) : List Nat → En
  | [] => ρ
  | v :: vs => (wipeE ρ vs).set v none
def rgD (i j : Int) : List D := (List.range (j - i).toNat).map fun k => D.int (i + (k : Nat))
/-- range(i, j, -1) -/
def rgdD (i j : Int) : List D := (List.range (i - j).toNat).map fun k => D.int (i - (k : Nat))
def bd62 (i : Int) : Prop := -(2 ^ 62) ≤ i ∧ i < 2 ^ 62
abbrev Orc := Nat → List D → Sto → Res D
def itOf (r : RV) (S : Sto) : Option Itv := match r with
  | .val (.str z) => some ⟨lettersD z, none⟩
  | .val (.ref i) => (sqOf S r).map fun ds => ⟨ds, some i⟩
  | r => (sqOf S r).map fun ds => ⟨ds, none⟩
/-- the dict that a loop walks by its name -/
def keyD : Key → D
  | .inl i => .int i
  | .inr z => .str z
def dcAt : CI → En → Sto → Option (Nat × List (Key × D))
  | .r (.e (.var i)), ρ, S => match ρ[i]? with
    | some (some (.ref a)) => match S[a]? with
      | some (.dic ks) => some (a, ks)
      | _ => none
    | _ => none
  | _, _, _ => none
def flatD : D → Bool
  | .non => true
  | .bl _ => true
  | .int _ => true
  | .str _ => true
  | _ => false
def eqF : D → D → Bool
  | .non, .non => true
  | .bl a, .bl b => a == b
  | .bl a, .int b => (if a then 1 else 0) == b
  | .int a, .bl b => a == (if b then 1 else 0)
  | .int a, .int b => a == b
  | .str a, .str b => a == b
  | _, _ => false
/-- one letter in a text -/
def signIn (x : D) (r : RV) : Option Bool := match x, r with
  | .str ⟨⟨[c]⟩⟩, .val (.str z) => some (decide (c ∈ z.cps.toList))
  | _, _ => none
def inD (x : D) (r : RV) (S : Sto) : Option Bool := match sqOf S r with
  | some ds => if (flatD x && ds.all flatD) = true then some (ds.any fun y => eqF y x) else (match lsOf S r with
    | some ds => (match toP S x, toPs S ds with
      | some p, some ps => if (shp p && shp (.list ps)) = true then some (ps.any fun q => PyData.eqv q p) else none
      | _, _ => none)
    | none => none)
  | none => match signIn x r with
    | some b => some b
    | none => match dicOf S r, keyOf x with
      | some ks, some k => some (gD ks k).isSome
      | _, _ => none
/-- x.index(y), of data -/
def ixD (x y : D) (S : Sto) : Option Nat := match toP S x, toP S y with
  | some (.list ps), some p => if (shp p && shp (.list ps)) = true then ps.findIdx? (fun q => PyData.eqv q p) else none
  | some (.tuple ps), some p => if (shp p && shp (.list ps)) = true then ps.findIdx? (fun q => PyData.eqv q p) else none
  | _, _ => none
/-- t.index(i), of numbers, or of data -/
def tixD (ds : List D) (y : D) (S : Sto) : Res D := match y with
  | .int z => may (intsOf ds) fun ns => if z ∈ ns then .ok (.int ((ns.idxOf z : Nat) : Int)) S else .bad
  | y => may (ixD (.tup ds) y S) fun j => .ok (.int (j : Nat)) S
noncomputable def sortD (S : Sto) (ds : List D) : Res (List D) := match toPs S ds with
  | some ps => ask (PySem.W.AllAlike ps ∧ PySem.W.Sortable ps ∧ ∀ p ∈ ps, p.depth ≤ 64) (.ok (ds.mergeSort (PySem.W.dataLe false fun d => (toP S d).getD .none)) S)
  | none => .bad

mutual
noncomputable def evE (C : Orc) : CE → En → Sto → Res D
  | .var i, ρ, S => may ((ρ[i]?).bind id) fun d => .ok d S
  | .lit d, _, S => .ok d S
  | .tup es, ρ, S => (evEs C es ρ S).bind fun ds S1 => ask (ds.length ≤ sizeLine) (.ok (.tup ds) S1)
  | .alloc q, ρ, S => (evQ C q ρ S).bind fun ds S1 => .ok (.ref S1.length) (S1 ++ [.lst ds])
  | .bin o a b, ρ, S => (evE C a ρ S).bind fun x S1 => (evE C b ρ S1).bind fun y S2 => binD o x y S2
  | .neg a, ρ, S => (evE C a ρ S).bind fun x S1 => match x with
    | .int i => .ok (.int (-i)) S1
    | _ => .bad
  | .cmp o a b, ρ, S => (evE C a ρ S).bind fun x S1 => (evE C b ρ S1).bind fun y S2 => cmpD o x y S2
  | .chn o p a b c, ρ, S => (evE C a ρ S).bind fun x S1 => (evE C b ρ S1).bind fun y S2 => (cmpD o x y S2).bind fun z S3 => match z with
    | .bl true => (evE C c ρ S3).bind fun w S4 => cmpD p y w S4
    | .bl false => .ok (.bl false) S3
    | _ => .bad
  | .isN a, ρ, S => (evE C a ρ S).bind fun x S1 => .ok (.bl (isNon x)) S1
  | .notN a, ρ, S => (evE C a ρ S).bind fun x S1 => .ok (.bl (!isNon x)) S1
  | .inr a r, ρ, S => (evE C a ρ S).bind fun x S1 => (evR C r ρ S1).bind fun v S2 => may (inD x v S2) fun b => .ok (.bl b) S2
  | .notInr a r, ρ, S => (evE C a ρ S).bind fun x S1 => (evR C r ρ S1).bind fun v S2 => may (inD x v S2) fun b => .ok (.bl (!b)) S2
  | .and a b, ρ, S => (evE C a ρ S).bind fun x S1 => may (tru S1 x) fun k => if k = true then evE C b ρ S1 else .ok x S1
  | .or a b, ρ, S => (evE C a ρ S).bind fun x S1 => may (tru S1 x) fun k => if k = true then .ok x S1 else evE C b ρ S1
  | .not a, ρ, S => (evE C a ρ S).bind fun x S1 => may (tru S1 x) fun k => .ok (.bl (!k)) S1
  | .ife t a b, ρ, S => (evT C t ρ S).bind fun k S1 => if k = true then evE C a ρ S1 else evE C b ρ S1
  | .idx a i, ρ, S => (evE C a ρ S).bind fun x S1 => (evE C i ρ S1).bind fun y S2 => idxD x y S2
  | .slc a lo hi, ρ, S => (evE C a ρ S).bind fun x S1 => (evO C lo ρ S1).bind fun l S2 => (evO C hi ρ S2).bind fun u S3 => slcD x l u S3
  | .call f es, ρ, S => (evEs C es ρ S).bind fun ds S1 => C f ds S1
  | .fn1 f a, ρ, S => (evE C a ρ S).bind fun x S1 => fn1D f x S1
  | .fn2 f a b, ρ, S => (evE C a ρ S).bind fun x S1 => (evE C b ρ S1).bind fun y S2 => fn2D f x y S2
  | .agg f r, ρ, S => (evR C r ρ S).bind fun v S1 => aggD f v S1
  | .isi a t, ρ, S => (evE C a ρ S).bind fun x S1 => may (tyB t S1 x) fun b => .ok (.bl b) S1
  | .app l x, ρ, S => (evE C l ρ S).bind fun o S1 => withL S1 o fun _ _ => (evE C x ρ S1).bind fun v S2 => appD o v S2
  | .ext l r, ρ, S => (evE C l ρ S).bind fun o S1 => withL S1 o fun _ _ => (evR C r ρ S1).bind fun v S2 => extD o v S2
  | .pop l, ρ, S => (evE C l ρ S).bind fun o S1 => popD o S1
  | .popAt l i, ρ, S => (evE C l ρ S).bind fun o S1 => withL S1 o fun _ _ => (evE C i ρ S1).bind fun v S2 => popAtD o v S2
  | .join s r, ρ, S => (evR C r ρ S).bind fun v S1 => may (sqOf S1 v) fun ds => may (strsOf ds) fun ys => ask ((ys.map (·.length)).sum + ys.length * s.length ≤ 16777216) (.ok (.str (Txt.join s ys)) S1)
  | .tix a i, ρ, S => (evE C a ρ S).bind fun x S1 => match x with
    | .tup ds => (evE C i ρ S1).bind fun y S2 => tixD ds y S2
    | .ref j => withL S1 (.ref j) fun _ _ => (evE C i ρ S1).bind fun y S2 => may (ixD (.ref j) y S2) fun n => .ok (.int (n : Nat)) S2
    | _ => .bad
  | .ins l i x, ρ, S => (evE C l ρ S).bind fun o S1 => withL S1 o fun _ _ => (evE C i ρ S1).bind fun y S2 => (evE C x ρ S2).bind fun v S3 => insD o y v S3
  | .dnew, _, S => .ok (.ref S.length) (S ++ [.dic []])
  | .dget a k x, ρ, S => (evE C a ρ S).bind fun o S1 => withR S1 o fun _ _ => (evE C k ρ S1).bind fun y S2 => (evE C x ρ S2).bind fun z S3 => dgetD o y z S3
noncomputable def evO (C : Orc) : CO → En → Sto → Res (Option Int)
  | .none, _, S => .ok none S
  | .some e, ρ, S => (evE C e ρ S).bind fun x S1 => match x with
    | .int i => .ok (some i) S1
    | _ => .bad
noncomputable def evEs (C : Orc) : CEs → En → Sto → Res (List D)
  | .nil, _, S => .ok [] S
  | .cons a r, ρ, S => (evE C a ρ S).bind fun d S1 => (evEs C r ρ S1).bind fun ds S2 => .ok (d :: ds) S2
noncomputable def evQ (C : Orc) : CQ → En → Sto → Res (List D)
  | .disp es, ρ, S => (evEs C es ρ S).bind fun ds S1 => ask (ds.length ≤ sizeLine) (.ok ds S1)
  | .comp own g it elt, ρ, S => (evI C it ρ S).bind fun t S1 => ask (t.items.length ≤ sizeLine) (loopQ t.still (fun d S2 => may (bindN g d (wipeE ρ own) S2) fun ρ' => (evE C elt ρ' S2).bind fun x S3 => .ok (some x) S3) t.items S1)
  | .compIf own g it c elt, ρ, S => (evI C it ρ S).bind fun t S1 => ask (t.items.length ≤ sizeLine) (loopQ t.still (fun d S2 => may (bindN g d (wipeE ρ own) S2) fun ρ' => (evT C c ρ' S2).bind fun k S3 => if k = true then (evE C elt ρ' S3).bind fun x S4 => .ok (some x) S4 else .ok none S3) t.items S1)
  | .cat a b, ρ, S => (evR C a ρ S).bind fun v S1 => (evR C b ρ S1).bind fun w S2 => may (trOf S2 v) fun x => may (trOf S2 w) fun y => ask (x.length + y.length ≤ sizeLine) (.ok (x ++ y) S2)
  | .sorted r, ρ, S => (evR C r ρ S).bind fun v S1 => may (soOf S1 v) fun ds => sortD S1 ds
  | .list r, ρ, S => (evR C r ρ S).bind fun v S1 => may (lstOf S1 v) fun ds => .ok ds S1
  | .listRg a b, ρ, S => (evE C a ρ S).bind fun x S1 => (evE C b ρ S1).bind fun y S2 => match x, y with
    | .int i, .int j => ask (RgOk i j) (.ok (rgD i j) S2)
    | _, _ => .bad
  | .rev r, ρ, S => (evR C r ρ S).bind fun v S1 => may (lsOf S1 v) fun ds => .ok ds.reverse S1
noncomputable def evR (C : Orc) : CR → En → Sto → Res RV
  | .q c, ρ, S => (evQ C c ρ S).bind fun ds S1 => .ok (.own ds) S1
  | .e c, ρ, S => (evE C c ρ S).bind fun d S1 => .ok (.val d) S1
noncomputable def evI (C : Orc) : CI → En → Sto → Res Itv
  | .r c, ρ, S => (evR C c ρ S).bind fun v S1 => may (itOf v S1) fun t => .ok t S1
  | .rg a b, ρ, S => (evE C a ρ S).bind fun x S1 => (evE C b ρ S1).bind fun y S2 => match x, y with
    | .int i, .int j => ask (bd62 i ∧ bd62 j) (.ok ⟨rgD i j, none⟩ S2)
    | _, _ => .bad
  | .rgd a b, ρ, S => (evE C a ρ S).bind fun x S1 => (evE C b ρ S1).bind fun y S2 => match x, y with
    | .int i, .int j => ask (bd62 i ∧ bd62 j) (.ok ⟨rgdD i j, none⟩ S2)
    | _, _ => .bad
noncomputable def evT (C : Orc) : CT → En → Sto → Res Bool
  | .v e, ρ, S => (evE C e ρ S).bind fun x S1 => may (tru S1 x) fun k => .ok k S1
  | .and a b, ρ, S => (evT C a ρ S).bind fun k S1 => if k = true then evT C b ρ S1 else .ok false S1
  | .or a b, ρ, S => (evT C a ρ S).bind fun k S1 => if k = true then .ok true S1 else evT C b ρ S1
  | .not a, ρ, S => (evT C a ρ S).bind fun k S1 => .ok (!k) S1
end
mutual
noncomputable def evS (C : Orc) : CS → En → Sto → Res Fl
  | .set g e, ρ, S => (evE C e ρ S).bind fun d S1 => may (bindN g d ρ S1) fun ρ' => .ok (.nx ρ') S1
  | .par i j a b, ρ, S => (evE C a ρ S).bind fun x S1 => (evE C b ρ S1).bind fun y S2 => .ok (.nx ((ρ.set i (some x)).set j (some y))) S2
  | .sub o i e, ρ, S => (evE C e ρ S).bind fun d S1 => (evE C o ρ S1).bind fun x S2 => (evE C i ρ S2).bind fun y S3 => (setD x y d S3).bind fun _ S4 => .ok (.nx ρ) S4
  | .aug i p e, ρ, S => may ((ρ[i]?).bind id) fun x => (evE C e ρ S).bind fun y S1 => (augD p x y S1).bind fun z S2 => .ok (.nx (ρ.set i (some z))) S2
  | .augS o i p e, ρ, S => (evE C o ρ S).bind fun x S1 => (evE C i ρ S1).bind fun y S2 => (getD x y S2).bind fun v S3 => (evE C e ρ S3).bind fun w S4 => (augD p v w S4).bind fun z S5 => (setD x y z S5).bind fun _ S6 => .ok (.nx ρ) S6
  | .ex e, ρ, S => (evE C e ρ S).bind fun _ S1 => .ok (.nx ρ) S1
  | .ret e, ρ, S => (evE C e ρ S).bind fun d S1 => .ok (.rt d) S1
  | .ite t a b, ρ, S => (evT C t ρ S).bind fun k S1 => if k = true then evSs C a ρ S1 else evSs C b ρ S1
  | .for g it b, ρ, S => match dcAt it ρ S with
    | some (a, ks) => (loopS (fun S2 => S2[a]? = some (.frd ks)) (fun d ρ1 S2 => may (bindN g d ρ1 S2) fun ρ2 => evSs C b ρ2 S2) (ks.map fun p => keyD p.1) ρ (S.set a (.frd ks))).bind fun fl S3 => ask (S3[a]? = some (.frd ks)) (.ok fl (S3.set a (.dic ks)))
    | none => (evI C it ρ S).bind fun t S1 => loopS t.still (fun d ρ1 S2 => may (bindN g d ρ1 S2) fun ρ2 => evSs C b ρ2 S2) t.items ρ S1
  | .while t b, ρ, S => whileS (evT C t) (evSs C b) turns ρ S
  | .brk, ρ, S => .ok (.bk ρ) S
  | .cont, ρ, S => .ok (.ct ρ) S
  | .pass, ρ, S => .ok (.nx ρ) S
  | .raise, _, _ => .bad
noncomputable def evSs (C : Orc) : CSs → En → Sto → Res Fl
  | .nil, ρ, S => .ok (.nx ρ) S
  | .cons s r, ρ, S => (evS C s ρ S).bind fun fl S1 => match fl with
    | .nx ρ' => evSs C r ρ' S1
    | f => .ok f S1
end
end PQ

/-! What the language says, the machine does: expressions. -/
namespace L2
open PySem PySem.Spec PyProof.Rows
theorem PE.pq {X : Cx} {e : Expr} {t t' : TE} (h : PE X e t) (q : ∀ σ H Q, t' σ H Q → t σ H Q) : PE X e t' := ⟨fun pins s σ H Q I hw => h.run pins s σ H Q I (q σ H Q hw)⟩
theorem PT.pq {X : Cx} {e : Expr} {t t' : TT} (h : PT X e t) (q : ∀ σ H Q, t' σ H Q → t σ H Q) : PT X e t' := ⟨fun pins s σ H Q I hw => h.run pins s σ H Q I (q σ H Q hw)⟩
theorem PW.pq {X : Cx} {e : Expr} {t t' : TT} (h : PW X e t) (q : ∀ σ H Q, t' σ H Q → t σ H Q) : PW X e t' := ⟨fun w pins s σ H Q I hw => h.run w pins s σ H Q I (q σ H Q hw)⟩
theorem PA.pq {X : Cx} {e : List Expr} {t t' : TA} (h : PA X e t) (q : ∀ σ H Q, t' σ H Q → t σ H Q) : PA X e t' := ⟨fun pos pins s σ H Q I hw => h.run pos pins s σ H Q I (q σ H Q hw)⟩
theorem PO.pq {X : Cx} {e : Option Expr} {t t' : TO} (h : PO X e t) (q : ∀ σ H Q, t' σ H Q → t σ H Q) : PO X e t' := ⟨fun pins s σ H Q I hw => h.run pins s σ H Q I (q σ H Q hw)⟩

/-! ### defs called where nothing is being shown (no repr under way) -/
structure FnG (P : Program) (w : World) (K : PySem.W.Frag) (mg : Str → Option Value) (bh : Heap) (CX : CXT) (k : Nat) (f : Addr) (fd : FuncData) (ps : List Str) (sp : Sp) : Prop where
  ln : ∀ xs H Q E, sp xs H Q E → xs.length = ps.length
  go : ∀ (A : Around) (out : List Env) (s : Shared) (H : Hp) (ar : Args) (us : List Value) (xs : List V) (Q : VK) (E : XK), (Room k A ∧ A.guards = some []) → Env0 P w K mg bh A out s H → BindsTo s fd ar (ps.zip us) → Vals xs us → sp xs H Q E → codeAny (model P w) A (.call (.ref f) ar) (CR CX out P w H s Q E) s
theorem FnG.imp {P : Program} {w : World} {K : PySem.W.Frag} {mg : Str → Option Value} {bh : Heap} {CX : CXT} {k : Nat} {f : Addr} {fd : FuncData} {ps : List Str} {sp sp' : Sp} (F : FnG P w K mg bh CX k f fd ps sp) (q : ∀ xs H Q E, sp' xs H Q E → sp xs H Q E) : FnG P w K mg bh CX k f fd ps sp' :=
  ⟨fun xs H Q E z => F.ln xs H Q E (q _ _ _ _ z), fun A out s H ar us xs Q E hr he hb hv z => F.go A out s H ar us xs Q E hr he hb hv (q _ _ _ _ z)⟩
theorem FunD.okG {P : Program} {w : World} {K : PySem.W.Frag} {mg : Str → Option Value} {bh : Heap} {CX : CXT} {k : Nat} {f : Addr} {fd : FuncData} {x qual : Str} {params : Arguments} {body : List Stmt} {scope : Scope} {dvs : List V} {kws : List (Str × V)} {N ps : List Str} {sp : Sp} (F : FunD K x qual params body scope dvs kws f fd) (S : FnScope N ps scope) (ln : ∀ xs H Q E, sp xs H Q E → xs.length = ps.length)
    (hb : ∀ (cv : Value) (A : Around) (out : List Env) (s : Shared) (H : Hp) (xs : List V) (Q : VK) (E : XK), Room k (A.deeper (envOfC qual scope s.heap.objs.size f cv)) → (A.deeper (envOfC qual scope s.heap.objs.size f cv)).guards = some [] → sp xs H Q E → ∃ t, PSs (cxOf CX P w K mg bh N qual scope f cv A out s H E) body t ∧ t { nx := fun _ H' => Q .non H', rt := Q } (start N xs) H) : FnG P w K mg bh CX (k + 1) f fd ps sp := by
  obtain ⟨oc, od, dV, kV, doc, pm, an, cv, ct, osl, rfl, lk, hcd, _, _⟩ := F.ex
  refine ⟨ln, fun A out s H ar us xs Q E ⟨hr, gu⟩ e0 bi rv z => ?_⟩
  have le := ln _ _ _ _ z
  have kin := e0.mod.kin.keeps fun b o e => (e0.bs b o e).1
  have lm := e0.mod.nolimit.keeps fun b o e => (e0.bs b o e).1
  refine codeAny_call_function hr.depth (kin _ _ lk) rfl S.co S.gen rfl (PySem.W.codeRec_of kin hcd) (bi _ _ _ _ ?_)
  refine wpAny_newFunctionEnv_cells S.kind (fun y hy => ?_) fun en he s1 x1 => ?_
  · rcases S.par y.1 (List.of_mem_zip (show (y.1, y.2) ∈ ps.zip us from hy)).1 with q | q
    · exact .inl q
    · exact .inr ⟨q, PySem.W.cellsFrom_some _ _ _ (.inl q)⟩
  · subst he
    refine ⟨lm.keeps x1.toInCall.keep, codeAny_func ?_⟩
    obtain ⟨t, ht, hq⟩ := hb cv A out s H xs Q E (hr.deeper _) gu z
    have J := inv_start (CX := CX) (E := E) S hr.hd e0 le rv x1
    refine wpAny_mono (ht.run [] s1 (start N xs) H _ J hq) (fun fl s' hs => ?_) fun _ _ h => h
    cases fl with
    | ret u =>
      obtain ⟨v, _, H', J', r', q'⟩ := hs
      exact ⟨v, H', J'.os, J'.bare, J'.base, J'.hok, r', q'⟩
    | next =>
      obtain ⟨_, H', J', q'⟩ := hs
      exact ⟨V.non, H', J'.os, J'.bare, J'.base, J'.hok, rfl, q'⟩
    | brk => exact hs.elim fun _ ⟨_, _, q'⟩ => False.elim q'
    | cont => exact hs.elim fun _ ⟨_, _, q'⟩ => False.elim q'
section
variable {X : Cx} {CX : CXT} {k : Nat} {f : Addr} {fd : FuncData} {ps : List Str} {sp : Sp} {ds : List Value} {dvs : List V} {E : XK} {x : Str} {p pos : Pos} {e : Expr} {es : List Expr} {t : TA}
theorem run_fnG {pins : List (Addr × Obj)} {σ : St} {H : Hp} {s : Shared} {Q : VK} {us : List Value} {xs : List V} (F : FnG X.prog X.w X.K X.mg X.base CX k f fd ps sp) (hr : Room k X.A ∧ X.A.guards = some []) (hb : Binds X.K fd ps ds) (hd : Vals dvs ds) (hx : Passes CX X E) (I : Inv X pins σ H s) (rv : Vals xs us) (z : sp (xs ++ dvs) H Q E) : wpAny (model X.prog X.w) X.A (call (.ref f) us) (EP X pins σ Q) X.xe s := by
  have r2 := rv.append hd
  have hl : (us ++ ds).length = ps.length := r2.length.symm.trans (F.ln _ _ _ _ z)
  refine wpAny_call (codeAny_mono (F.go X.A X.stack s H ⟨us, []⟩ (us ++ ds) (xs ++ dvs) Q E hr I.env0 (hb s us I.kIn hl) r2 z) fun r s' hq => ?_)
  match r, hq with
  | .error _, hq => exact hx pins σ H s _ s' I hq
  | .ok (.ret _), hq => exact I.after hq
  | .ok .next, hq => exact False.elim hq
  | .ok .brk, hq => exact False.elim hq
  | .ok .cont, hq => exact False.elim hq
theorem pe_callG (F : FnG X.prog X.w X.K X.mg X.base CX k f fd ps sp) (hr : Room k X.A ∧ X.A.guards = some []) (hg : Gl X x) (hm : X.mg x = some (.ref f)) (hk : PySem.W.keepIn X.K (.ref f) = true) (hb : Binds X.K fd ps ds) (hd : Vals dvs ds) (hx : Passes CX X E) (ha : PA X (e :: es) t) (hdb : (x == ("__debug__" : Str)) = false) (he : starEach (e :: es) X.env = (false, eval e X.env) :: starEach es X.env) (hpl : (backTo pos (starEach es X.env)).any (·.1) = false) : PE X (.Call (.Name x p) (e :: es) [] pos) (tCall sp dvs E t) :=
  ⟨fun pins s σ H Q I h => wpAny_Call_Name_kw (ld_glob I hg hm (PySem.W.callWith_K (h₀ := X.base) I.ok.mod.kin hk (thn (ha.run pos pins s σ H _ I h) fun _ _ ⟨_, _, I1, r, q⟩ => ⟨I1.kIn, run_fnG F hr hb hd hx I1 r q⟩) he hpl) hdb)⟩
theorem pe_callG0 (F : FnG X.prog X.w X.K X.mg X.base CX k f fd ps sp) (hr : Room k X.A ∧ X.A.guards = some []) (hg : Gl X x) (hm : X.mg x = some (.ref f)) (hk : PySem.W.keepIn X.K (.ref f) = true) (hb : Binds X.K fd ps ds) (hd : Vals dvs ds) (hx : Passes CX X E) (hdb : (x == ("__debug__" : Str)) = false) : PE X (.Call (.Name x p) [] [] pos) (tCall sp dvs E tNil) :=
  ⟨fun _ _ _ _ _ I h => wpAny_Call_Name_kw (ld_glob I hg hm (PySem.W.callWith_K0 I.kIn hk (run_fnG (us := []) F hr hb hd hx I .nil h)) hdb)⟩
end
end L2

namespace PQ
open PySem PySem.Spec PyProof.Rows L2
abbrev Slots := L2.St

section
variable {K : Fg} {μ μ' μ1 : List Addr} {H H' H1 : Hp} {S S' : Sto} {σ : Slots} {ρ : En} {α β : Type}
/-- an answer, and what is wanted behind it -/
def Po (K : Fg) (μ : List Addr) (H : Hp) (r : Res α) (P : α → Sto → List Addr → Hp → Prop) : Prop := match r with
  | .ok a S' => ∀ μ' H', Ext K μ H μ' H' → StOk K μ' H' S' → P a S' μ' H'
  | _ => False
theorem Po.later {r : Res α} {P : α → Sto → List Addr → Hp → Prop} (e : Ext K μ H μ' H') (h : Po K μ H r P) : Po K μ' H' r P := by
  cases r with
  | ok a S' => exact fun μ2 H2 e2 s2 => h μ2 H2 (e.trans e2) s2
  | exc c fs S' => exact h
  | bad => exact h
theorem Po.imp {r : Res α} {P P' : α → Sto → List Addr → Hp → Prop} (h : Po K μ H r P) (q : ∀ a S' μ' H', r = .ok a S' → Ext K μ H μ' H' → StOk K μ' H' S' → P a S' μ' H' → P' a S' μ' H') : Po K μ H r P' := by
  cases r with
  | ok a S' => exact fun μ2 H2 e2 s2 => q a S' μ2 H2 rfl e2 s2 (h μ2 H2 e2 s2)
  | exc c fs S' => exact h
  | bad => exact h
theorem Po.bind {r : Res α} {f : α → Sto → Res β} {P : β → Sto → List Addr → Hp → Prop} (h : Po K μ H (r.bind f) P) : Po K μ H r fun a S' μ' H' => Po K μ' H' (f a S') P := by
  cases r with
  | ok a S' => exact fun μ2 H2 e2 s2 => Po.later e2 h
  | exc c fs S' => exact h
  | bad => exact h
theorem Po.ask {p : Prop} {r : Res α} {P : α → Sto → List Addr → Hp → Prop} (h : Po K μ H (ask p r) P) : p ∧ Po K μ H r P := by
  unfold PQ.ask at h
  split at h
  · exact ⟨by assumption, h⟩
  · exact h.elim
theorem Po.ite {p : Prop} [Decidable p] {r : Res α} {P : α → Sto → List Addr → Hp → Prop} (h : Po K μ H (if p then r else .bad) P) : p ∧ Po K μ H r P := by
  split at h
  · exact ⟨by assumption, h⟩
  · exact h.elim
theorem Po.may {o : Option β} {f : β → Res α} {P : α → Sto → List Addr → Hp → Prop} (h : Po K μ H (may o f) P) : ∃ a, o = some a ∧ Po K μ H (f a) P := by
  cases o with
  | none => exact h.elim
  | some a => exact ⟨a, rfl, h⟩
theorem Po.at {a : α} {P : α → Sto → List Addr → Hp → Prop} (h : Po K μ H (.ok a S) P) (s : StOk K μ H S) : P a S μ H := h μ H .refl s

/-- the names -/
def EnvOk (K : Fg) (μ : List Addr) (H : Hp) (ρ : En) (σ : Slots) : Prop := σ.length = ρ.length ∧ ∀ (i : Nat) d, ρ[i]? = some (some d) → ∃ v, σ[i]? = some (some v) ∧ Rp K μ H d v
theorem EnvOk.mono (e : Ext K μ H μ' H') (h : EnvOk K μ H ρ σ) : EnvOk K μ' H' ρ σ := ⟨h.1, fun i d q => let ⟨v, e1, e2⟩ := h.2 i d q; ⟨v, e1, e2.mono e⟩⟩
theorem EnvOk.set (h : EnvOk K μ H ρ σ) {d : D} {v : V} (r : Rp K μ H d v) (i : Nat) : EnvOk K μ H (ρ.set i (some d)) (σ.set i (some v)) := by
  refine ⟨by rw [List.length_set, List.length_set]; exact h.1, fun j d' q => ?_⟩
  by_cases hj : i = j
  · subst hj
    by_cases hi : i < ρ.length
    · rw [List.getElem?_set_self hi] at q
      cases q
      exact ⟨v, List.getElem?_set_self (by rw [h.1]; exact hi), r⟩
    · rw [List.getElem?_eq_none (by rw [List.length_set]; omega)] at q
      cases q
  · rw [List.getElem?_set_ne hj] at q ⊢
    exact h.2 j d' q
theorem EnvOk.wipe (h : EnvOk K μ H ρ σ) : ∀ vs : List Nat, EnvOk K μ H (wipeE ρ vs) (wipe σ vs)
  | [] => h
  | v :: vs => by
    have ih := EnvOk.wipe h vs
    refine ⟨by unfold wipeE L2.wipe; rw [List.length_set, List.length_set]; exact ih.1, fun j d q => ?_⟩
    unfold wipeE at q
    unfold L2.wipe
    by_cases hj : v = j
    · subst hj
      by_cases hi : v < (wipeE ρ vs).length
      · rw [List.getElem?_set_self hi] at q; cases q
      · rw [List.getElem?_eq_none (by rw [List.length_set]; omega)] at q; cases q
    · rw [List.getElem?_set_ne hj] at q ⊢
      exact ih.2 j d q

/-- a walked thing as it stands -/
def RvR (K : Fg) (μ : List Addr) (H : Hp) : RV → V → Prop
  | .own ds, v => ∃ a vs, v = .ref a ∧ H a = some (.lst vs) ∧ a ∉ μ ∧ RpA K μ H ds vs ∧ ds.length ≤ sizeLine
  | .val d, v => Rp K μ H d v
theorem Ext.notin (e : Ext K μ H μ' H') {a : Addr} {o : HO} (h : H a = some o) (n : a ∉ μ) : a ∉ μ' := by
  obtain ⟨l, rfl, q⟩ := e.pre
  intro m
  rcases List.mem_append.mp m with m | m
  · exact n m
  · rw [q a m] at h; cases h
theorem RvR.mono (e : Ext K μ H μ' H') {r : RV} {v : V} (h : RvR K μ H r v) : RvR K μ' H' r v := by
  cases r with
  | own ds =>
    obtain ⟨a, vs, h1, h2, h3, h4, h5⟩ := h
    exact ⟨a, vs, h1, e.fr a _ h2 h3, e.notin h2 h3, h4.mono e, h5⟩
  | val d => exact Rp.mono e h

/-! ### readings -/
def tE (K : Fg) (f : En → Sto → Res D) : TE := fun σ H Q => ∃ μ ρ S, EnvOk K μ H ρ σ ∧ StOk K μ H S ∧ Po K μ H (f ρ S) fun d _ μ' H' => ∀ v, Rp K μ' H' d v → Q v H'
def tT (K : Fg) (f : En → Sto → Res Bool) : TT := fun σ H Q => ∃ μ ρ S, EnvOk K μ H ρ σ ∧ StOk K μ H S ∧ Po K μ H (f ρ S) fun b _ _ H' => Q b H'
def tA (K : Fg) (f : En → Sto → Res (List D)) : TA := fun σ H Q => ∃ μ ρ S, EnvOk K μ H ρ σ ∧ StOk K μ H S ∧ Po K μ H (f ρ S) fun ds _ μ' H' => ∀ vs, RpA K μ' H' ds vs → Q vs H'
def tQ (K : Fg) (f : En → Sto → Res (List D)) : TE := fun σ H Q => ∃ μ ρ S, EnvOk K μ H ρ σ ∧ StOk K μ H S ∧ Po K μ H (f ρ S) fun ds _ μ' H' => ∀ a vs, H a = none → H' a = some (.lst vs) → a ∉ μ' → RpA K μ' H' ds vs → ds.length ≤ sizeLine → Q (.ref a) H'
def tR (K : Fg) (f : En → Sto → Res RV) : TE := fun σ H Q => ∃ μ ρ S, EnvOk K μ H ρ σ ∧ StOk K μ H S ∧ Po K μ H (f ρ S) fun r _ μ' H' => ∀ v, RvR K μ' H' r v → Q v H'
def tO (K : Fg) (f : En → Sto → Res (Option Int)) : TO := fun σ H Q => ∃ μ ρ S, EnvOk K μ H ρ σ ∧ StOk K μ H S ∧ Po K μ H (f ρ S) fun o _ _ H' => Q o H'

/-- a def's promise: what the oracle says of it -/
def spC (K : Fg) (C : Orc) (f : Nat) : Sp := fun vs H Q _ => ∃ μ ds S, StOk K μ H S ∧ RpA K μ H ds vs ∧ Po K μ H (C f ds S) fun d _ μ' H' => ∀ v, Rp K μ' H' d v → Q v H'

/-- what a module's name stands for: a value that stays, a built-in function -/
inductive Gv
  | con (d : D)
  | fn (id : String)
def GvOk (K : Fg) (mg : Str → Option Value) (x : Str) : Gv → Prop
  | .con d => ∃ v u, mg x = some u ∧ RelV v u ∧ ∀ μ H, Rp K μ H d v
  | .fn id => mg x = some (.builtin id)
/-- the place where a text stands: the defs' names, the built-ins' names, the def's names, its scope, the module's other names -/
structure Pl where
  T : List Str
  B : List Str
  N : List Str
  sc : Scope
  G : List (Str × Gv)
structure Good (X : Cx) (p : Pl) (C : Orc) : Prop where
  calm : X.calm = true
  gu : X.A.guards = some []
  nd : X.N.Nodup
  un : X.A.units + 3100 < cLine
  own : PassesOwn (model X.prog X.w) X.A X.env X.xe
  N : X.N = p.N
  sc : X.env.scope = p.sc
  blt : ∀ x, x ∈ p.B → X.mg x = none
  glb : ∀ x g, (x, g) ∈ p.G → GvOk X.K X.mg x g
  fn : ∀ (i : Nat) x, p.T[i]? = some x → ∃ f fd ps k, X.mg x = some (.ref f) ∧ FnG X.prog X.w X.K X.mg X.base CX0 k f fd ps (spC X.K C i) ∧ Room k X.A ∧ PySem.W.keepIn X.K (.ref f) = true ∧ Binds X.K fd ps []
end

/-! ### the judgements -/
def SdE (p : Pl) (e : Expr) (c : CE) : Prop := ∀ X C, Good X p C → PE X e (tE X.K (evE C c))
def SdT (p : Pl) (e : Expr) (c : CT) : Prop := ∀ X C, Good X p C → PT X e (tT X.K (evT C c))
def SdW (p : Pl) (e : Expr) (c : CT) : Prop := ∀ X C, Good X p C → PW X e (tT X.K (evT C c))
def SdA (p : Pl) (es : List Expr) (c : CEs) : Prop := ∀ X C, Good X p C → PA X es (tA X.K (evEs C c))
def SdQ (p : Pl) (e : Expr) (c : CQ) : Prop := ∀ X C, Good X p C → PE X e (tQ X.K (evQ C c))
def SdR (p : Pl) (e : Expr) (c : CR) : Prop := ∀ X C, Good X p C → PE X e (tR X.K (evR C c))
def SdO (p : Pl) (e : Option Expr) (c : CO) : Prop := ∀ X C, Good X p C → PO X e (tO X.K (evO C c))

section
variable {p : Pl} {a b c e : Expr} {ca cb cc : CE} {pos : Pos}
/-! ### names, constants -/
theorem sd_var {i : Nat} {x : Str} (hN : p.N[i]? = some x) (hv : Vis p.sc x) (hd : (x == ("__debug__" : Str)) = false) (hcd : (x == ("__classdict__" : Str)) = false) : SdE p (.Name x pos) (.var i) := fun X C g =>
  (pe_var (i := i) (by rw [g.N]; exact hN) (by rw [g.sc]; exact hv) hd hcd).pq fun σ H Q ⟨μ, ρ, S, he, hs, h⟩ => by
    unfold evE at h
    obtain ⟨d, e1, h⟩ := h.may
    have e2 : ρ[i]? = some (some d) := by
      cases q : ρ[i]? with
      | none => rw [q] at e1; cases e1
      | some o => rw [q] at e1; exact congrArg some e1
    obtain ⟨v, q1, q2⟩ := he.2 i d e2
    exact ⟨v, q1, h.at hs v q2⟩
theorem sd_lit {d : D} {v : V} (h : ∀ X : Cx, PE X e (tC v)) (r : ∀ K μ H, Rp K μ H d v) : SdE p e (.lit d) := fun X C g =>
  (h X).pq fun σ H Q ⟨μ, ρ, S, he, hs, h⟩ => by
    unfold evE at h
    exact h.at hs v (r _ _ _)
theorem sd_int {i j} : SdE p (.Constant (.int i) j pos) (.lit (.int i)) := sd_lit (v := .int i) (fun _ => pe_int) fun _ _ _ => rfl
theorem sd_bl {i j} : SdE p (.Constant (.bool i) j pos) (.lit (.bl i)) := sd_lit (v := .bl i) (fun _ => pe_bl) fun _ _ _ => rfl
theorem sd_non {j} : SdE p (.Constant .none j pos) (.lit .non) := sd_lit (v := .non) (fun _ => pe_non) fun _ _ _ => rfl
theorem sd_str {x j} : SdE p (.Constant (.str x) j pos) (.lit (.str x)) := sd_lit (v := .str x) (fun _ => pe_str) fun _ _ _ => rfl

/-! ### argument lists, displays -/
theorem sa_nil : SdA p [] .nil := fun X C g => pa_nil.pq fun σ H Q ⟨μ, ρ, S, he, hs, h⟩ => by
  unfold evEs at h
  exact h.at hs [] rfl
theorem sa_cons {es : List Expr} {r : CEs} (ha : SdE p a ca) (hr : SdA p es r) (hs : ∀ env, starEach (a :: es) env = (false, eval a env) :: starEach es env) : SdA p (a :: es) (.cons ca r) := fun X C g =>
  (pa_cons (ha X C g) (hr X C g) (hs _)).pq fun σ H Q ⟨μ, ρ, S, he, hs, h⟩ => by
    unfold evEs at h
    refine ⟨μ, ρ, S, he, hs, h.bind.imp fun d S1 μ1 H1 _ e1 s1 h1 v rv => ?_⟩
    refine ⟨μ1, ρ, S1, he.mono e1, s1, h1.bind.imp fun ds S2 μ2 H2 _ e2 s2 h2 vs rvs => ?_⟩
    exact h2.at s2 (v :: vs) (.cons (rv.mono e2) rvs)
theorem sd_tup {es : List Expr} {c : CEs} {k : Nat} (h : SdA p es c) : SdE p (.Tuple es k pos) (.tup c) := fun X C g =>
  (pe_tupN (h X C g)).pq fun σ H Q ⟨μ, ρ, S, he, hs, h⟩ => by
    unfold evE at h
    refine ⟨μ, ρ, S, he, hs, h.bind.imp fun ds S1 μ1 H1 _ e1 s1 h1 vs rvs => ?_⟩
    obtain ⟨z, h1⟩ := h1.ask
    refine ⟨by rw [← rvs.length]; exact z, fun q o hq c1 c2 => ?_⟩
    exact h1 μ1 _ (s1.fresh hq _) (s1.freshOk hq _) (.ref q) ⟨q, vs, rfl, .new c1 c2, rvs.mono (s1.fresh hq _), z⟩
theorem sq_disp {es : List Expr} {c : CEs} (h : SdA p es c) : SdQ p (.List es pos) (.disp c) := fun X C g =>
  (pe_lst (h X C g)).pq fun σ H Q ⟨μ, ρ, S, he, hs, h⟩ => by
    unfold evQ at h
    refine ⟨μ, ρ, S, he, hs, h.bind.imp fun ds S1 μ1 H1 _ e1 s1 h1 vs rvs => ?_⟩
    obtain ⟨z, h1⟩ := h1.ask
    refine ⟨by rw [← rvs.length]; exact z, fun q hq => ?_⟩
    refine h1 μ1 _ (s1.fresh hq _) (s1.freshOk hq _) q vs (e1.alive _ hq) upd_same (fun m => ?_) (rvs.mono (s1.fresh hq _)) z
    obtain ⟨u, e, _⟩ := s1.mem m
    rw [hq] at e; cases e
/-- a new list goes into the store -/
theorem sd_alloc {q : CQ} (h : SdQ p e q) : SdE p e (.alloc q) := fun X C g => (h X C g).pq fun σ H Q ⟨μ, ρ, S, he, hs, h⟩ => by
  unfold evE at h
  refine ⟨μ, ρ, S, he, hs, ?_⟩
  generalize evQ C q ρ S = r at h
  cases r with
  | ok ds S1 =>
    intro μ1 H1 e1 s1 a vs hn ha hm rvs hz
    refine h (μ1 ++ [a]) H1 (e1.take hn) (s1.take hm ha rvs hz) (.ref a) ⟨a, rfl, ?_⟩
    rw [← s1.len, List.getElem?_append_right (Nat.le_refl _), Nat.sub_self]
    rfl
  | exc c fs S' => exact h
  | bad => exact h
theorem sr_q {q : CQ} (h : SdQ p e q) : SdR p e (.q q) := fun X C g => (h X C g).pq fun σ H Q ⟨μ, ρ, S, he, hs, h⟩ => by
  unfold evR at h
  exact ⟨μ, ρ, S, he, hs, h.bind.imp fun ds S1 μ1 H1 _ e1 s1 h1 a vs hn ha hm rvs hz => h1.at s1 (.ref a) ⟨a, vs, rfl, ha, hm, rvs, hz⟩⟩
theorem sr_e (h : SdE p e ca) : SdR p e (.e ca) := fun X C g => (h X C g).pq fun σ H Q ⟨μ, ρ, S, he, hs, h⟩ => by
  unfold evR at h
  exact ⟨μ, ρ, S, he, hs, h.bind.imp fun d S1 μ1 H1 _ e1 s1 h1 v rv => h1.at s1 v rv⟩

/-! ### operators -/
/-- an operator of two values, by what it says of data -/
def OpS (g : D → D → Sto → Res D) (r : Fg → R2) : Prop := ∀ (K : Fg) (μ : List Addr) (H : Hp) (S : Sto) (x y : D) (v u : V) (Q : VK), StOk K μ H S → Rp K μ H x v → Rp K μ H y u → Po K μ H (g x y S) (fun d _ μ' H' => ∀ v, Rp K μ' H' d v → Q v H') → r K v u H Q
theorem tOp_imp {g : D → D → Sto → Res D} {r : Fg → R2} (hg : OpS g r) {K : Fg} {fa fb : En → Sto → Res D} {σ : Slots} {H : Hp} {Q : VK}
    (h : tE K (fun ρ S => (fa ρ S).bind fun x S1 => (fb ρ S1).bind fun y S2 => g x y S2) σ H Q) : tOp (r K) (tE K fa) (tE K fb) σ H Q := by
  obtain ⟨μ, ρ, S, he, hs, h⟩ := h
  refine ⟨μ, ρ, S, he, hs, h.bind.imp fun x S1 μ1 H1 _ e1 s1 h1 v rv => ?_⟩
  refine ⟨μ1, ρ, S1, he.mono e1, s1, h1.bind.imp fun y S2 μ2 H2 _ e2 s2 h2 u ru => ?_⟩
  exact hg K μ2 H2 S2 x y v u Q s2 (rv.mono e2) ru h2
theorem sd_bin {o : Bop} {op : Operator} {r : Fg → R2} (ho : ∀ X C, Good X p C → OpR X (binaryOp op) (r X.K)) (hg : OpS (binD o) r) (ha : SdE p a ca) (hb : SdE p b cb) : SdE p (.BinOp a op b pos) (.bin o ca cb) := fun X C g =>
  (pe_op (ho X C g) (ha X C g) (hb X C g)).pq fun σ H Q h => tOp_imp hg (by
    obtain ⟨μ, ρ, S, he, hs, h⟩ := h
    unfold evE at h
    exact ⟨μ, ρ, S, he, hs, h⟩)
theorem sd_cmp {o : Cop} {op : CmpOp} {r : Fg → R2} (ho : ∀ X C, Good X p C → OpR X (compareOp op) (r X.K)) (hg : OpS (cmpD o) r) (h1 : op ≠ .In) (h2 : op ≠ .NotIn) (ha : SdE p a ca) (hb : SdE p b cb) : SdE p (.Compare a [op] [b] pos) (.cmp o ca cb) := fun X C g =>
  (pe_cmpR (ho X C g) (ha X C g) (hb X C g) (nomark b h1 h2)).pq fun σ H Q h => tOp_imp hg (by
    obtain ⟨μ, ρ, S, he, hs, h⟩ := h
    unfold evE at h
    exact ⟨μ, ρ, S, he, hs, h⟩)

/-! the operators one by one -/
section
variable {K : Fg} {μ : List Addr} {H : Hp} {S : Sto} {x y d : D} {v u : V} {Q : VK}
theorem rp_tup {ds : List D} {p : Addr} {o : Obj} {vs : List V} (hs : StOk K μ H S) (hz : ds.length ≤ sizeLine) (r : RpA K μ H ds vs) (hp : H p = none) (c1 : o.cls = .type "tuple") (c2 : o.dict = none) : Rp K μ (upd H p (.frz o (.tup vs))) (.tup ds) (.ref p) :=
  ⟨p, vs, rfl, .new c1 c2, r.mono (hs.fresh hp _), hz⟩
/-- a new list at p that the store takes up -/
theorem take_new {ds : List D} {p : Addr} {vs : List V} (hs : StOk K μ H S) (hz : ds.length ≤ sizeLine) (r : RpA K μ H ds vs) (hp : H p = none) :
    Ext K μ H (μ ++ [p]) (upd H p (.lst vs)) ∧ StOk K (μ ++ [p]) (upd H p (.lst vs)) (S ++ [.lst ds]) ∧ Rp K (μ ++ [p]) (upd H p (.lst vs)) (.ref S.length) (.ref p) := by
  refine ⟨(hs.fresh hp _).take hp, (hs.freshOk hp _).take (fun m => ?_) upd_same (r.mono (hs.fresh hp _)) hz, p, rfl, ?_⟩
  · obtain ⟨w, e, _⟩ := hs.mem m
    rw [hp] at e; cases e
  · rw [← hs.len, List.getElem?_append_right (Nat.le_refl _), Nat.sub_self]
    rfl
theorem rp_ref {i : Nat} (r : Rp K μ H (.ref i) v) (hs : StOk K μ H S) {ds : List D} (e : S[i]? = some (.lst ds)) : ∃ a vs, v = .ref a ∧ μ[i]? = some a ∧ H a = some (.lst vs) ∧ RpA K μ H ds vs ∧ ds.length ≤ sizeLine := by
  obtain ⟨a, rfl, ea⟩ := r
  obtain ⟨vs, h1, h2, h3⟩ := hs.lst e ea
  exact ⟨a, vs, rfl, ea, h1, h2, h3⟩
end
end
end PQ

/-! The operators, subscripts, built-ins. -/
namespace PQ
open PySem PySem.Spec PyProof.Rows L2
section
variable {p : Pl} {a b c e : Expr} {ca cb cc : CE} {pos : Pos}
/-! ### arithmetic -/
theorem os_int {o : Bop} {g : Int → Int → Int} {C : Int → Int → Prop} (h1 : ∀ i j S, binD o (.int i) (.int j) S = ask (C i j) (.ok (.int (g i j)) S)) (h2 : ∀ x y S, (∀ i j, ¬ (x = .int i ∧ y = .int j)) → binD o x y S = .bad) : OpS (binD o) fun _ => rI C fun i j => .int (g i j) := by
  intro K μ H S x y v u Q hs rx ry h
  by_cases hc : ∃ i j, x = .int i ∧ y = .int j
  · obtain ⟨i, j, rfl, rfl⟩ := hc
    rw [h1] at h
    obtain ⟨hc, h⟩ := h.ask
    exact ⟨i, j, rx, ry, hc, h.at hs _ rfl⟩
  · rw [h2 x y S (fun i j z => hc ⟨i, j, z⟩)] at h
    exact h.elim
theorem os_int0 {o : Bop} {g : Int → Int → Int} (h1 : ∀ i j S, binD o (.int i) (.int j) S = .ok (.int (g i j)) S) (h2 : ∀ x y S, (∀ i j, ¬ (x = .int i ∧ y = .int j)) → binD o x y S = .bad) : OpS (binD o) fun _ => rI0 fun i j => .int (g i j) := by
  intro K μ H S x y v u Q hs rx ry h
  by_cases hc : ∃ i j, x = .int i ∧ y = .int j
  · obtain ⟨i, j, rfl, rfl⟩ := hc
    rw [h1] at h
    exact ⟨i, j, rx, ry, h.at hs _ rfl⟩
  · rw [h2 x y S (fun i j z => hc ⟨i, j, z⟩)] at h
    exact h.elim
/-- the other cases of an operator of ints -/
theorem bin_else (o : Bop) (ho : (match o with | .add => false | .mul => false | _ => true) = true) (x y : D) (S : Sto) (h : ∀ i j, ¬ (x = .int i ∧ y = .int j)) : binD o x y S = .bad := by
  cases o <;> first | (cases ho; done) | (cases x <;> cases y <;> first | rfl | exact absurd ⟨rfl, rfl⟩ (h _ _))
def rAddB : R2 := fun x y H Q => ∃ i b, x = .int i ∧ y = .bl b ∧ Q (.int (i + if b = true then 1 else 0)) H
theorem op_addB {X : Cx} : OpR X (binaryOp .Add) rAddB := by
  intro pins s σ H x y v u Q I rx ry q
  obtain ⟨i, b, rfl, rfl, q⟩ := q
  obtain ⟨t, rfl⟩ := rx
  cases ry
  exact add_int_bool ⟨.int _, H, I.tok _, ⟨_, rfl⟩, q⟩
def rMulS : R2 := fun x y H Q => ∃ a k, x = .str a ∧ y = .int k ∧ MulOk a k ∧ Q (.str (Txt.mul a k)) H
theorem op_mulS {X : Cx} : OpR X (binaryOp .Mult) rMulS := by
  intro pins s σ H x y v u Q I rx ry q
  obtain ⟨a, k, rfl, rfl, hk, q⟩ := q
  obtain ⟨t, rfl⟩ := rx
  obtain ⟨t', rfl⟩ := ry
  exact SB.mul hk fun t2 k2 => ⟨.str _, H, I.tok _, ⟨_, rfl⟩, q⟩
def rAdd4 (K : Fg) : R2 := fun x y H Q => rI0 (fun i j => .int (i + j)) x y H Q ∨ ((∃ i j, x = .str i ∧ y = .str j ∧ i.length + j.length ≤ sizeLine ∧ Q (.str (i ++ j)) H) ∨ (rCatN K x y H Q ∨ (rCat x y H Q ∨ rAddB x y H Q)))
theorem os_add : OpS (binD .add) rAdd4 := by
  intro K μ H S x y v u Q hs rx ry h
  cases x with
  | int i =>
    cases y with
    | int j => exact .inl ⟨i, j, rx, ry, h.at hs _ rfl⟩
    | bl b => exact .inr (.inr (.inr (.inr ⟨i, b, rx, ry, h.at hs _ rfl⟩)))
    | _ => exact (show False from h).elim
  | str i =>
    cases y with
    | str j =>
      obtain ⟨z, h⟩ := Po.ask h
      exact .inr (.inl ⟨i, j, rx, ry, z, h.at hs _ rfl⟩)
    | _ => exact (show False from h).elim
  | tup ds =>
    cases y with
    | tup es =>
      obtain ⟨z, h⟩ := Po.ask h
      obtain ⟨q1, vs, rfl, ha, ra, za⟩ := rx
      obtain ⟨q2, us, rfl, hb, rb, zb⟩ := ry
      refine .inr (.inr (.inl ⟨q1, q2, vs, us, rfl, rfl, ha.sq, hb.sq, by rw [← ra.length, ← rb.length]; exact z, fun e => ?_, fun _ e => ?_, fun _ _ p o hp c1 c2 => ?_⟩))
      · refine h.at hs _ ?_
        have : ds = [] := List.eq_nil_of_length_eq_zero (by rw [ra.length, e]; rfl)
        subst this
        exact ⟨q2, us, rfl, hb, rb, zb⟩
      · refine h.at hs _ ?_
        have : es = [] := List.eq_nil_of_length_eq_zero (by rw [rb.length, e]; rfl)
        subst this
        rw [List.append_nil]
        exact ⟨q1, vs, rfl, ha, ra, za⟩
      · exact h μ _ (hs.fresh hp _) (hs.freshOk hp _) _ (rp_tup hs (by rw [List.length_append]; exact z) (ra.append rb) hp c1 c2)
    | _ => exact (show False from h).elim
  | ref i =>
    cases y with
    | ref j =>
      have h : Po K μ H (match S[i]?, S[j]? with
        | some (.lst a), some (.lst b) => ask (a.length + b.length ≤ sizeLine) (Res.ok (D.ref S.length) (S ++ [Ob.lst (a ++ b)]))
        | _, _ => Res.bad) _ := h
      cases ei : S[i]? with
      | none => rw [ei] at h; exact (show False from h).elim
      | some o =>
        cases ej : S[j]? with
        | none => rw [ei, ej] at h; cases o <;> exact (show False from h).elim
        | some o' =>
          rw [ei, ej] at h
          cases o with
          | dic ks => first | (cases h; done) | exact (show False from h).elim
          | frd ks => first | (cases h; done) | exact (show False from h).elim
          | lst ds =>
            cases o' with
            | dic ks => first | (cases h; done) | exact (show False from h).elim
            | frd ks => first | (cases h; done) | exact (show False from h).elim
            | lst es =>
              obtain ⟨z, h⟩ := Po.ask h
              obtain ⟨q1, vs, rfl, _, ha, ra, _⟩ := rp_ref rx hs ei
              obtain ⟨q2, us, rfl, _, hb, rb, _⟩ := rp_ref ry hs ej
              refine .inr (.inr (.inr (.inl ⟨q1, q2, vs, us, rfl, rfl, ha, hb, by rw [← ra.length, ← rb.length]; exact z, fun p hp => ?_⟩)))
              obtain ⟨e1, s1, r1⟩ := take_new hs (by rw [List.length_append]; exact z) (ra.append rb) hp
              exact h _ _ e1 s1 _ r1
    | _ => exact (show False from h).elim
  | _ => exact (show False from h).elim
theorem sd_add (ha : SdE p a ca) (hb : SdE p b cb) : SdE p (.BinOp a .Add b pos) (.bin .add ca cb) := sd_bin (fun X C g => op_add.or (op_add_str.or (op_catN.or (op_cat.or op_addB)))) os_add ha hb
theorem sd_sub (ha : SdE p a ca) (hb : SdE p b cb) : SdE p (.BinOp a .Sub b pos) (.bin .sub ca cb) := sd_bin (fun X C g => op_sub) (os_int0 (fun _ _ _ => rfl) (bin_else .sub rfl)) ha hb
theorem opI' {X : Cx} {f : Value → Value → Sem Value} {C : Int → Int → Prop} {g : Int → Int → Int} (h : ∀ i j t u (Q : Value → Shared → Prop) s, C i j → (∀ t', Q (.int (g i j) t') { s with toks := s.toks + 1 }) → wpAny (model X.prog X.w) X.A (f (.int i t) (.int j u)) Q X.xe s) : OpR X f (rI C fun i j => .int (g i j)) := by
  intro pins s σ H x y v u Q I rx ry q
  obtain ⟨i, j, rfl, rfl, hc, q⟩ := q
  obtain ⟨t, rfl⟩ := rx
  obtain ⟨t', rfl⟩ := ry
  exact h i j t t' _ s hc fun t2 => ⟨.int _, H, I.tok _, ⟨_, rfl⟩, q⟩
def rMul2 : R2 := fun x y H Q => rI IntMulOk (fun i j => .int (i * j)) x y H Q ∨ (rRep x y H Q ∨ rMulS x y H Q)
theorem os_mul : OpS (binD .mul) fun _ => rMul2 := by
  intro K μ H S x y v u Q hs rx ry h
  cases x with
  | int i =>
    cases y with
    | int j =>
      obtain ⟨z, h⟩ := Po.ask h
      exact .inl ⟨i, j, rx, ry, z, h.at hs _ rfl⟩
    | _ => exact (show False from h).elim
  | ref i =>
    cases y with
    | int k =>
      have h : Po K μ H (match S[i]? with
        | some (.lst a) => ask (-(2 ^ 63) ≤ k ∧ k < 2 ^ 63 ∧ a.length * k.toNat ≤ sizeLine) (Res.ok (D.ref S.length) (S ++ [Ob.lst (List.replicate k.toNat a).flatten]))
        | _ => Res.bad) _ := h
      cases ei : S[i]? with
      | none => rw [ei] at h; exact (show False from h).elim
      | some o =>
        rw [ei] at h
        cases o with
        | dic ks => first | (cases h; done) | exact (show False from h).elim
        | frd ks => first | (cases h; done) | exact (show False from h).elim
        | lst ds =>
          obtain ⟨⟨k1, k2, z⟩, h⟩ := Po.ask h
          obtain ⟨q1, vs, rfl, _, ha, ra, _⟩ := rp_ref rx hs ei
          refine .inr (.inl ⟨q1, k, vs, rfl, ry, ha, k1, k2, by rw [← ra.length]; exact z, fun p hp => ?_⟩)
          have rep : ∀ n : Nat, RpA K μ H (List.replicate n ds).flatten (List.replicate n vs).flatten := fun n => by
            induction n with
            | zero => exact .nil
            | succ n ih =>
              rw [List.replicate_succ, List.replicate_succ, List.flatten_cons, List.flatten_cons]
              exact ra.append ih
          have zl : (List.replicate k.toNat ds).flatten.length ≤ sizeLine := by
            rw [List.length_flatten, List.map_replicate, List.sum_replicate_nat, Nat.mul_comm]
            exact z
          obtain ⟨e1, s1, r1⟩ := take_new hs zl (rep k.toNat) hp
          exact h _ _ e1 s1 _ r1
    | _ => exact (show False from h).elim
  | str a =>
    cases y with
    | int k =>
      obtain ⟨z, h⟩ := Po.ask (show Po K μ H (ask (MulOk a k) (Res.ok (D.str (Txt.mul a k)) S)) _ from h)
      exact .inr (.inr ⟨a, k, rx, ry, z, h.at hs _ rfl⟩)
    | _ => exact (show False from h).elim
  | _ => exact (show False from h).elim
theorem sd_mul (ha : SdE p a ca) (hb : SdE p b cb) : SdE p (.BinOp a .Mult b pos) (.bin .mul ca cb) := sd_bin (r := fun _ => rMul2) (fun X C g => (opI' fun _ _ _ _ _ _ hc q => mul_int (q _) hc).or (op_rep.or op_mulS)) os_mul ha hb
theorem sd_fdiv (ha : SdE p a ca) (hb : SdE p b cb) : SdE p (.BinOp a .FloorDiv b pos) (.bin .fdiv ca cb) :=
  sd_bin (r := fun _ => rI FDivOk fun i j => .int (i.fdiv j)) (fun X C g => opI' fun _ _ _ _ _ _ hc q => floordiv_int hc.1 (q _) (.inl hc.2)) (os_int (fun _ _ _ => rfl) (bin_else .fdiv rfl)) ha hb
theorem sd_mod (ha : SdE p a ca) (hb : SdE p b cb) : SdE p (.BinOp a .Mod b pos) (.bin .mod ca cb) :=
  sd_bin (r := fun _ => rI (fun _ j => j ≠ 0) fun i j => .int (i.fmod j)) (fun X C g => op_modN) (os_int (C := fun _ j => j ≠ 0) (fun _ _ _ => rfl) (bin_else .mod rfl)) ha hb
theorem sd_pow (ha : SdE p a ca) (hb : SdE p b cb) : SdE p (.BinOp a .Pow b pos) (.bin .pow ca cb) :=
  sd_bin (r := fun _ => rI CPow fun i j => .int (i ^ j.toNat)) (fun X C g => op_pow) (os_int (C := CPow) (fun _ _ _ => rfl) (bin_else .pow rfl)) ha hb
theorem sd_shl (ha : SdE p a ca) (hb : SdE p b cb) : SdE p (.BinOp a .LShift b pos) (.bin .shl ca cb) :=
  sd_bin (r := fun _ => rI CPow fun i j => .int (i * 2 ^ j.toNat)) (fun X C g => op_shl) (os_int (C := CPow) (fun _ _ _ => rfl) (bin_else .shl rfl)) ha hb
theorem sd_shr (ha : SdE p a ca) (hb : SdE p b cb) : SdE p (.BinOp a .RShift b pos) (.bin .shr ca cb) :=
  sd_bin (r := fun _ => rI (fun _ j => 0 ≤ j) fun i j => .int (i / 2 ^ j.toNat)) (fun X C g => op_shr) (os_int (C := fun _ j => 0 ≤ j) (fun _ _ _ => rfl) (bin_else .shr rfl)) ha hb
theorem sd_band (ha : SdE p a ca) (hb : SdE p b cb) : SdE p (.BinOp a .BitAnd b pos) (.bin .band ca cb) := sd_bin (fun X C g => op_and) (os_int0 (fun _ _ _ => rfl) (bin_else .band rfl)) ha hb
theorem sd_bor (ha : SdE p a ca) (hb : SdE p b cb) : SdE p (.BinOp a .BitOr b pos) (.bin .bor ca cb) := sd_bin (fun X C g => op_or) (os_int0 (fun _ _ _ => rfl) (bin_else .bor rfl)) ha hb
theorem sd_bxor (ha : SdE p a ca) (hb : SdE p b cb) : SdE p (.BinOp a .BitXor b pos) (.bin .bxor ca cb) := sd_bin (fun X C g => op_xor) (os_int0 (fun _ _ _ => rfl) (bin_else .bxor rfl)) ha hb
theorem sd_neg (ha : SdE p a ca) : SdE p (.UnaryOp .USub a pos) (.neg ca) := fun X C g => (pe_un un_neg (ha X C g)).pq fun σ H Q ⟨μ, ρ, S, he, hs, h⟩ => by
  unfold evE at h
  refine ⟨μ, ρ, S, he, hs, h.bind.imp fun x S1 μ1 H1 _ e1 s1 h1 v rv => ?_⟩
  cases x with
  | int i => exact ⟨i, rv, h1.at s1 _ rfl⟩
  | _ => exact (show False from h1).elim

/-! ### comparisons -/
section
variable {K : Fg} {μ : List Addr} {H : Hp} {S : Sto}
theorem refP_dp (hs : StOk K μ H S) : ∀ (n i : Nat) (a : Addr) (q : PyData), μ[i]? = some a → refP S n i = some q → Dp K H (.ref a) q
  | 0, _, _, _, _, h => by cases h
  | n + 1, i, a, q, ea, h => by
    have h : (match S[i]? with
      | some (Ob.lst ds) => (toPsW (refP S n) ds).map PyData.list
      | _ => none) = some q := h
    cases ei : S[i]? with
    | none => rw [ei] at h; cases h
    | some o =>
      rw [ei] at h
      cases o with
      | dic ks => first | (cases h; done) | exact (show False from h).elim
      | frd ks => first | (cases h; done) | exact (show False from h).elim
      | lst ds =>
        obtain ⟨vs, h1, h2, _⟩ := hs.lst ei ea
        cases e : toPsW (refP S n) ds with
        | none => have h : (toPsW (refP S n) ds).map PyData.list = some q := h; rw [e] at h; cases h
        | some qs =>
          have h : (toPsW (refP S n) ds).map PyData.list = some q := h
          rw [e] at h
          cases h
          exact .lst (.of h1) (go hs n ds vs qs h2 e)
where
  go (hs : StOk K μ H S) (n : Nat) : ∀ (ds : List D) (vs : List V) (qs : List PyData), RpA K μ H ds vs → toPsW (refP S n) ds = some qs → DpAll K H vs qs
    | [], _, _, r, h => by
      cases h
      rw [show _ = ([] : List V) from r]
      exact .nil
    | d :: ds, _, qs, ⟨v, r, h1, h2, h3⟩, h => by
      have h : (match toPW (refP S n) d, toPsW (refP S n) ds with
        | some p, some ps => some (p :: ps)
        | _, _ => none) = some qs := h
      cases e1 : toPW (refP S n) d with
      | none => rw [e1] at h; cases h
      | some q1 =>
        cases e2 : toPsW (refP S n) ds with
        | none => rw [e1, e2] at h; cases h
        | some q2 =>
          rw [e1, e2] at h
          cases h
          rw [h1]
          exact .cons (one hs n d v q1 h2 e1) (go hs n ds r q2 h3 e2)
  one (hs : StOk K μ H S) (n : Nat) : ∀ (d : D) (v : V) (q : PyData), Rp K μ H d v → toPW (refP S n) d = some q → Dp K H v q
    | .non, _, _, r, h => by cases h; rw [show _ = V.non from r]; exact .non
    | .bl b, _, _, r, h => by cases h; rw [show _ = V.bl b from r]; exact .bl b
    | .int i, _, _, r, h => by cases h; rw [show _ = V.int i from r]; exact .int i
    | .str x, _, _, r, h => by cases h; rw [show _ = V.str x from r]; exact .str x
    | .tup ds, _, q, ⟨a, vs, e, h1, h2, _⟩, h => by
      have h : (toPsW (refP S n) ds).map PyData.tuple = some q := h
      cases e1 : toPsW (refP S n) ds with
      | none => rw [e1] at h; cases h
      | some qs =>
        rw [e1] at h
        cases h
        rw [e]
        exact .tup h1.sq (go hs n ds vs qs h2 e1)
    | .fix ds, _, q, ⟨a, vs, e, h1, h2, _⟩, h => by
      have h : (toPsW (refP S n) ds).map PyData.list = some q := h
      cases e1 : toPsW (refP S n) ds with
      | none => rw [e1] at h; cases h
      | some qs =>
        rw [e1] at h
        cases h
        rw [e]
        exact .lst h1.sq (go hs n ds vs qs h2 e1)
    | .ref i, _, q, ⟨a, e, ea⟩, h => by
      rw [e]
      exact refP_dp hs n i a q ea h
theorem toP_dp (hs : StOk K μ H S) {d : D} {v : V} {q : PyData} (r : Rp K μ H d v) (h : toP S d = some q) : Dp K H v q := refP_dp.one hs 8 d v q r h
theorem toPs_dp (hs : StOk K μ H S) {ds : List D} {vs : List V} {qs : List PyData} (r : RpA K μ H ds vs) (h : toPs S ds = some qs) : DpAll K H vs qs := refP_dp.go hs 8 ds vs qs r h
end
section
variable {K : Fg} {μ : List Addr} {H : Hp} {S : Sto} {x y : D} {v u : V}
theorem scal_rp (rx : Rp K μ H x v) (ry : Rp K μ H y u) (h : scalD x y = true) : scal v u = true ∧ decide (v = u) = eqSc x y := by
  cases x <;> cases y <;> first
    | (cases h; done)
    | (cases rx; cases ry; refine ⟨rfl, ?_⟩; simp [eqSc])
/-- == and != of data -/
def rEq2 (K : Fg) (neg : Bool) : R2 := fun x y H Q => (scal x y = true ∧ Q (.bl (if neg then !decide (x = y) else decide (x = y))) H) ∨ ∃ d e, Dp K H x d ∧ Dp K H y e ∧ shp d = true ∧ shp e = true ∧ Q (.bl (if neg then !PyData.eqv d e else PyData.eqv d e)) H
theorem dEq_ok (hs : StOk K μ H S) {Q : VK} {b : Bool} (neg : Bool) (rx : Rp K μ H x v) (ry : Rp K μ H y u) (h : dEq S x y = some b) (q : Q (.bl (if neg then !b else b)) H) : rEq2 K neg v u H Q := by
  unfold dEq at h
  split at h
  · rename_i hc
    obtain ⟨h1, h2⟩ := scal_rp rx ry hc
    cases h
    exact .inl ⟨h1, by rw [h2]; exact q⟩
  · split at h
    · rename_i p1 p2 e1 e2
      split at h
      · rename_i hsh
        cases h
        rw [Bool.and_eq_true] at hsh
        exact .inr ⟨p1, p2, toP_dp hs rx e1, toP_dp hs ry e2, hsh.1, hsh.2, q⟩
      · cases h
    · cases h
end
theorem os_cmpI {o : Cop} {g : Int → Int → Bool} {b : PyData → PyData → Bool} (h1 : ∀ i j S, cmpD o (.int i) (.int j) S = .ok (.bl (g i j)) S) (h2 : ∀ x y S, (∀ i j, ¬ (x = .int i ∧ y = .int j)) → cmpD o x y S = ordD o x y S) (hb : ∀ p q, ordP o p q = b p q) : OpS (cmpD o) fun K x y H Q => rI0 (fun i j => .bl (g i j)) x y H Q ∨ rOrd b K x y H Q := by
  intro K μ H S x y v u Q hs rx ry h
  by_cases hc : ∃ i j, x = .int i ∧ y = .int j
  · obtain ⟨i, j, rfl, rfl⟩ := hc
    rw [h1] at h
    exact .inl ⟨i, j, rx, ry, h.at hs _ rfl⟩
  · rw [h2 x y S (fun i j z => hc ⟨i, j, z⟩)] at h
    unfold ordD at h
    cases e1 : toP S x with
    | none => rw [e1] at h; exact h.elim
    | some p =>
      cases e2 : toP S y with
      | none => rw [e1, e2] at h; exact h.elim
      | some q =>
        rw [e1, e2] at h
        obtain ⟨hz, h⟩ := Po.ite (show Po K μ H (if cmpOk p q = true then Res.ok (D.bl (ordP o p q)) S else Res.bad) _ from h)
        exact .inr ⟨p, q, toP_dp hs rx e1, toP_dp hs ry e2, hz, by
          rw [← hb]
          exact h.at hs _ rfl⟩
theorem cmp_else (o : Cop) (ho : (match o with | .eq => false | .ne => false | _ => true) = true) (x y : D) (S : Sto) (h : ∀ i j, ¬ (x = .int i ∧ y = .int j)) : cmpD o x y S = ordD o x y S := by
  cases o <;> first | (cases ho; done) | (cases x <;> first | rfl | (cases y <;> first | rfl | exact absurd ⟨rfl, rfl⟩ (h _ _)))
/-- is None -/
theorem isN_rp {K : Fg} {μ : List Addr} {H : Hp} {x : D} {v : V} (r : Rp K μ H x v) : decide (v = V.non) = isNon x := by
  cases x with
  | tup ds => obtain ⟨a, vs, rfl, _⟩ := r; rfl
  | fix ds => obtain ⟨a, vs, rfl, _⟩ := r; rfl
  | ref i => obtain ⟨a, rfl, _⟩ := r; rfl
  | _ => cases r; rfl
end
end PQ

/-! Tests, subscripts, calls, built-ins. -/
namespace PQ
open PySem PySem.Spec PyProof.Rows L2

/-! ### conditions on the text -/
def notStar : Expr → Bool
  | .Starred .. => false
  | _ => true
theorem star_cons {e : Expr} (h : notStar e = true) (es : List Expr) (env : Env) : starEach (e :: es) env = (false, eval e env) :: starEach es env := by
  cases e <;> first | rfl | (cases h; done)
theorem star_any : ∀ {es : List Expr} (pos : Pos) (env : Env), es.all notStar = true → (backTo pos (starEach es env)).any (·.1) = false
  | [], _, _, _ => rfl
  | e :: es, pos, env, h => by
    rw [List.all_cons, Bool.and_eq_true] at h
    rw [star_cons h.1]
    show (false || (backTo pos (starEach es env)).any (·.1)) = false
    rw [star_any pos env h.2]
    rfl
def plainTest : Expr → Bool
  | .UnaryOp .Not _ _ => false
  | .BoolOp .. => false
  | .IfExp .. => false
  | .Compare .. => false
  | _ => true
theorem plain_true {e : Expr} (h : plainTest e = true) (env : Env) (w : Sem Value) : isTrue e env w = (do let v ← w; standAt e.pos; holding [v] (truthy v)) := by
  cases e with
  | UnaryOp o a p => cases o <;> first | rfl | (cases h; done)
  | _ => first | rfl | (cases h; done)
def notSlice : Expr → Bool
  | .Slice .. => false
  | _ => true
theorem plain_ix {e : Expr} (h : notSlice e = true) : PlainIx e := by
  intro o i
  cases e <;> first | rfl | (cases h; done)
theorem aug_store {i : Expr} (h : notSlice i = true) (ov iv new : Value) : augStore i ov iv new = (do holding [new, ov, iv] (setItem ov iv new); release [new, ov, iv] []; pure .next) := by
  cases i <;> first | rfl | (cases h; done)
theorem sub_store {o i : Expr} {pos : Pos} (h : notSlice i = true) (env : Env) (v : Value) : assign (.Subscript o i pos) env v = (do
      let ov ← holding [v] (eval o env)
      let iv ← holding [v, ov] (eval i env)
      standAt pos
      holding [v, ov, iv] (setItem ov iv v)
      release [v, ov, iv] []) := by
  cases i <;> first | rfl | (cases h; done)
def notComp : Expr → Bool
  | .ListComp .. => false
  | .SetComp .. => false
  | .DictComp .. => false
  | _ => true
theorem no_swap {e : Expr} (h : notComp e = true) (t : Option Expr) (l : Nat) (env : Env) : swapsWith e t l env = pure false := by
  cases e <;> first | rfl | (cases h; done)
def notSet : Expr → Bool
  | .Set .. => false
  | _ => true
theorem no_fold {e : Expr} (h : notSet e = true) (env : Env) (x : Value) : foldedSetIterable e env x = pure x := by
  cases e <;> first | rfl | (cases h; done)
def notCall : Expr → Bool
  | .Call _ (_ :: _) _ _ => true
  | .Call .. => false
  | _ => true
theorem plain_base {e : Expr} (h : notCall e = true) (n : Str) (env : Env) (w : Sem Value) : attributeBase e n env w = w := by
  cases e with
  | Call f as ks ps =>
    cases as with
    | nil => cases h
    | cons a r => cases f <;> rfl
  | _ => rfl

section
variable {p : Pl} {a b c e : Expr} {ca cb cc : CE} {pos : Pos} {ta tb : CT}
/-! ### truth -/
theorem tru_rp {K : Fg} {μ : List Addr} {H : Hp} {S : Sto} (hs : StOk K μ H S) {x : D} {v : V} {k : Bool} (r : Rp K μ H x v) (h : tru S x = some k) : TruV K v H k := by
  have emp : ∀ {ds : List D} {vs : List V}, RpA K μ H ds vs → (!ds.isEmpty) = !vs.isEmpty := fun {ds vs} r => by
    have := r.length
    cases ds <;> cases vs <;> first | rfl | (simp at this)
  cases x with
  | non => cases r; cases h; rfl
  | bl b => cases r; cases h; rfl
  | int i => cases r; cases h; rfl
  | str x =>
    cases r
    have h : (if x.length ≤ sizeLine then some (x.length != 0) else none) = some k := h
    split at h
    · cases h
      refine ⟨by assumption, ?_⟩
      rw [Bool.eq_iff_iff]
      simp only [bne_iff_ne, ne_eq]
      omega
    · cases h
  | tup ds =>
    obtain ⟨a, vs, rfl, h1, h2, _⟩ := r
    cases h
    exact .inr (.inl ⟨vs, h1.sq, emp h2⟩)
  | fix ds =>
    obtain ⟨a, vs, rfl, h1, h2, _⟩ := r
    cases h
    exact .inl ⟨vs, h1.sq, emp h2⟩
  | ref i =>
    have h : (match S[i]? with
      | some (Ob.lst ds) => some (!ds.isEmpty)
      | _ => none) = some k := h
    cases ei : S[i]? with
    | none => rw [ei] at h; cases h
    | some o =>
      rw [ei] at h
      cases o with
      | dic ks => first | (cases h; done) | exact (show False from h).elim
      | frd ks => first | (cases h; done) | exact (show False from h).elim
      | lst ds =>
        obtain ⟨a, vs, rfl, _, h1, h2, _⟩ := rp_ref r hs ei
        cases h
        exact .inl ⟨vs, .of h1, emp h2⟩
theorem sd_and {rest : List Expr} (ha : SdE p a ca) (hb : SdE p (.BoolOp .And (b :: rest) pos) cb) : SdE p (.BoolOp .And (a :: b :: rest) pos) (.and ca cb) := fun X C g => (pe_andT (ha X C g) (hb X C g)).pq fun σ H Q ⟨μ, ρ, S, he, hs, h⟩ => by
  unfold evE at h
  refine ⟨μ, ρ, S, he, hs, h.bind.imp fun x S1 μ1 H1 _ e1 s1 h1 v rv => ?_⟩
  obtain ⟨k, ek, h1⟩ := h1.may
  refine ⟨k, tru_rp s1 rv ek, ?_⟩
  cases k with
  | true => rw [if_pos rfl] at h1 ⊢; exact ⟨μ1, ρ, S1, he.mono e1, s1, h1⟩
  | false => rw [if_neg Bool.false_ne_true] at h1 ⊢; exact h1.at s1 v rv
theorem sd_or {rest : List Expr} (ha : SdE p a ca) (hb : SdE p (.BoolOp .Or (b :: rest) pos) cb) : SdE p (.BoolOp .Or (a :: b :: rest) pos) (.or ca cb) := fun X C g => (pe_orT (ha X C g) (hb X C g)).pq fun σ H Q ⟨μ, ρ, S, he, hs, h⟩ => by
  unfold evE at h
  refine ⟨μ, ρ, S, he, hs, h.bind.imp fun x S1 μ1 H1 _ e1 s1 h1 v rv => ?_⟩
  obtain ⟨k, ek, h1⟩ := h1.may
  refine ⟨k, tru_rp s1 rv ek, ?_⟩
  cases k with
  | true => rw [if_pos rfl] at h1 ⊢; exact h1.at s1 v rv
  | false => rw [if_neg Bool.false_ne_true] at h1 ⊢; exact ⟨μ1, ρ, S1, he.mono e1, s1, h1⟩
theorem sd_one {op} (ha : SdE p a ca) : SdE p (.BoolOp op [a] pos) ca := fun X C g => pe_one (ha X C g)
theorem sd_not (ha : SdE p a ca) : SdE p (.UnaryOp .Not a pos) (.not ca) := fun X C g => (pe_notT (ha X C g)).pq fun σ H Q ⟨μ, ρ, S, he, hs, h⟩ => by
  unfold evE at h
  refine ⟨μ, ρ, S, he, hs, h.bind.imp fun x S1 μ1 H1 _ e1 s1 h1 v rv => ?_⟩
  obtain ⟨k, ek, h1⟩ := h1.may
  exact ⟨k, tru_rp s1 rv ek, h1.at s1 _ rfl⟩
theorem sd_ife (ht : SdT p c ta) (ha : SdE p a ca) (hb : SdE p b cb) : SdE p (.IfExp c a b pos) (.ife ta ca cb) := fun X C g => (pe_ifExp (ht X C g) (ha X C g) (hb X C g)).pq fun σ H Q ⟨μ, ρ, S, he, hs, h⟩ => by
  unfold evE at h
  refine ⟨μ, ρ, S, he, hs, h.bind.imp fun k S1 μ1 H1 _ e1 s1 h1 => ?_⟩
  cases k with
  | true => rw [if_pos rfl] at h1 ⊢; exact ⟨μ1, ρ, S1, he.mono e1, s1, h1⟩
  | false => rw [if_neg Bool.false_ne_true] at h1 ⊢; exact ⟨μ1, ρ, S1, he.mono e1, s1, h1⟩

/-! ### tests -/
theorem st_plain (h : plainTest e = true) (ha : SdE p e ca) : SdT p e (.v ca) := fun X C g => (pt_truth (ha X C g) (fun w => plain_true h _ w)).pq fun σ H Q ⟨μ, ρ, S, he, hs, h⟩ => by
  unfold evT at h
  refine ⟨μ, ρ, S, he, hs, h.bind.imp fun x S1 μ1 H1 _ e1 s1 h1 v rv => ?_⟩
  obtain ⟨k, ek, h1⟩ := h1.may
  exact ⟨k, tru_rp s1 rv ek, h1.at s1⟩
/-- a comparison: its value, its test -/
def SdC (p : Pl) (e : Expr) (c : CE) : Prop := ∀ X C, Good X p C → ∃ t, PE X e t ∧ PT X e (tTest t) ∧ ∀ σ H Q, tE X.K (evE C c) σ H Q → t σ H Q
def isB : D → Bool
  | .bl _ => true
  | _ => false
theorem SdC.val (h : SdC p e ca) : SdE p e ca := fun X C g => by
  obtain ⟨t, h1, _, h3⟩ := h X C g
  exact h1.pq h3
theorem SdC.test (h : SdC p e ca) (hb : ∀ C ρ S d S', evE C ca ρ S = .ok d S' → isB d = true) : SdT p e (.v ca) := fun X C g => by
  obtain ⟨t, _, h2, h3⟩ := h X C g
  refine h2.pq fun σ H Q ⟨μ, ρ, S, he, hs, h⟩ => h3 σ H _ ?_
  unfold evT at h
  refine ⟨μ, ρ, S, he, hs, h.bind.imp fun x S1 μ1 H1 ex e1 s1 h1 v rv => ?_⟩
  have := hb _ _ _ _ _ ex
  cases x with
  | bl b =>
    cases rv
    obtain ⟨k, ek, h1⟩ := h1.may
    cases ek
    exact ⟨b, rfl, h1.at s1⟩
  | _ => cases this
theorem sw_and1 (ha : SdT p a ta) : SdW p (.BoolOp .And [a] pos) ta := fun X C g => pw_and1 (ha X C g)
theorem sw_or1 (ha : SdT p a ta) : SdW p (.BoolOp .Or [a] pos) ta := fun X C g => pw_or1 (ha X C g)
theorem sw_and {rest : List Expr} (ha : SdT p a ta) (hb : SdW p (.BoolOp .And (b :: rest) pos) tb) : SdW p (.BoolOp .And (a :: b :: rest) pos) (.and ta tb) := fun X C g => (pw_and (ha X C g) (hb X C g)).pq fun σ H Q ⟨μ, ρ, S, he, hs, h⟩ => by
  unfold evT at h
  refine ⟨μ, ρ, S, he, hs, h.bind.imp fun k S1 μ1 H1 _ e1 s1 h1 => ?_⟩
  cases k with
  | true => rw [if_pos rfl] at h1 ⊢; exact ⟨μ1, ρ, S1, he.mono e1, s1, h1⟩
  | false => rw [if_neg Bool.false_ne_true] at h1 ⊢; exact h1.at s1
theorem sw_or {rest : List Expr} (ha : SdT p a ta) (hb : SdW p (.BoolOp .Or (b :: rest) pos) tb) : SdW p (.BoolOp .Or (a :: b :: rest) pos) (.or ta tb) := fun X C g => (pw_or (ha X C g) (hb X C g)).pq fun σ H Q ⟨μ, ρ, S, he, hs, h⟩ => by
  unfold evT at h
  refine ⟨μ, ρ, S, he, hs, h.bind.imp fun k S1 μ1 H1 _ e1 s1 h1 => ?_⟩
  cases k with
  | true => rw [if_pos rfl] at h1 ⊢; exact h1.at s1
  | false => rw [if_neg Bool.false_ne_true] at h1 ⊢; exact ⟨μ1, ρ, S1, he.mono e1, s1, h1⟩
theorem st_w (h : SdW p e ta) : SdT p e ta := fun X C g => (h X C g).pt
theorem st_not (ha : SdT p a ta) : SdT p (.UnaryOp .Not a pos) (.not ta) := fun X C g => (pt_not (ha X C g)).pq fun σ H Q ⟨μ, ρ, S, he, hs, h⟩ => by
  unfold evT at h
  exact ⟨μ, ρ, S, he, hs, h.bind.imp fun k S1 μ1 H1 _ e1 s1 h1 => h1.at s1⟩

/-! ### comparisons by their sign -/
def copOp : Cop → CmpOp
  | .eq => .Eq | .ne => .NotEq | .lt => .Lt | .le => .LtE | .gt => .Gt | .ge => .GtE
def copR : Cop → Fg → R2
  | .eq, K => rEq2 K false
  | .ne, K => rEq2 K true
  | .lt, K => fun x y H Q => rI0 (fun i j => .bl (decide (i < j))) x y H Q ∨ rOrd (fun d e => PySem.W.dataLt d e) K x y H Q
  | .le, K => fun x y H Q => rI0 (fun i j => .bl (decide (i ≤ j))) x y H Q ∨ rOrd (fun d e => !PySem.W.dataLt e d) K x y H Q
  | .gt, K => fun x y H Q => rI0 (fun i j => .bl (decide (j < i))) x y H Q ∨ rOrd (fun d e => PySem.W.dataLt e d) K x y H Q
  | .ge, K => fun x y H Q => rI0 (fun i j => .bl (decide (j ≤ i))) x y H Q ∨ rOrd (fun d e => !PySem.W.dataLt d e) K x y H Q
theorem cop_op (o : Cop) (X : Cx) (C : Orc) (g : Good X p C) : OpR X (compareOp (copOp o)) (copR o X.K) := by
  have := g.un
  cases o with
  | eq => exact op_eq.or (op_eqP (by omega))
  | ne => exact op_ne.or (op_neP (by omega))
  | lt => exact op_lt.or (op_ltO (by omega))
  | le => exact op_le.or (op_leO (by omega))
  | gt => exact op_gt.or (op_gtO (by omega))
  | ge => exact op_ge.or (op_geO (by omega))
theorem cop_os (o : Cop) : OpS (cmpD o) (copR o) := by
  cases o with
  | eq =>
      intro K μ H S x y v u Q hs rx ry h
      obtain ⟨b, e, h⟩ := Po.may (show Po K μ H (may (dEq S x y) fun b => Res.ok (D.bl b) S) _ from h)
      exact dEq_ok hs false rx ry e (h.at hs _ rfl)
  | ne =>
      intro K μ H S x y v u Q hs rx ry h
      obtain ⟨b, e, h⟩ := Po.may (show Po K μ H (may (dEq S x y) fun b => Res.ok (D.bl (!b)) S) _ from h)
      exact dEq_ok hs true rx ry e (h.at hs _ rfl)
  | lt => exact os_cmpI (fun _ _ _ => rfl) (cmp_else .lt rfl) fun _ _ => rfl
  | le => exact os_cmpI (fun _ _ _ => rfl) (cmp_else .le rfl) fun _ _ => rfl
  | gt => exact os_cmpI (fun _ _ _ => rfl) (cmp_else .gt rfl) fun _ _ => rfl
  | ge => exact os_cmpI (fun _ _ _ => rfl) (cmp_else .ge rfl) fun _ _ => rfl
theorem cmp_bl {o : Cop} {x y : D} {S : Sto} {d : D} {S' : Sto} (h : cmpD o x y S = .ok d S') : ∃ k, d = .bl k := by
  cases o with
  | eq =>
    have h : may (dEq S x y) (fun b => Res.ok (D.bl b) S) = .ok d S' := h
    cases e : dEq S x y with
    | none => rw [e] at h; cases h
    | some k => rw [e] at h; cases h; exact ⟨_, rfl⟩
  | ne =>
    have h : may (dEq S x y) (fun b => Res.ok (D.bl (!b)) S) = .ok d S' := h
    cases e : dEq S x y with
    | none => rw [e] at h; cases h
    | some k => rw [e] at h; cases h; exact ⟨_, rfl⟩
  | _ =>
    have key : ∀ o : Cop, ordD o x y S = .ok d S' → ∃ k, d = .bl k := fun o h => by
      unfold ordD at h
      split at h
      · split at h
        · cases h; exact ⟨_, rfl⟩
        · cases h
      · cases h
    cases x <;> first | exact key .lt h | exact key .le h | exact key .gt h | exact key .ge h | (cases y <;> first | exact key .lt h | exact key .le h | exact key .gt h | exact key .ge h | (injection h with h1 h2; exact ⟨_, h1.symm⟩))
theorem bind_ok {α β : Type} {r : Res α} {f : α → Sto → Res β} {b : β} {S' : Sto} (h : r.bind f = .ok b S') : ∃ a S1, r = .ok a S1 ∧ f a S1 = .ok b S' := by
  cases r with
  | ok a S1 => exact ⟨a, S1, rfl, h⟩
  | exc c fs S1 => cases h
  | bad => cases h
theorem may_ok {α β : Type} {o : Option α} {f : α → Res β} {b : β} {S' : Sto} (h : may o f = .ok b S') : ∃ a, o = some a ∧ f a = .ok b S' := by
  cases o with
  | none => cases h
  | some a => exact ⟨a, rfl, h⟩
theorem sc_cmp (o : Cop) (ha : SdE p a ca) (hb : SdE p b cb) : SdC p (.Compare a [copOp o] [b] pos) (.cmp o ca cb) := fun X C g => by
  have h1 : copOp o ≠ .In := by cases o <;> (intro z; cases z)
  have h2 : copOp o ≠ .NotIn := by cases o <;> (intro z; cases z)
  refine ⟨_, pe_cmpR (cop_op o X C g) (ha X C g) (hb X C g) (nomark b h1 h2), pt_cmpR (cop_op o X C g) (ha X C g) (hb X C g) (nomark b h1 h2), fun σ H Q h => tOp_imp (cop_os o) ?_⟩
  obtain ⟨μ, ρ, S, he, hs, h⟩ := h
  unfold evE at h
  exact ⟨μ, ρ, S, he, hs, h⟩
theorem b_cmp {o : Cop} : ∀ C ρ S d S', evE C (.cmp o ca cb) ρ S = .ok d S' → isB d = true := fun C ρ S d S' h => by
  unfold evE at h
  obtain ⟨x, S1, _, h⟩ := bind_ok h
  obtain ⟨y, S2, _, h⟩ := bind_ok h
  obtain ⟨k, rfl⟩ := cmp_bl h
  rfl
theorem sc_chn (o q : Cop) (hm : lastMarks [copOp o, copOp q] [b, c] = false) (ha : SdE p a ca) (hb : SdE p b cb) (hc : SdE p c cc) : SdC p (.Compare a [copOp o, copOp q] [b, c] pos) (.chn o q ca cb cc) := fun X C g => by
  refine ⟨_, pe_chain (cop_op o X C g) (cop_op q X C g) (ha X C g) (hb X C g) (hc X C g) hm, pt_chain (cop_op o X C g) (cop_op q X C g) (ha X C g) (hb X C g) (hc X C g) hm, fun σ H Q ⟨μ, ρ, S, he, hs, h⟩ => ?_⟩
  unfold evE at h
  refine ⟨μ, ρ, S, he, hs, h.bind.imp fun x S1 μ1 H1 _ e1 s1 h1 v rv => ?_⟩
  refine ⟨μ1, ρ, S1, he.mono e1, s1, h1.bind.imp fun y S2 μ2 H2 _ e2 s2 h2 u ru => ?_⟩
  refine cop_os o X.K μ2 H2 S2 x y v u _ s2 (rv.mono e2) ru (h2.bind.imp fun z S3 μ3 H3 ez e3 s3 h3 w rw_ => ?_)
  obtain ⟨k, rfl⟩ := cmp_bl ez
  refine ⟨k, rw_, ?_⟩
  cases k with
  | true =>
    rw [if_pos rfl]
    refine ⟨μ3, ρ, S3, he.mono (e1.trans (e2.trans e3)), s3, h3.bind.imp fun w' S4 μ4 H4 _ e4 s4 h4 t rt => ?_⟩
    exact cop_os q X.K μ4 H4 S4 y w' u t Q s4 ((ru.mono e3).mono e4) rt h4
  | false =>
    rw [if_neg Bool.false_ne_true]
    exact h3.at s3 _ rfl
theorem b_chn {o q : Cop} : ∀ C ρ S d S', evE C (.chn o q ca cb cc) ρ S = .ok d S' → isB d = true := fun C ρ S d S' h => by
  unfold evE at h
  obtain ⟨x, S1, _, h⟩ := bind_ok h
  obtain ⟨y, S2, _, h⟩ := bind_ok h
  obtain ⟨z, S3, ez, h⟩ := bind_ok h
  obtain ⟨k, rfl⟩ := cmp_bl ez
  cases k with
  | true =>
    obtain ⟨w, S4, _, h⟩ := bind_ok h
    obtain ⟨k, rfl⟩ := cmp_bl h
    rfl
  | false => cases h; rfl
theorem sc_isN {j pos'} (ha : SdE p a ca) : SdC p (.Compare a [.Is] [.Constant .none j pos'] pos) (.isN ca) := fun X C g => by
  refine ⟨_, pe_cmp (pc_isN (ha X C g)), pt_cmp (pc_isN (ha X C g)), fun σ H Q ⟨μ, ρ, S, he, hs, h⟩ => ?_⟩
  unfold evE at h
  refine ⟨μ, ρ, S, he, hs, h.bind.imp fun x S1 μ1 H1 _ e1 s1 h1 v rv => ?_⟩
  show Q (V.bl (decide (v = V.non))) H1
  rw [isN_rp rv]
  exact h1.at s1 _ rfl
theorem sc_notN {j pos'} (ha : SdE p a ca) : SdC p (.Compare a [.IsNot] [.Constant .none j pos'] pos) (.notN ca) := fun X C g => by
  refine ⟨_, pe_cmp (pc_notN (ha X C g)), pt_cmp (pc_notN (ha X C g)), fun σ H Q ⟨μ, ρ, S, he, hs, h⟩ => ?_⟩
  unfold evE at h
  refine ⟨μ, ρ, S, he, hs, h.bind.imp fun x S1 μ1 H1 _ e1 s1 h1 v rv => ?_⟩
  show Q (V.bl (!decide (v = V.non))) H1
  rw [isN_rp rv]
  exact h1.at s1 _ rfl
theorem b_isN : ∀ C ρ S d S', evE C (.isN ca) ρ S = .ok d S' → isB d = true := fun C ρ S d S' h => by
  unfold evE at h
  obtain ⟨x, S1, _, h⟩ := bind_ok h
  cases h; rfl
theorem b_notN : ∀ C ρ S d S', evE C (.notN ca) ρ S = .ok d S' → isB d = true := fun C ρ S d S' h => by
  unfold evE at h
  obtain ⟨x, S1, _, h⟩ := bind_ok h
  cases h; rfl
end
end PQ

/-! Subscripts, calls, built-ins. -/
namespace PQ
open PySem PySem.Spec PyProof.Rows L2
section
variable {p : Pl} {a b c e : Expr} {ca cb cc : CE} {cr : CR} {pos : Pos}
section
variable {K : Fg} {μ : List Addr} {H : Hp} {S : Sto} {x y d : D} {v u : V} {Q : VK} {ds : List D} {vs : List V} {r : RV}
theorem ls_rv (hs : StOk K μ H S) (rv : RvR K μ H r v) (h : lsOf S r = some ds) : ∃ a vs, v = .ref a ∧ SqL K H a vs ∧ RpA K μ H ds vs ∧ ds.length ≤ sizeLine := by
  cases r with
  | own es =>
    cases h
    obtain ⟨a, vs, h1, h2, _, h4, h5⟩ := rv
    exact ⟨a, vs, h1, .of h2, h4, h5⟩
  | val d =>
    cases d with
    | fix es =>
      cases h
      obtain ⟨a, vs, h1, h2, h3, h4⟩ := rv
      exact ⟨a, vs, h1, h2.sq, h3, h4⟩
    | ref i =>
      have h : (match S[i]? with
        | some (Ob.lst ds) => some ds
        | _ => none) = some ds := h
      cases ei : S[i]? with
      | none => rw [ei] at h; cases h
      | some o =>
        rw [ei] at h
        cases o with
        | dic ks => first | (cases h; done) | exact (show False from h).elim
        | frd ks => first | (cases h; done) | exact (show False from h).elim
        | lst es =>
          cases h
          obtain ⟨a, vs, h1, _, h2, h3, h4⟩ := rp_ref rv hs ei
          exact ⟨a, vs, h1, .of h2, h3, h4⟩
    | _ => cases h
theorem tr_rv (hs : StOk K μ H S) (rv : RvR K μ H r v) (h : trOf S r = some ds) : ∃ a vs, v = .ref a ∧ H a = some (.lst vs) ∧ RpA K μ H ds vs ∧ ds.length ≤ sizeLine := by
  cases r with
  | own es =>
    cases h
    obtain ⟨a, vs, h1, h2, _, h4, h5⟩ := rv
    exact ⟨a, vs, h1, h2, h4, h5⟩
  | val d =>
    cases d with
    | ref i =>
      have h : (match S[i]? with
        | some (Ob.lst ds) => some ds
        | _ => none) = some ds := h
      cases ei : S[i]? with
      | none => rw [ei] at h; cases h
      | some o =>
        rw [ei] at h
        cases o with
        | dic ks => first | (cases h; done) | exact (show False from h).elim
        | frd ks => first | (cases h; done) | exact (show False from h).elim
        | lst es =>
          cases h
          obtain ⟨a, vs, h1, _, h2, h3, h4⟩ := rp_ref rv hs ei
          exact ⟨a, vs, h1, h2, h3, h4⟩
    | _ => cases h
theorem sq_rv (hs : StOk K μ H S) (rv : RvR K μ H r v) (h : sqOf S r = some ds) : ∃ a vs, v = .ref a ∧ (SqL K H a vs ∨ (SqN K H a vs ∧ r = .val (.tup ds))) ∧ RpA K μ H ds vs ∧ ds.length ≤ sizeLine := by
  by_cases ht : ∃ es, r = .val (.tup es)
  · obtain ⟨es, rfl⟩ := ht
    cases h
    obtain ⟨a, vs, h1, h2, h3, h4⟩ := rv
    exact ⟨a, vs, h1, .inr ⟨h2, rfl⟩, h3, h4⟩
  · have h : lsOf S r = some ds := by
      cases r with
      | own es => exact h
      | val d => cases d <;> first | exact h | exact absurd ⟨_, rfl⟩ ht
    obtain ⟨a, vs, h1, h2, h3, h4⟩ := ls_rv hs rv h
    exact ⟨a, vs, h1, .inl h2, h3, h4⟩
theorem sq_or {a : Addr} {X : Prop} (h : SqL K H a vs ∨ (SqN K H a vs ∧ X)) : SqL K H a vs ∨ SqT K H a vs := h.elim .inl fun z => .inr z.1.sq
theorem rp_ints : ∀ {ds : List D} {vs : List V} {ns : List Int}, RpA K μ H ds vs → intsOf ds = some ns → vs = ns.map V.int
  | [], _, _, r, h => by cases h; exact r
  | d :: ds, _, ns, ⟨v, r, e, h1, h2⟩, h => by
    cases d with
    | int i =>
      have h : (intsOf ds).map (i :: ·) = some ns := h
      cases e1 : intsOf ds with
      | none => rw [e1] at h; cases h
      | some ms =>
        rw [e1] at h
        cases h
        rw [e, show v = V.int i from h1, rp_ints h2 e1]
        rfl
    | _ => cases h
theorem rp_bools : ∀ {ds : List D} {vs : List V} {ns : List Bool}, RpA K μ H ds vs → boolsOf ds = some ns → vs = ns.map V.bl
  | [], _, _, r, h => by cases h; exact r
  | d :: ds, _, ns, ⟨v, r, e, h1, h2⟩, h => by
    cases d with
    | bl i =>
      have h : (boolsOf ds).map (i :: ·) = some ns := h
      cases e1 : boolsOf ds with
      | none => rw [e1] at h; cases h
      | some ms =>
        rw [e1] at h
        cases h
        rw [e, show v = V.bl i from h1, rp_bools h2 e1]
        rfl
    | _ => cases h
theorem rp_at (r : RpA K μ H ds vs) {i : Int} (h : atI ds i = some d) : ∃ v, atI vs i = some v ∧ Rp K μ H d v := by
  unfold atI at h ⊢
  rw [← r.length]
  cases e : ixN ds.length i with
  | none => rw [e] at h; cases h
  | some j =>
    rw [e] at h
    exact r.get h
theorem cutD_ok (r : RpA K μ H ds vs) (lo hi : Option Int) : RpA K μ H (cutD ds lo hi) (cutV vs lo hi) := by
  unfold cutD cutV
  rw [r.length]
  exact (r.drop _).take _
theorem cutD_len (ds : List D) (lo hi : Option Int) : (cutD ds lo hi).length ≤ ds.length := by
  unfold cutD
  rw [List.length_take, List.length_drop]
  omega
end

/-! ### a[i], a[lo:hi] -/
/-- d[k] of a dict -/
def rIxD : R2 := fun x y H Q => ∃ a v, x = .ref a ∧ DGet H a y (some v) ∧ Q v H
theorem ix_dic {X : Cx} (hu : X.A.units + 1 < cLine) : IxR X rIxD := by
  intro value slice pins s σ H x y v u Q I rx ry h hs
  obtain ⟨a, w, rfl, g, q⟩ := h
  cases rx
  exact tail_any (dict_typeIs I g) PySem.F.slot_dict_getitem.lookup (d_getItem hu I g ry fun w' s' I' rw' => ⟨w, H, I', rw', q⟩) hs
def rIx2 (K : Fg) : R2 := fun x y H Q => rIxD x y H Q ∨ rIx K x y H Q
theorem dic_rv {K : Fg} {μ : List Addr} {H : Hp} {S : Sto} {v : V} {r : RV} {ks : List (Key × D)} (hs : StOk K μ H S) (rv : RvR K μ H r v) (h : dicOf S r = some ks) : ∃ a vs, v = .ref a ∧ Rd H a (.dK vs) ∧ RpK K μ H ks vs ∧ ks.length ≤ sizeLine ∧ Nk ks := by
  cases r with
  | own es => cases h
  | val d =>
    cases d with
    | ref i =>
      have h : (match S[i]? with
        | some (Ob.dic ks) => some ks
        | some (Ob.frd ks) => some ks
        | _ => none) = some ks := h
      cases ei : S[i]? with
      | none => rw [ei] at h; cases h
      | some o =>
        rw [ei] at h
        cases o with
        | lst ds => cases h
        | dic ks' =>
          cases h
          obtain ⟨a, e1, ea⟩ := rv
          obtain ⟨vs, h1, h2, h3, h4⟩ := hs.dic ei ea
          exact ⟨a, vs, e1, .inl h1, h2, h3, h4⟩
        | frd ks' =>
          cases h
          obtain ⟨a, e1, ea⟩ := rv
          obtain ⟨vs, h1, h2, h3, h4⟩ := hs.frd ei ea
          exact ⟨a, vs, e1, .inr h1, h2, h3, h4⟩
    | _ => cases h
theorem rp_refD {K : Fg} {μ : List Addr} {H : Hp} {S : Sto} {v : V} {i : Nat} (r : Rp K μ H (.ref i) v) (hs : StOk K μ H S) {ks : List (Key × D)} (e : S[i]? = some (.dic ks)) : ∃ a vs, v = .ref a ∧ μ[i]? = some a ∧ H a = some (.dK vs) ∧ RpK K μ H ks vs ∧ ks.length ≤ sizeLine ∧ Nk ks := by
  obtain ⟨a, rfl, ea⟩ := r
  obtain ⟨vs, h1, h2, h3, h4⟩ := hs.dic e ea
  exact ⟨a, vs, rfl, ea, h1, h2, h3, h4⟩
theorem rp_refF {K : Fg} {μ : List Addr} {H : Hp} {S : Sto} {v : V} {i : Nat} (r : Rp K μ H (.ref i) v) (hs : StOk K μ H S) {ks : List (Key × D)} (e : S[i]? = some (.frd ks)) : ∃ a vs, v = .ref a ∧ μ[i]? = some a ∧ (∃ o, H a = some (.frz o (.dK vs))) ∧ RpK K μ H ks vs ∧ ks.length ≤ sizeLine ∧ Nk ks := by
  obtain ⟨a, rfl, ea⟩ := r
  obtain ⟨vs, h1, h2, h3, h4⟩ := hs.frd e ea
  exact ⟨a, vs, rfl, ea, h1, h2, h3, h4⟩
theorem dget_rd {H : Hp} {a : Addr} {kvs : List (Key × V)} {k : Key} (h : Rd H a (.dK kvs)) : DGet H a (kV k) (valV kvs k) := .inl ⟨kvs, k, h, rfl, rfl⟩
theorem os_idx : OpS idxD rIx2 := by
  intro K μ H S x y v u Q hs rx ry h
  cases x with
  | tup ds =>
    cases y with
    | int i =>
      obtain ⟨d, e, h⟩ := Po.may (show Po K μ H (may (atI ds i) fun d => Res.ok d S) _ from h)
      obtain ⟨a, vs, rfl, h1, h2, _⟩ := rx
      obtain ⟨w, e1, r1⟩ := rp_at h2 e
      exact .inr (.inr (.inl ⟨a, vs, i, w, rfl, ry, h1.sq, e1, h.at hs w r1⟩))
    | _ => exact (show False from h).elim
  | fix ds =>
    cases y with
    | int i =>
      obtain ⟨d, e, h⟩ := Po.may (show Po K μ H (may (atI ds i) fun d => Res.ok d S) _ from h)
      obtain ⟨a, vs, rfl, h1, h2, _⟩ := rx
      obtain ⟨w, e1, r1⟩ := rp_at h2 e
      exact .inr (.inl ⟨a, vs, i, w, rfl, ry, h1.sq, e1, h.at hs w r1⟩)
    | _ => exact (show False from h).elim
  | ref n =>
    cases y with
    | int i =>
      have h : Po K μ H (match S[n]? with
        | some (Ob.lst ds) => may (atI ds i) fun d => Res.ok d S
        | some (Ob.dic ks) => may (gD ks (.inl i)) fun d => Res.ok d S
        | some (Ob.frd ks) => may (gD ks (.inl i)) fun d => Res.ok d S
        | none => Res.bad) _ := h
      cases ei : S[n]? with
      | none => rw [ei] at h; exact (show False from h).elim
      | some o =>
        rw [ei] at h
        cases o with
        | lst ds =>
          obtain ⟨d, e, h⟩ := Po.may h
          obtain ⟨a, vs, rfl, _, h1, h2, _⟩ := rp_ref rx hs ei
          obtain ⟨w, e1, r1⟩ := rp_at h2 e
          exact .inr (.inl ⟨a, vs, i, w, rfl, ry, .of h1, e1, h.at hs w r1⟩)
        | dic ks =>
          obtain ⟨d, e, h⟩ := Po.may h
          obtain ⟨a, vs, rfl, _, h1, h2, _⟩ := rp_refD rx hs ei
          obtain ⟨w, e1, r1⟩ := h2.getS e
          refine .inl ⟨a, w, rfl, ?_, h.at hs w r1⟩
          rw [show u = kV (.inl i) from ry, ← e1]
          exact DGet.k h1
        | frd ks =>
          obtain ⟨d, e, h⟩ := Po.may h
          obtain ⟨a, vs, rfl, _, h1, h2, _⟩ := rp_refF rx hs ei
          obtain ⟨w, e1, r1⟩ := h2.getS e
          refine .inl ⟨a, w, rfl, ?_, h.at hs w r1⟩
          rw [show u = kV (.inl i) from ry, ← e1]
          exact dget_rd (.inr h1)
    | str z =>
      have h : Po K μ H (match S[n]? with
        | some (Ob.dic ks) => may (gD ks (.inr z)) fun d => Res.ok d S
        | some (Ob.frd ks) => may (gD ks (.inr z)) fun d => Res.ok d S
        | _ => Res.bad) _ := h
      cases ei : S[n]? with
      | none => rw [ei] at h; exact (show False from h).elim
      | some o =>
        rw [ei] at h
        cases o with
        | lst ds => exact (show False from h).elim
        | dic ks =>
          obtain ⟨d, e, h⟩ := Po.may h
          obtain ⟨a, vs, rfl, _, h1, h2, _⟩ := rp_refD rx hs ei
          obtain ⟨w, e1, r1⟩ := h2.getS e
          refine .inl ⟨a, w, rfl, ?_, h.at hs w r1⟩
          rw [show u = kV (.inr z) from ry, ← e1]
          exact DGet.k h1
        | frd ks =>
          obtain ⟨d, e, h⟩ := Po.may h
          obtain ⟨a, vs, rfl, _, h1, h2, _⟩ := rp_refF rx hs ei
          obtain ⟨w, e1, r1⟩ := h2.getS e
          refine .inl ⟨a, w, rfl, ?_, h.at hs w r1⟩
          rw [show u = kV (.inr z) from ry, ← e1]
          exact dget_rd (.inr h1)
    | _ => exact (show False from h).elim
  | str z =>
    cases y with
    | int i =>
      obtain ⟨hz, h⟩ := Po.ite (show Po K μ H (if z.length ≤ sizeLine then may (atI z.cps.toList i) fun c => Res.ok (D.str ⟨#[c]⟩) S else Res.bad) _ from h)
      obtain ⟨k, e, h⟩ := Po.may h
      exact .inr (.inr (.inr ⟨z, i, k, rx, ry, hz, e, h.at hs _ rfl⟩))
    | _ => exact (show False from h).elim
  | _ => exact (show False from h).elim
theorem sd_idx (hn : notSlice b = true) (ha : SdE p a ca) (hb : SdE p b cb) : SdE p (.Subscript a b pos) (.idx ca cb) := fun X C g =>
  (pe_ix (r := rIx2 X.K) ((ix_dic (by have := g.un; omega)).or ix_seq) (ha X C g) (hb X C g) (plain_ix hn)).pq fun σ H Q h => tOp_imp os_idx (by
    obtain ⟨μ, ρ, S, he, hs, h⟩ := h
    unfold evE at h
    exact ⟨μ, ρ, S, he, hs, h⟩)
theorem so_none : SdO p none .none := fun X C g => po_none.pq fun σ H Q ⟨μ, ρ, S, he, hs, h⟩ => by
  unfold evO at h
  exact h.at hs
theorem so_some (ha : SdE p a ca) : SdO p (some a) (.some ca) := fun X C g => (po_some (ha X C g)).pq fun σ H Q ⟨μ, ρ, S, he, hs, h⟩ => by
  unfold evO at h
  refine ⟨μ, ρ, S, he, hs, h.bind.imp fun x S1 μ1 H1 _ e1 s1 h1 v rv => ?_⟩
  cases x with
  | int i => exact ⟨i, rv, h1.at s1⟩
  | _ => exact (show False from h1).elim
def rSl3 (K : Fg) : V → Option Int → Option Int → Hp → VK → Prop := fun x lo hi H Q => rSlN K x lo hi H Q ∨ (rSlL K x lo hi H Q ∨ rSlS x lo hi H Q)
theorem os_slc {K : Fg} {μ : List Addr} {H : Hp} {S : Sto} {x : D} {v : V} {Q : VK} {lo hi : Option Int} (hs : StOk K μ H S) (rx : Rp K μ H x v) (h : Po K μ H (slcD x lo hi S) fun d _ μ' H' => ∀ v, Rp K μ' H' d v → Q v H') : rSl3 K v lo hi H Q := by
  cases x with
  | tup ds =>
    have h : Po K μ H (Res.ok (D.tup (cutD ds lo hi)) S) _ := h
    obtain ⟨a, vs, rfl, h1, h2, h3⟩ := rx
    have hz : (cutD ds lo hi).length ≤ sizeLine := Nat.le_trans (cutD_len _ _ _) h3
    refine .inl ⟨a, vs, rfl, h1.sq, fun hw => ?_, fun _ p o hp c1 c2 => ?_⟩
    · refine h.at hs _ ⟨a, vs, rfl, h1, ?_, hz⟩
      have e : cutV vs lo hi = vs := by
        unfold cutV
        rw [hw.1, hw.2, List.drop_zero, Nat.sub_zero, List.take_length]
      have := cutD_ok h2 lo hi
      rw [e] at this
      exact this
    · exact h μ _ (hs.fresh hp _) (hs.freshOk hp _) _ (rp_tup hs hz (cutD_ok h2 lo hi) hp c1 c2)
  | fix ds =>
    have h : Po K μ H (Res.ok (D.ref S.length) (S ++ [Ob.lst (cutD ds lo hi)])) _ := h
    obtain ⟨a, vs, rfl, h1, h2, h3⟩ := rx
    refine .inr (.inl ⟨a, vs, rfl, h1.sq, fun p hp => ?_⟩)
    obtain ⟨e1, s1, r1⟩ := take_new hs (Nat.le_trans (cutD_len _ _ _) h3) (cutD_ok h2 lo hi) hp
    exact h _ _ e1 s1 _ r1
  | ref n =>
    have h : Po K μ H (match S[n]? with
      | some (Ob.lst ds) => Res.ok (D.ref S.length) (S ++ [Ob.lst (cutD ds lo hi)])
      | _ => Res.bad) _ := h
    cases ei : S[n]? with
    | none => rw [ei] at h; exact (show False from h).elim
    | some o =>
      rw [ei] at h
      cases o with
      | dic ks => first | (cases h; done) | exact (show False from h).elim
      | frd ks => first | (cases h; done) | exact (show False from h).elim
      | lst ds =>
        obtain ⟨a, vs, rfl, _, h1, h2, h3⟩ := rp_ref rx hs ei
        refine .inr (.inl ⟨a, vs, rfl, .of h1, fun p hp => ?_⟩)
        obtain ⟨e1, s1, r1⟩ := take_new hs (Nat.le_trans (cutD_len _ _ _) h3) (cutD_ok h2 lo hi) hp
        exact h _ _ e1 s1 _ r1
  | str z =>
    obtain ⟨hz, h⟩ := Po.ite (show Po K μ H (if z.length ≤ sizeLine then Res.ok (D.str (cutS z lo hi)) S else Res.bad) _ from h)
    exact .inr (.inr ⟨z, rx, hz, h.at hs _ rfl⟩)
  | _ => exact (show False from h).elim
theorem sd_slc {lo hi : Option Expr} {cl ch : CO} {p2 : Pos} (ha : SdE p a ca) (hl : SdO p lo cl) (hh : SdO p hi ch) : SdE p (.Subscript a (.Slice lo hi none p2) pos) (.slc ca cl ch) := fun X C g =>
  (pe_slice (r := rSl3 X.K) (sl_tupN.or (sl_list.or sl_str)) (ha X C g) (hl X C g) (hh X C g)).pq fun σ H Q ⟨μ, ρ, S, he, hs, h⟩ => by
    unfold evE at h
    refine ⟨μ, ρ, S, he, hs, h.bind.imp fun x S1 μ1 H1 _ e1 s1 h1 v rv => ?_⟩
    refine ⟨μ1, ρ, S1, he.mono e1, s1, h1.bind.imp fun l S2 μ2 H2 _ e2 s2 h2 => ?_⟩
    refine ⟨μ2, ρ, S2, he.mono (e1.trans e2), s2, h2.bind.imp fun u S3 μ3 H3 _ e3 s3 h3 => ?_⟩
    exact os_slc s3 ((rv.mono e2).mono e3) h3
theorem sq_rev {k : Nat} {p1 p2 p3 : Pos} (ha : SdR p a cr) : SdQ p (.Subscript a (.Slice none none (some (.UnaryOp .USub (.Constant (.int 1) k p1) p2)) p3) pos) (.rev cr) := fun X C g =>
  (pe_revL (ha X C g)).pq fun σ H Q ⟨μ, ρ, S, he, hs, h⟩ => by
    unfold evQ at h
    refine ⟨μ, ρ, S, he, hs, h.bind.imp fun r S1 μ1 H1 _ e1 s1 h1 v rv => ?_⟩
    obtain ⟨ds, eds, h1⟩ := h1.may
    obtain ⟨a, vs, rfl, h2, h3, h4⟩ := ls_rv s1 rv eds
    refine ⟨a, vs, rfl, h2, fun q hq => ?_⟩
    refine h1 μ1 _ (s1.fresh hq _) (s1.freshOk hq _) q _ (e1.alive _ hq) upd_same (fun m => ?_) (h3.mono (s1.fresh hq _)).reverse (by rw [List.length_reverse]; exact h4)
    obtain ⟨w, ew, _⟩ := s1.mem m
    rw [hq] at ew; cases ew

/-! ### calls of defs -/
theorem sd_call {i : Nat} {x : Str} {es : List Expr} {c : CEs} {q : Pos} (hT : p.T[i]? = some x) (hg : p.sc.names.lookup x = some .globalImplicit) (hd : (x == ("__debug__" : Str)) = false) (hn : notStar e = true) (hns : es.all notStar = true) (ha : SdA p (e :: es) c) :
    SdE p (.Call (.Name x q) (e :: es) [] pos) (.call i c) := fun X C g => by
  obtain ⟨f, fd, ps, k, hm, F, hr, hk, hb⟩ := g.fn i x hT
  refine (pe_callG (dvs := []) F ⟨hr, g.gu⟩ (by show X.env.scope.names.lookup x = _; rw [g.sc]; exact hg) hm hk hb .nil pass0 (ha X C g) hd (star_cons hn es _) (star_any _ _ hns)).pq fun σ H Q ⟨μ, ρ, S, he, hs, h⟩ => ?_
  unfold evE at h
  refine ⟨μ, ρ, S, he, hs, h.bind.imp fun ds S1 μ1 H1 _ e1 s1 h1 vs rvs => ?_⟩
  exact ⟨μ1, ds, S1, s1, by rw [List.append_nil]; exact rvs, h1⟩
theorem sd_call0 {i : Nat} {x : Str} {q : Pos} (hT : p.T[i]? = some x) (hg : p.sc.names.lookup x = some .globalImplicit) (hd : (x == ("__debug__" : Str)) = false) :
    SdE p (.Call (.Name x q) [] [] pos) (.call i .nil) := fun X C g => by
  obtain ⟨f, fd, ps, k, hm, F, hr, hk, hb⟩ := g.fn i x hT
  refine (pe_callG0 (dvs := []) F ⟨hr, g.gu⟩ (by show X.env.scope.names.lookup x = _; rw [g.sc]; exact hg) hm hk hb .nil pass0 hd).pq fun σ H Q ⟨μ, ρ, S, he, hs, h⟩ => ?_
  unfold evE at h
  refine ⟨μ, [], S, hs, rfl, ?_⟩
  have h := h.bind
  unfold evEs at h
  exact h.at hs

/-! ### built-ins by name -/
/-- one argument, walked -/
theorem tCB_R {r : List V → Hp → VK → Prop} {K : Fg} {f : En → Sto → Res RV} {g : RV → Sto → Res D} {σ : Slots} {H : Hp} {Q : VK}
    (hg : ∀ (μ : List Addr) (H : Hp) (S : Sto) (x : RV) (v : V), StOk K μ H S → RvR K μ H x v → Po K μ H (g x S) (fun d _ μ' H' => ∀ v, Rp K μ' H' d v → Q v H') → r [v] H Q)
    (h : tE K (fun ρ S => (f ρ S).bind fun v S1 => g v S1) σ H Q) : tCB r (tCons (tR K f) tNil) σ H Q := by
  obtain ⟨μ, ρ, S, he, hs, h⟩ := h
  exact ⟨μ, ρ, S, he, hs, h.bind.imp fun x S1 μ1 H1 _ e1 s1 h1 v rv => hg μ1 H1 S1 x v s1 rv h1⟩
theorem tCB_E {r : List V → Hp → VK → Prop} {K : Fg} {f : En → Sto → Res D} {g : D → Sto → Res D} {σ : Slots} {H : Hp} {Q : VK}
    (hg : ∀ (μ : List Addr) (H : Hp) (S : Sto) (x : D) (v : V), StOk K μ H S → Rp K μ H x v → Po K μ H (g x S) (fun d _ μ' H' => ∀ v, Rp K μ' H' d v → Q v H') → r [v] H Q)
    (h : tE K (fun ρ S => (f ρ S).bind fun v S1 => g v S1) σ H Q) : tCB r (tCons (tE K f) tNil) σ H Q := by
  obtain ⟨μ, ρ, S, he, hs, h⟩ := h
  exact ⟨μ, ρ, S, he, hs, h.bind.imp fun x S1 μ1 H1 _ e1 s1 h1 v rv => hg μ1 H1 S1 x v s1 rv h1⟩
theorem tCB_EE {r : List V → Hp → VK → Prop} {K : Fg} {f f2 : En → Sto → Res D} {g : D → D → Sto → Res D} {σ : Slots} {H : Hp} {Q : VK}
    (hg : ∀ (μ : List Addr) (H : Hp) (S : Sto) (x y : D) (v u : V), StOk K μ H S → Rp K μ H x v → Rp K μ H y u → Po K μ H (g x y S) (fun d _ μ' H' => ∀ v, Rp K μ' H' d v → Q v H') → r [v, u] H Q)
    (h : tE K (fun ρ S => (f ρ S).bind fun v S1 => (f2 ρ S1).bind fun w S2 => g v w S2) σ H Q) : tCB r (tCons (tE K f) (tCons (tE K f2) tNil)) σ H Q := by
  obtain ⟨μ, ρ, S, he, hs, h⟩ := h
  refine ⟨μ, ρ, S, he, hs, h.bind.imp fun x S1 μ1 H1 _ e1 s1 h1 v rv => ?_⟩
  exact ⟨μ1, ρ, S1, he.mono e1, s1, h1.bind.imp fun y S2 μ2 H2 _ e2 s2 h2 u ru => hg μ2 H2 S2 x y v u s2 (rv.mono e2) ru h2⟩
section
variable {x : Str} {q : Pos}
theorem gl_of {X : Cx} {C : Orc} (g : Good X p C) (hg : p.sc.names.lookup x = some .globalImplicit) : Gl X x := by
  show X.env.scope.names.lookup x = _
  rw [g.sc]
  exact hg
/-- a module's name for a value -/
theorem sd_con {d : D} (h : (x, Gv.con d) ∈ p.G) (hg : p.sc.names.lookup x = some .globalImplicit) (hd : (x == ("__debug__" : Str)) = false) : SdE p (.Name x q) (.lit d) := fun X C g => by
  obtain ⟨v, u, h1, h2, h3⟩ := g.glb x _ h
  exact (pe_glob (gl_of g hg) h1 h2 hd).pq fun σ H Q ⟨μ, ρ, S, he, hs, h⟩ => by
    unfold evE at h
    exact h.at hs v (h3 _ _)
/-- f(r), f a built-in function -/
theorem sd_agg {f : Ag} {id : String} {r : Fg → List V → Hp → VK → Prop} (hc : ∀ X C, Good X p C → CallR X (.builtin id) (r X.K)) (hb : x ∈ p.B) (hg : p.sc.names.lookup x = some .globalImplicit) (hv : bootBuiltins x = some (.builtin id)) (hn : x ≠ "__name__") (hdb : (x == ("__debug__" : Str)) = false) (hst : notStar e = true)
    (ho : ∀ (K : Fg) (μ : List Addr) (H : Hp) (S : Sto) (x : RV) (v : V) (Q : VK), StOk K μ H S → RvR K μ H x v → Po K μ H (aggD f x S) (fun d _ μ' H' => ∀ v, Rp K μ' H' d v → Q v H') → r K [v] H Q) (ha : SdR p e cr) :
    SdE p (.Call (.Name x q) [e] [] pos) (.agg f cr) := fun X C g =>
  (pe_callB (hc X C g) (gl_of g hg) (g.blt x hb) hv (pa_cons (ha X C g) pa_nil (star_cons hst [] _)) hn hdb (star_cons hst [] _) rfl).pq fun σ H Q h => tCB_R (fun μ H S x v => ho X.K μ H S x v Q) (by
    obtain ⟨μ, ρ, S, he, hs, h⟩ := h
    unfold evE at h
    exact ⟨μ, ρ, S, he, hs, h⟩)
end
theorem greatest_spec : ∀ {ns : List Int} {m : Int}, greatest ns = some m → m ∈ ns ∧ ∀ y, y ∈ ns → y ≤ m
  | [x], m, h => by cases h; exact ⟨List.mem_singleton.mpr rfl, fun y hy => by rw [List.mem_singleton.mp hy]; exact Int.le_refl _⟩
  | x :: z :: r, m, h => by
    have h : (greatest (z :: r)).map (fun m => if x < m then m else x) = some m := h
    cases e : greatest (z :: r) with
    | none => rw [e] at h; cases h
    | some k =>
      rw [e] at h
      obtain ⟨h1, h2⟩ := greatest_spec e
      have h : (if x < k then k else x) = m := Option.some.inj h
      subst h
      split
      · exact ⟨List.mem_cons_of_mem _ h1, fun y hy => by
          rcases List.mem_cons.mp hy with e | hy
          · rw [e]; omega
          · exact h2 y hy⟩
      · exact ⟨List.mem_cons_self, fun y hy => by
          rcases List.mem_cons.mp hy with e | hy
          · rw [e]; exact Int.le_refl _
          · have := h2 y hy
            omega⟩
theorem least_spec : ∀ {ns : List Int} {m : Int}, least ns = some m → m ∈ ns ∧ ∀ y, y ∈ ns → m ≤ y
  | [x], m, h => by cases h; exact ⟨List.mem_singleton.mpr rfl, fun y hy => by rw [List.mem_singleton.mp hy]; exact Int.le_refl _⟩
  | x :: z :: r, m, h => by
    have h : (least (z :: r)).map (fun m => if m < x then m else x) = some m := h
    cases e : least (z :: r) with
    | none => rw [e] at h; cases h
    | some k =>
      rw [e] at h
      obtain ⟨h1, h2⟩ := least_spec e
      have h : (if k < x then k else x) = m := Option.some.inj h
      subst h
      split
      · exact ⟨List.mem_cons_of_mem _ h1, fun y hy => by
          rcases List.mem_cons.mp hy with e | hy
          · rw [e]; omega
          · exact h2 y hy⟩
      · exact ⟨List.mem_cons_self, fun y hy => by
          rcases List.mem_cons.mp hy with e | hy
          · rw [e]; exact Int.le_refl _
          · have := h2 y hy
            omega⟩
section
variable {q : Pos}
/-- len of a dict -/
def rLenD : List V → Hp → VK → Prop := fun xs H Q => ∃ a kvs, xs = [V.ref a] ∧ Rd H a (.dK kvs) ∧ Q (.int kvs.length) H
theorem cr_lenD {X : Cx} : CallR X (.builtin "len") rLenD := by
  intro pins s σ H xs us Q I r q
  obtain ⟨a, kvs, rfl, hk, q⟩ := q
  rw [Vals.ref1 r]
  exact d_len I hk fun t s' I' => ⟨.int kvs.length, H, I', ⟨t, rfl⟩, q⟩
theorem sd_len (hb : ("len" : Str) ∈ p.B) (hg : p.sc.names.lookup ("len" : Str) = some .globalImplicit) (hst : notStar e = true) (ha : SdR p e cr) : SdE p (.Call (.Name "len" q) [e] [] pos) (.agg .len cr) :=
  sd_agg (r := fun K xs H Q => (∃ x n, xs = [x] ∧ LenV K x H n ∧ Q (.int n) H) ∨ rLenD xs H Q) (fun X C g => call_len.or cr_lenD) hb hg boot_len (by decide) (by decide) hst (fun K μ H S x v Q hs rv h => by
    by_cases hx : ∃ z, x = .val (.str z)
    · obtain ⟨z, rfl⟩ := hx
      obtain ⟨hz, h⟩ := Po.ite (show Po K μ H (if z.length ≤ sizeLine then Res.ok (D.int z.length) S else Res.bad) _ from h)
      cases rv
      exact .inl ⟨_, z.length, rfl, ⟨hz, rfl⟩, h.at hs _ rfl⟩
    · have h : Po K μ H (may (lenOf S x) fun n => Res.ok (D.int n) S) (fun d _ μ' H' => ∀ v, Rp K μ' H' d v → Q v H') := by
        cases x with
        | own ds => exact h
        | val d => cases d <;> first | exact h | exact absurd ⟨_, rfl⟩ hx
      obtain ⟨n, e1, h⟩ := h.may
      unfold lenOf at e1
      cases e2 : sqOf S x with
      | some ds =>
        rw [e2] at e1
        cases e1
        obtain ⟨a, vs, rfl, h1, h2, _⟩ := sq_rv hs rv e2
        refine .inl ⟨_, ds.length, rfl, ?_, h.at hs _ rfl⟩
        rcases h1 with h1 | ⟨h1, _⟩
        · exact .inl ⟨vs, h1, h2.length⟩
        · exact .inr ⟨vs, h1.sq, h2.length⟩
      | none =>
        rw [e2] at e1
        cases e3 : dicOf S x with
        | none => rw [e3] at e1; cases e1
        | some ks =>
          rw [e3] at e1
          cases e1
          obtain ⟨a, vs, rfl, h1, h2, h3, h4⟩ := dic_rv hs rv e3
          refine .inr ⟨a, vs, rfl, h1, ?_⟩
          rw [← h2.length]
          exact h.at hs _ rfl) ha
theorem sd_sum (hb : ("sum" : Str) ∈ p.B) (hg : p.sc.names.lookup ("sum" : Str) = some .globalImplicit) (hst : notStar e = true) (ha : SdR p e cr) : SdE p (.Call (.Name "sum" q) [e] [] pos) (.agg .sum cr) :=
  sd_agg (r := rSum) (fun X C g => cr_sum g.calm) hb hg (by decide +kernel) (by decide) (by decide) hst (fun K μ H S x v Q hs rv h => by
    obtain ⟨ds, e1, h⟩ := Po.may (show Po K μ H (may (lsOf S x) fun ds => may (intsOf ds) fun ns => Res.ok (D.int ns.sum) S) _ from h)
    obtain ⟨ns, e2, h⟩ := h.may
    obtain ⟨a, vs, rfl, h1, h2, _⟩ := ls_rv hs rv e1
    exact ⟨a, ns, rfl, by rw [← rp_ints h2 e2]; exact h1, h.at hs _ rfl⟩) ha
theorem sd_max (hb : ("max" : Str) ∈ p.B) (hg : p.sc.names.lookup ("max" : Str) = some .globalImplicit) (hst : notStar e = true) (ha : SdR p e cr) : SdE p (.Call (.Name "max" q) [e] [] pos) (.agg .max cr) :=
  sd_agg (r := rMax) (fun X C g => cr_max g.calm) hb hg (by decide +kernel) (by decide) (by decide) hst (fun K μ H S x v Q hs rv h => by
    obtain ⟨ds, e1, h⟩ := Po.may (show Po K μ H (may (lsOf S x) fun ds => may (intsOf ds) fun ns => may (greatest ns) fun m => Res.ok (D.int m) S) _ from h)
    obtain ⟨ns, e2, h⟩ := h.may
    obtain ⟨m, e3, h⟩ := h.may
    obtain ⟨a, vs, rfl, h1, h2, _⟩ := ls_rv hs rv e1
    obtain ⟨g1, g2⟩ := greatest_spec e3
    refine ⟨a, ns, rfl, by rw [← rp_ints h2 e2]; exact h1, List.length_pos_of_mem g1, fun k k1 k2 => ?_⟩
    have : k = m := Int.le_antisymm (g2 k k1) (k2 m g1)
    rw [this]
    exact h.at hs _ rfl) ha
theorem sd_min (hb : ("min" : Str) ∈ p.B) (hg : p.sc.names.lookup ("min" : Str) = some .globalImplicit) (hst : notStar e = true) (ha : SdR p e cr) : SdE p (.Call (.Name "min" q) [e] [] pos) (.agg .min cr) :=
  sd_agg (r := rMin) (fun X C g => cr_min g.calm) hb hg (by decide +kernel) (by decide) (by decide) hst (fun K μ H S x v Q hs rv h => by
    obtain ⟨ds, e1, h⟩ := Po.may (show Po K μ H (may (lsOf S x) fun ds => may (intsOf ds) fun ns => may (least ns) fun m => Res.ok (D.int m) S) _ from h)
    obtain ⟨ns, e2, h⟩ := h.may
    obtain ⟨m, e3, h⟩ := h.may
    obtain ⟨a, vs, rfl, h1, h2, _⟩ := ls_rv hs rv e1
    obtain ⟨g1, g2⟩ := least_spec e3
    refine ⟨a, ns, rfl, by rw [← rp_ints h2 e2]; exact h1, List.length_pos_of_mem g1, fun k k1 k2 => ?_⟩
    have : k = m := Int.le_antisymm (k2 m g1) (g2 k k1)
    rw [this]
    exact h.at hs _ rfl) ha
theorem sd_all (hb : ("all" : Str) ∈ p.B) (hg : p.sc.names.lookup ("all" : Str) = some .globalImplicit) (hst : notStar e = true) (ha : SdR p e cr) : SdE p (.Call (.Name "all" q) [e] [] pos) (.agg .all cr) :=
  sd_agg (r := rAll) (fun X C g => cr_all g.calm) hb hg (by decide +kernel) (by decide) (by decide) hst (fun K μ H S x v Q hs rv h => by
    obtain ⟨ds, e1, h⟩ := Po.may (show Po K μ H (may (lsOf S x) fun ds => may (boolsOf ds) fun bs => Res.ok (D.bl (bs.all id)) S) _ from h)
    obtain ⟨ns, e2, h⟩ := h.may
    obtain ⟨a, vs, rfl, h1, h2, _⟩ := ls_rv hs rv e1
    exact ⟨a, ns, rfl, by rw [← rp_bools h2 e2]; exact h1, h.at hs _ rfl⟩) ha
theorem sd_any (hb : ("any" : Str) ∈ p.B) (hg : p.sc.names.lookup ("any" : Str) = some .globalImplicit) (hst : notStar e = true) (ha : SdR p e cr) : SdE p (.Call (.Name "any" q) [e] [] pos) (.agg .any cr) :=
  sd_agg (r := rAny) (fun X C g => cr_any g.calm) hb hg (by decide +kernel) (by decide) (by decide) hst (fun K μ H S x v Q hs rv h => by
    obtain ⟨ds, e1, h⟩ := Po.may (show Po K μ H (may (lsOf S x) fun ds => may (boolsOf ds) fun bs => Res.ok (D.bl (bs.any id)) S) _ from h)
    obtain ⟨ns, e2, h⟩ := h.may
    obtain ⟨a, vs, rfl, h1, h2, _⟩ := ls_rv hs rv e1
    exact ⟨a, ns, rfl, by rw [← rp_bools h2 e2]; exact h1, h.at hs _ rfl⟩) ha
/-- tuple(r), list(r) -/
theorem sd_tuple (hb : ("tuple" : Str) ∈ p.B) (hg : p.sc.names.lookup ("tuple" : Str) = some .globalImplicit) (hst : notStar e = true) (ha : SdR p e cr) : SdE p (.Call (.Name "tuple" q) [e] [] pos) (.agg .tuple cr) := fun X C g =>
  (pe_callTy call_tupleN (gl_of g hg) (g.blt _ hb) (by decide +kernel) (pa_cons (ha X C g) pa_nil (star_cons hst [] _)) (by decide) (by decide) (star_cons hst [] _) rfl).pq fun σ H Q h => tCB_R (g := aggD .tuple) (fun μ H S x v hs rv h => by
    obtain ⟨ds, e1, h⟩ := Po.may (show Po X.K μ H (may (sqOf S x) fun ds => Res.ok (D.tup ds) S) _ from h)
    obtain ⟨a, vs, rfl, h1, h2, h3⟩ := sq_rv hs rv e1
    refine ⟨a, vs, rfl, ?_⟩
    rcases h1 with h1 | ⟨h1, e2⟩
    · exact .inl ⟨h1, fun l o hl c1 c2 => h μ _ (hs.fresh hl _) (hs.freshOk hl _) _ (rp_tup hs h3 h2 hl c1 c2)⟩
    · exact .inr ⟨h1.sq, h.at hs _ ⟨a, vs, rfl, h1, h2, h3⟩⟩) (by
    obtain ⟨μ, ρ, S, he, hs, h⟩ := h
    unfold evE at h
    exact ⟨μ, ρ, S, he, hs, h⟩)
/-- list(x): of a list, a tuple, a text -/
def rListS (K : Fg) (xs : List V) (H : Hp) (Q : V → Hp → Prop) : Prop := (∃ p ys, xs = [.ref p] ∧ (SqL K H p ys ∨ SqT K H p ys) ∧ ∀ l, H l = none → Q (.ref l) (upd H l (.lst ys))) ∨
  (∃ z : Str, xs = [.str z] ∧ z.length ≤ sizeLine ∧ ∀ l, H l = none → Q (.ref l) (upd H l (.lst (z.cps.toList.map fun c => V.str ⟨#[c]⟩))))
theorem call_list_ofS {X : Cx} (hc : X.calm = true) : CallR X (.type "list") (rListS X.K) := by
  intro pins s σ H xs us Q I r h
  rcases h with h | h
  · exact call_list_of pins s σ H xs us Q I r h
  · obtain ⟨z, rfl, hz, q⟩ := h
    obtain ⟨u, rfl, rx⟩ := vals1 r
    obtain ⟨t, rfl⟩ := rx
    refine PySem.call_list_str (I.ok.hd hc) z t (fun h' tk acc c' hk e hi => ?_) hz
    have zl : z.cps.toList.length = z.cps.size := Array.length_toList
    refine ⟨.ref s.heap.objs.size, upd H s.heap.objs.size (.lst (z.cps.toList.map fun c => V.str ⟨#[c]⟩)), I.laid hk (Nat.le_refl _) ⟨by rw [List.length_map, zl]; exact hz, acc.toList, c', ?_, by rw [Array.toArray_toList]; exact e⟩, rfl, q _ (I.hok.fresh (Nat.le_refl _))⟩
    refine vals_of_idx _ _ (by rw [List.length_map, zl, Array.length_toList]; exact hi.1) fun j u hj => ?_
    obtain ⟨c, t', hc, rfl⟩ := hi.2 j u (by rw [← Array.getElem?_toList]; exact hj)
    exact ⟨.str ⟨#[c]⟩, by simp [hc], ⟨_, rfl⟩⟩
theorem letters_rp {K : Fg} {μ : List Addr} {H : Hp} (l : List Nat) : RpA K μ H (l.map fun c => D.str ⟨#[c]⟩) (l.map fun c => V.str ⟨#[c]⟩) := by
  induction l with
  | nil => exact rfl
  | cons k l ih => exact .cons rfl ih
theorem sq_list (hb : ("list" : Str) ∈ p.B) (hg : p.sc.names.lookup ("list" : Str) = some .globalImplicit) (hst : notStar e = true) (ha : SdR p e cr) : SdQ p (.Call (.Name "list" q) [e] [] pos) (.list cr) := fun X C g =>
  (pe_callTy (call_list_ofS g.calm) (gl_of g hg) (g.blt _ hb) (by decide +kernel) (pa_cons (ha X C g) pa_nil (star_cons hst [] _)) (by decide) (by decide) (star_cons hst [] _) rfl).pq fun σ H Q ⟨μ, ρ, S, he, hs, h⟩ => by
    unfold evQ at h
    refine ⟨μ, ρ, S, he, hs, h.bind.imp fun x S1 μ1 H1 _ e1 s1 h1 v rv => ?_⟩
    obtain ⟨ds, eds, h1⟩ := h1.may
    by_cases ht : ∃ z, x = .val (.str z)
    · obtain ⟨z, rfl⟩ := ht
      have rv' : v = .str z := rv
      subst rv'
      have eds' : (if z.length ≤ sizeLine then some (lettersD z) else none) = some ds := eds
      by_cases hz : z.length ≤ sizeLine
      · rw [if_pos hz, Option.some.injEq] at eds'
        subst eds'
        refine .inr ⟨z, rfl, hz, fun l hl => ?_⟩
        have r0 : RpA X.K μ1 H1 (lettersD z) (z.cps.toList.map fun c => V.str ⟨#[c]⟩) := letters_rp _
        refine h1 μ1 _ (s1.fresh hl _) (s1.freshOk hl _) l _ (e1.alive _ hl) upd_same (fun m => ?_) (r0.mono (s1.fresh hl _)) (by unfold lettersD; rw [List.length_map, Array.length_toList]; exact hz)
        obtain ⟨w, ew, _⟩ := s1.mem m
        rw [hl] at ew; cases ew
      · rw [if_neg hz] at eds'
        cases eds'
    · have eds' : sqOf S1 x = some ds := by
        cases x with
        | own es => exact eds
        | val d => cases d <;> first | exact eds | exact absurd ⟨_, rfl⟩ ht
      obtain ⟨a, vs, rfl, h2, h3, h4⟩ := sq_rv s1 rv eds'
      refine .inl ⟨a, vs, rfl, sq_or h2, fun l hl => ?_⟩
      refine h1 μ1 _ (s1.fresh hl _) (s1.freshOk hl _) l _ (e1.alive _ hl) upd_same (fun m => ?_) (h3.mono (s1.fresh hl _)) h4
      obtain ⟨w, ew, _⟩ := s1.mem m
      rw [hl] at ew; cases ew
end
end
end PQ

/-! More built-ins, methods of lists, isinstance. -/
namespace PQ
open PySem PySem.Spec PyProof.Rows L2
section
variable {p : Pl} {a b c e : Expr} {ca cb cc : CE} {cr : CR} {pos q : Pos}
/-- T(e), T a built-in type; f(e), f(e, e') built-in functions -/
theorem sd_ty1 {f : F1} {x : Str} {T : String} {r : Fg → List V → Hp → VK → Prop} (hc : ∀ X C, Good X p C → CallR X (.type T) (r X.K)) (hb : x ∈ p.B) (hg : p.sc.names.lookup x = some .globalImplicit) (hv : bootBuiltins x = some (.type T)) (hn : x ≠ "__name__") (hdb : (x == ("__debug__" : Str)) = false) (hst : notStar e = true)
    (ho : ∀ (K : Fg) (μ : List Addr) (H : Hp) (S : Sto) (x : D) (v : V) (Q : VK), StOk K μ H S → Rp K μ H x v → Po K μ H (fn1D f x S) (fun d _ μ' H' => ∀ v, Rp K μ' H' d v → Q v H') → r K [v] H Q) (ha : SdE p e ca) :
    SdE p (.Call (.Name x q) [e] [] pos) (.fn1 f ca) := fun X C g =>
  (pe_callTy (hc X C g) (gl_of g hg) (g.blt x hb) hv (pa_cons (ha X C g) pa_nil (star_cons hst [] _)) hn hdb (star_cons hst [] _) rfl).pq fun σ H Q h => tCB_E (fun μ H S x v => ho X.K μ H S x v Q) (by
    obtain ⟨μ, ρ, S, he, hs, h⟩ := h
    unfold evE at h
    exact ⟨μ, ρ, S, he, hs, h⟩)
theorem sd_fun1 {f : F1} {x : Str} {T : String} {r : Fg → List V → Hp → VK → Prop} (hc : ∀ X C, Good X p C → CallR X (.builtin T) (r X.K)) (hb : x ∈ p.B) (hg : p.sc.names.lookup x = some .globalImplicit) (hv : bootBuiltins x = some (.builtin T)) (hn : x ≠ "__name__") (hdb : (x == ("__debug__" : Str)) = false) (hst : notStar e = true)
    (ho : ∀ (K : Fg) (μ : List Addr) (H : Hp) (S : Sto) (x : D) (v : V) (Q : VK), StOk K μ H S → Rp K μ H x v → Po K μ H (fn1D f x S) (fun d _ μ' H' => ∀ v, Rp K μ' H' d v → Q v H') → r K [v] H Q) (ha : SdE p e ca) :
    SdE p (.Call (.Name x q) [e] [] pos) (.fn1 f ca) := fun X C g =>
  (pe_callB (hc X C g) (gl_of g hg) (g.blt x hb) hv (pa_cons (ha X C g) pa_nil (star_cons hst [] _)) hn hdb (star_cons hst [] _) rfl).pq fun σ H Q h => tCB_E (fun μ H S x v => ho X.K μ H S x v Q) (by
    obtain ⟨μ, ρ, S, he, hs, h⟩ := h
    unfold evE at h
    exact ⟨μ, ρ, S, he, hs, h⟩)
theorem sd_fun2 {f : F2} {x : Str} {T : String} {r : Fg → List V → Hp → VK → Prop} (hc : ∀ X C, Good X p C → CallR X (.builtin T) (r X.K)) (hb : x ∈ p.B) (hg : p.sc.names.lookup x = some .globalImplicit) (hv : bootBuiltins x = some (.builtin T)) (hn : x ≠ "__name__") (hdb : (x == ("__debug__" : Str)) = false) (hst : notStar a = true) (hst2 : notStar b = true)
    (ho : ∀ (K : Fg) (μ : List Addr) (H : Hp) (S : Sto) (x y : D) (v u : V) (Q : VK), StOk K μ H S → Rp K μ H x v → Rp K μ H y u → Po K μ H (fn2D f x y S) (fun d _ μ' H' => ∀ v, Rp K μ' H' d v → Q v H') → r K [v, u] H Q) (ha : SdE p a ca) (hb' : SdE p b cb) :
    SdE p (.Call (.Name x q) [a, b] [] pos) (.fn2 f ca cb) := fun X C g =>
  (pe_callB (hc X C g) (gl_of g hg) (g.blt x hb) hv (pa_cons (ha X C g) (pa_cons (hb' X C g) pa_nil (star_cons hst2 [] _)) (star_cons hst [b] _)) hn hdb (star_cons hst [b] _) (star_any _ _ (by rw [List.all_cons, hst2]; rfl))).pq fun σ H Q h => tCB_EE (fun μ H S x y v u => ho X.K μ H S x y v u Q) (by
    obtain ⟨μ, ρ, S, he, hs, h⟩ := h
    unfold evE at h
    exact ⟨μ, ρ, S, he, hs, h⟩)
theorem sd_intT (hb : ("int" : Str) ∈ p.B) (hg : p.sc.names.lookup ("int" : Str) = some .globalImplicit) (hst : notStar e = true) (ha : SdE p e ca) : SdE p (.Call (.Name "int" q) [e] [] pos) (.fn1 .int ca) :=
  sd_ty1 (r := fun _ xs H Q => (∃ i, xs = [.int i] ∧ Q (.int i) H) ∨ ∃ k, xs = [.bl k] ∧ Q (.int (if k then 1 else 0)) H) (fun X C g => call_int1) hb hg (by decide +kernel) (by decide) (by decide) hst (fun K μ H S x v Q hs rv h => by
    cases x with
    | int i => cases rv; exact .inl ⟨i, rfl, Po.at (show Po K μ H (Res.ok (D.int i) S) _ from h) hs _ rfl⟩
    | bl k => cases rv; exact .inr ⟨k, rfl, Po.at (show Po K μ H (Res.ok (D.int (if k then 1 else 0)) S) _ from h) hs _ rfl⟩
    | _ => exact (show False from h).elim) ha
theorem sd_strT (hb : ("str" : Str) ∈ p.B) (hg : p.sc.names.lookup ("str" : Str) = some .globalImplicit) (hst : notStar e = true) (ha : SdE p e ca) : SdE p (.Call (.Name "str" q) [e] [] pos) (.fn1 .str ca) :=
  sd_ty1 (r := fun _ xs H Q => ∃ i, xs = [.int i] ∧ i.natAbs.log2 < 1920 ∧ Q (.str (toString i)) H) (fun X C g => call_str_int) hb hg (by decide +kernel) (by decide) (by decide) hst (fun K μ H S x v Q hs rv h => by
    cases x with
    | int i =>
      cases rv
      obtain ⟨z, h⟩ := Po.ite (show Po K μ H (if i.natAbs.log2 < 1920 then Res.ok (D.str (toString i)) S else Res.bad) _ from h)
      exact ⟨i, rfl, z, Po.at h hs _ rfl⟩
    | _ => exact (show False from h).elim) ha
theorem sd_abs (hb : ("abs" : Str) ∈ p.B) (hg : p.sc.names.lookup ("abs" : Str) = some .globalImplicit) (hst : notStar e = true) (ha : SdE p e ca) : SdE p (.Call (.Name "abs" q) [e] [] pos) (.fn1 .abs ca) :=
  sd_fun1 (r := fun _ xs H Q => ∃ i, xs = [.int i] ∧ Q (.int (if i < 0 then -i else i)) H) (fun X C g => call_abs) hb hg (by decide +kernel) (by decide) (by decide) hst (fun K μ H S x v Q hs rv h => by
    cases x with
    | int i => cases rv; exact ⟨i, rfl, Po.at (show Po K μ H (Res.ok (D.int (if i < 0 then -i else i)) S) _ from h) hs _ rfl⟩
    | _ => exact (show False from h).elim) ha
/-- repr(data) -/
theorem call_reprD {X : Cx} {C : Orc} (g : Good X p C) : CallR X (.builtin "repr") (fun xs H Q => ∃ v d, xs = [v] ∧ Dp X.K H v d ∧ d.showable = true ∧ d.hasDict = false ∧ d.shown.length ≤ sizeLine ∧ d.depth ≤ 1000 ∧ Q (.str d.shown) H) := by
  intro pins s σ H xs us Q I r h
  obtain ⟨v, d, rfl, hd, h1, h2, h3, h4, q⟩ := h
  obtain ⟨u, rfl, ru⟩ := vals1 r
  have hu := g.un
  cases hd with
  | non =>
    obtain rfl : u = Value.none := ru
    exact PySem.P.repr_of_none ⟨.str _, H, I.tok _, ⟨_, rfl⟩, by simpa [PyData.shown] using q⟩
  | bl b =>
    obtain rfl : u = Value.bool b := ru
    exact PySem.P.repr_of_bool ⟨.str _, H, I.tok _, ⟨_, rfl⟩, by simpa [PyData.shown] using q⟩
  | int i =>
    obtain ⟨t, rfl⟩ := ru
    exact PySem.P.repr_of_int (by simpa [PyData.showable] using h1) ⟨.str _, H, I.tok _, ⟨_, rfl⟩, by simpa [PyData.shown] using q⟩
  | str x =>
    obtain ⟨t, rfl⟩ := ru
    exact PySem.P.repr_of_str ⟨.str _, H, I.tok _, ⟨_, rfl⟩, by simpa [PyData.shown] using q⟩ (by simpa [PyData.shown] using h3)
  | @lst a xs ds e1 e2 =>
    obtain rfl : u = Value.ref a := ru
    obtain ⟨as, rd⟩ := Dp.reads I _ _ _ (.lst e1 e2) (show RelV (.ref a) (.ref a) from rfl)
    exact repr_of_reads' rd h1 (PyData.noDict_hsm h2) g.gu (by omega) (fun _ _ e => e) (fun h' u' tk hk => ⟨.str _, H, I.kept (h' := h') (t' := tk) hk, ⟨_, rfl⟩, q⟩) h3
  | @tup a xs ds e1 e2 =>
    obtain rfl : u = Value.ref a := ru
    obtain ⟨as, rd⟩ := Dp.reads I _ _ _ (.tup e1 e2) (show RelV (.ref a) (.ref a) from rfl)
    exact repr_of_reads' rd h1 (PyData.noDict_hsm h2) g.gu (by omega) (fun _ _ e => e) (fun h' u' tk hk => ⟨.str _, H, I.kept (h' := h') (t' := tk) hk, ⟨_, rfl⟩, q⟩) h3
theorem sd_repr (hb : ("repr" : Str) ∈ p.B) (hg : p.sc.names.lookup ("repr" : Str) = some .globalImplicit) (hst : notStar e = true) (ha : SdE p e ca) : SdE p (.Call (.Name "repr" q) [e] [] pos) (.fn1 .repr ca) :=
  sd_fun1 (r := fun K xs H Q => ∃ v d, xs = [v] ∧ Dp K H v d ∧ d.showable = true ∧ d.hasDict = false ∧ d.shown.length ≤ sizeLine ∧ d.depth ≤ 1000 ∧ Q (.str d.shown) H) (fun X C g => call_reprD g) hb hg (by decide +kernel) (by decide) (by decide) hst (fun K μ H S x v Q hs rv h => by
    have h : Po K μ H (may (toP S x) fun p => if p.showable = true ∧ p.hasDict = false ∧ p.shown.length ≤ sizeLine ∧ p.depth ≤ 1000 then .ok (.str p.shown) S else .bad) (fun d _ μ' H' => ∀ v, Rp K μ' H' d v → Q v H') := by
      cases x <;> exact h
    obtain ⟨d, ed, h⟩ := h.may
    obtain ⟨⟨h1, h2, h3, h4⟩, h⟩ := h.ite
    exact ⟨v, d, rfl, toP_dp hs rv ed, h1, h2, h3, h4, h.at hs _ rfl⟩) ha
theorem sd_min2 (hb : ("min" : Str) ∈ p.B) (hg : p.sc.names.lookup ("min" : Str) = some .globalImplicit) (hst : notStar a = true) (hst2 : notStar b = true) (ha : SdE p a ca) (hb' : SdE p b cb) : SdE p (.Call (.Name "min" q) [a, b] [] pos) (.fn2 .min ca cb) :=
  sd_fun2 (r := fun _ xs H Q => ∃ i j, xs = [.int i, .int j] ∧ Q (.int (if j < i then j else i)) H) (fun X C g => call_min2 g.calm) hb hg (by decide +kernel) (by decide) (by decide) hst hst2 (fun K μ H S x y v u Q hs rv ru h => by
    cases x <;> cases y <;> first | exact (show False from h).elim | (cases rv; cases ru; exact ⟨_, _, rfl, Po.at h hs _ rfl⟩)) ha hb'
theorem sd_max2 (hb : ("max" : Str) ∈ p.B) (hg : p.sc.names.lookup ("max" : Str) = some .globalImplicit) (hst : notStar a = true) (hst2 : notStar b = true) (ha : SdE p a ca) (hb' : SdE p b cb) : SdE p (.Call (.Name "max" q) [a, b] [] pos) (.fn2 .max ca cb) :=
  sd_fun2 (r := fun _ xs H Q => ∃ i j, xs = [.int i, .int j] ∧ Q (.int (if j > i then j else i)) H) (fun X C g => call_max2 g.calm) hb hg (by decide +kernel) (by decide) (by decide) hst hst2 (fun K μ H S x y v u Q hs rv ru h => by
    cases x <;> cases y <;> first | exact (show False from h).elim | (cases rv; cases ru; exact ⟨_, _, rfl, Po.at h hs _ rfl⟩)) ha hb'

theorem sd_gcd {x : Str} (hm : (x, Gv.fn "math.gcd") ∈ p.G) (hg : p.sc.names.lookup x = some .globalImplicit) (hdb : (x == ("__debug__" : Str)) = false) (hst : notStar a = true) (hst2 : notStar b = true) (ha : SdE p a ca) (hb' : SdE p b cb) : SdE p (.Call (.Name x q) [a, b] [] pos) (.fn2 .gcd ca cb) := fun X C g =>
  (pe_callBfun cr_gcd (gl_of g hg) (g.glb x _ hm) (pa_cons (ha X C g) (pa_cons (hb' X C g) pa_nil (star_cons hst2 [] _)) (star_cons hst [b] _)) hdb (star_cons hst [b] _) (star_any _ _ (by rw [List.all_cons, hst2]; rfl))).pq fun σ H Q h => tCB_EE (g := fn2D .gcd) (fun μ H S x y v u hs rv ru h => by
    cases x <;> cases y <;> first | exact (show False from h).elim | (cases rv; cases ru; exact ⟨_, _, rfl, Po.at h hs _ rfl⟩)) (by
    obtain ⟨μ, ρ, S, he, hs, h⟩ := h
    unfold evE at h
    exact ⟨μ, ρ, S, he, hs, h⟩)

/-! ### isinstance -/
def tyN : Ty → String
  | .int => "int" | .bool => "bool" | .str => "str" | .tuple => "tuple"
theorem sqt_ty {K : Fg} {H : Hp} {a : Addr} {xs : List V} (h : SqT K H a xs) : TyX K H (.ref a) (.type "tuple") := by
  rcases h with (h | ⟨o, h⟩) | ⟨o, its, n, hk, hc, _⟩
  · exact .base (.tup h)
  · exact .fTuple h
  · exact .kTuple hk hc
theorem fix_ty {K : Fg} {H : Hp} {a : Addr} {xs : List V} (h : Fix K H a xs) : TyX K H (.ref a) (.type "list") := by
  rcases h with ⟨o, h⟩ | ⟨o, its, n, hk, hc, _⟩
  · exact .base (.frz h)
  · exact .kList hk hc
theorem ty_rp {K : Fg} {μ : List Addr} {H : Hp} {S : Sto} {x : D} {v : V} {k : Bool} {t : Ty} (hs : StOk K μ H S) (r : Rp K μ H x v) (h : tyB t S x = some k) : ∃ n, TyX K H v (.type n) ∧ kitB n (tyN t) = some k := by
  cases x with
  | non => cases r; cases h; exact ⟨"NoneType", .base .non, by cases t <;> decide +kernel⟩
  | bl b => cases r; cases h; exact ⟨"bool", .base (.bl b), by cases t <;> decide +kernel⟩
  | int i => cases r; cases h; exact ⟨"int", .base (.int i), by cases t <;> decide +kernel⟩
  | str z => cases r; cases h; exact ⟨"str", .base (.str z), by cases t <;> decide +kernel⟩
  | tup ds =>
    obtain ⟨a, vs, rfl, h1, _⟩ := r
    cases h
    exact ⟨"tuple", sqt_ty h1.sq, by cases t <;> decide +kernel⟩
  | fix ds =>
    obtain ⟨a, vs, rfl, h1, _⟩ := r
    cases h
    exact ⟨"list", fix_ty h1, by cases t <;> decide +kernel⟩
  | ref i =>
    have h : (match S[i]? with
      | some (Ob.lst _) => some false
      | _ => none) = some k := h
    cases ei : S[i]? with
    | none => rw [ei] at h; cases h
    | some o =>
      rw [ei] at h
      cases o with
      | dic ks => first | (cases h; done) | exact (show False from h).elim
      | frd ks => first | (cases h; done) | exact (show False from h).elim
      | lst ds =>
        obtain ⟨a, vs, rfl, _, h1, _⟩ := rp_ref r hs ei
        cases h
        exact ⟨"list", .base (.lst h1), by cases t <;> decide +kernel⟩
theorem sd_isi {t : Ty} {x : Str} {q2 : Pos} (hb : ("isinstance" : Str) ∈ p.B) (hg : p.sc.names.lookup ("isinstance" : Str) = some .globalImplicit) (hb2 : x ∈ p.B) (hg2 : p.sc.names.lookup x = some .globalImplicit) (hv : bootBuiltins x = some (.type (tyN t))) (hn : x ≠ "__name__") (hdb : (x == ("__debug__" : Str)) = false) (hst : notStar a = true) (ha : SdE p a ca) :
    SdE p (.Call (.Name "isinstance" q) [a, .Name x q2] [] pos) (.isi ca t) := fun X C g =>
  (pe_callB call_isi (gl_of g hg) (g.blt _ hb) (by decide +kernel) (pa_cons (ha X C g) (pa_cons (pe_bltn (v := .ty (tyN t)) (gl_of g hg2) (g.blt _ hb2) hv rfl hn hdb) pa_nil rfl) (star_cons hst _ _)) (by decide) (by decide) (star_cons hst _ _) rfl).pq fun σ H Q ⟨μ, ρ, S, he, hs, h⟩ => by
    unfold evE at h
    refine ⟨μ, ρ, S, he, hs, h.bind.imp fun y S1 μ1 H1 _ e1 s1 h1 v rv => ?_⟩
    obtain ⟨k, ek, h1⟩ := h1.may
    obtain ⟨n, ty, hk⟩ := ty_rp s1 rv ek
    exact ⟨v, .ty (tyN t), .type n, .type (tyN t), k, rfl, .ty _, ty, kit_ty hk, h1.at s1 _ rfl⟩

/-! ### methods of lists -/
section
variable {K : Fg} {μ : List Addr} {H : Hp} {S : Sto} {x : D} {v : V}
/-- a value that is a list of the store -/
theorem Po.withL {α : Type} {f : Nat → List D → Res α} {P : α → Sto → List Addr → Hp → Prop} (hs : StOk K μ H S) (r : Rp K μ H x v) (h : Po K μ H (withL S x f) P) : ∃ i ds a vs, x = .ref i ∧ v = .ref a ∧ S[i]? = some (.lst ds) ∧ μ[i]? = some a ∧ H a = some (.lst vs) ∧ RpA K μ H ds vs ∧ ds.length ≤ sizeLine ∧ Po K μ H (f i ds) P := by
  cases x with
  | ref i =>
    have h : Po K μ H (match S[i]? with
      | some (Ob.lst ds) => f i ds
      | _ => Res.bad) P := h
    cases ei : S[i]? with
    | none => rw [ei] at h; exact h.elim
    | some o =>
      rw [ei] at h
      cases o with
      | dic ks => first | (cases h; done) | exact (show False from h).elim
      | frd ks => first | (cases h; done) | exact (show False from h).elim
      | lst ds =>
        obtain ⟨a, vs, e1, e2, h1, h2, h3⟩ := rp_ref r hs ei
        exact ⟨i, ds, a, vs, rfl, e1, ei, e2, h1, h2, h3, h⟩
  | _ => exact (show False from h).elim
theorem ty_lst {a : Addr} {vs : List V} (h : H a = some (.lst vs)) : tyV K "list" (.ref a) H := .inl ⟨rfl, _, .of h⟩
end
theorem few1 (cpos : Pos) (env : Env) (hst : notStar e = true) : ((backTo cpos (starEach [e] env)).all (fun x => !x.1) && (backToKw cpos (keywordEach [] env)).all (fun x => x.1.isSome)
      && decide ([e].length + ([] : List Keyword).length + (if ([] : List Keyword).isEmpty then 0 else 1) < 30)) = true := by
  rw [star_cons hst]
  rfl
theorem few2 (cpos : Pos) (env : Env) (hst : notStar a = true) (hst2 : notStar b = true) : ((backTo cpos (starEach [a, b] env)).all (fun x => !x.1) && (backToKw cpos (keywordEach [] env)).all (fun x => x.1.isSome)
      && decide ([a, b].length + ([] : List Keyword).length + (if ([] : List Keyword).isEmpty then 0 else 1) < 30)) = true := by
  rw [star_cons hst, star_cons hst2]
  rfl
/-- a method with one argument, a method without -/
theorem sd_bm1 {nm : Str} {id : String} {r : V → List V → Hp → VK → Prop} {ap : Pos} {f : D → D → Sto → Res D} {cx : CE} (slot : Slot "list" nm id) (hty : typeOf (.builtin id) = pure (.type "method_descriptor")) (hm : ∀ X : Cx, MtR X id r)
    (ho : ∀ (K : Fg) (μ : List Addr) (H : Hp) (S : Sto) (x y : D) (v u : V) (Q : VK), StOk K μ H S → Rp K μ H x v → Rp K μ H y u → Po K μ H (f x y S) (fun d _ μ' H' => ∀ v, Rp K μ' H' d v → Q v H') → r v [u] H Q)
    (hev : ∀ C ρ S, evE C cx ρ S = (evE C ca ρ S).bind fun o S1 => withL S1 o fun _ _ => (evE C cb ρ S1).bind fun v S2 => f o v S2)
    (hc : notCall a = true) (hl : (ap.endLine == pos.line) = true) (hst : notStar e = true) (ha : SdE p a ca) (hb : SdE p e cb) : SdE p (.Call (.Attribute a nm ap) [e] [] pos) cx := fun X C g =>
  (pe_bm PySem.F.plainAttrs_list slot hty (hm X) (ha X C g) (pa_cons (hb X C g) pa_nil (star_cons hst [] _)) (plain_base hc _ _ _) (few1 _ _ hst) hl (star_cons hst [] _) rfl).pq fun σ H Q ⟨μ, ρ, S, he, hs, h⟩ => by
    rw [hev] at h
    refine ⟨μ, ρ, S, he, hs, h.bind.imp fun x S1 μ1 H1 _ e1 s1 h1 v rv => ?_⟩
    obtain ⟨i, ds, a0, vs, rfl, rfl, ei, ea, k1, k2, k3, h1⟩ := h1.withL s1 rv
    refine ⟨ty_lst k1, μ1, ρ, S1, he.mono e1, s1, h1.bind.imp fun y S2 μ2 H2 _ e2 s2 h2 w rw_ => ?_⟩
    exact ho X.K μ2 H2 S2 (.ref i) y _ w Q s2 (rv.mono e2) rw_ h2
theorem sd_app {ap : Pos} (hc : notCall a = true) (hl : (ap.endLine == pos.line) = true) (hst : notStar e = true) (ha : SdE p a ca) (hb : SdE p e cb) : SdE p (.Call (.Attribute a "append" ap) [e] [] pos) (.app ca cb) :=
  sd_bm1 (f := appD) PySem.F.slot_list_append PySem.F.type_list_append (fun X => mt_append) (fun K μ H S x y v u Q hs rx ry h => by
    obtain ⟨i, ds, a0, vs, rfl, rfl, ei, ea, k1, k2, k3, h⟩ := Po.withL hs rx h
    obtain ⟨hz, h⟩ := h.ite
    obtain ⟨x1, x2⟩ := hs.put ea k1 (k2.append (.cons ry .nil)) (by rw [List.length_append]; exact hz)
    exact ⟨a0, vs, u, rfl, rfl, k1, by rw [← k2.length]; exact hz, h _ _ x1 x2 _ rfl⟩) (fun C ρ S => by rw [evE]) hc hl hst ha hb
/-- l.insert(i, x) -/
theorem sd_ins {ap : Pos} {e2 : Expr} {cc : CE} (hc : notCall a = true) (hl : (ap.endLine == pos.line) = true) (hst : notStar e = true) (hst2 : notStar e2 = true) (ha : SdE p a ca) (hb : SdE p e cb) (hb2 : SdE p e2 cc) :
    SdE p (.Call (.Attribute a "insert" ap) [e, e2] [] pos) (.ins ca cb cc) := fun X C g =>
  (pe_bm (name := "insert") PySem.F.plainAttrs_list PySem.F.slot_list_insert PySem.F.type_list_insert mt_insert (ha X C g) (pa_cons (hb X C g) (pa_cons (hb2 X C g) pa_nil (star_cons hst2 [] _)) (star_cons hst [e2] _)) (plain_base hc _ _ _) (few2 _ _ hst hst2) hl (star_cons hst [e2] _) (star_any _ _ (by rw [List.all_cons, hst2]; rfl))).pq fun σ H Q ⟨μ, ρ, S, he, hs, h⟩ => by
    unfold evE at h
    refine ⟨μ, ρ, S, he, hs, h.bind.imp fun x S1 μ1 H1 _ e1 s1 h1 v rv => ?_⟩
    obtain ⟨i, ds, a0, vs, rfl, rfl, ei, ea, k1, k2, k3, h1⟩ := h1.withL s1 rv
    refine ⟨ty_lst k1, μ1, ρ, S1, he.mono e1, s1, h1.bind.imp fun y S2 μ2 H2 he2 e2 s2 h2 w rw_ => ?_⟩
    refine ⟨μ2, ρ, S2, (he.mono e1).mono e2, s2, h2.bind.imp fun z S3 μ3 H3 _ e3 s3 h3 u ru => ?_⟩
    have h3 : Po X.K μ3 H3 (insD (.ref i) y z S3) _ := h3
    obtain ⟨i', es, a', us, e4, e5, ej, eb, l1, l2, l3, h3⟩ := Po.withL s3 ((rv.mono e2).mono e3) h3
    cases e4
    cases e5
    cases y with
    | int j =>
      obtain ⟨⟨z1, z2, z3⟩, h3⟩ := Po.ite (show Po X.K μ3 H3 (if 0 ≤ j ∧ j < 2 ^ 63 ∧ es.length < sizeLine then Res.ok D.non (S3.set i (Ob.lst (es.take j.toNat ++ [z] ++ es.drop j.toNat))) else Res.bad) _ from h3)
      have hz : (es.take j.toNat ++ [z] ++ es.drop j.toNat).length ≤ sizeLine := by
        rw [List.length_append, List.length_append, List.length_take, List.length_drop, List.length_singleton]
        omega
      obtain ⟨x1, x2⟩ := s3.put eb l1 (((l2.take j.toNat).append (.cons ru .nil)).append (l2.drop j.toNat)) hz
      exact ⟨a0, us, j, u, rfl, by rw [show w = V.int j from (rw_.mono e3)], l1, by rw [← l2.length]; exact z3, z1, z2, h3 _ _ x1 x2 _ rfl⟩
    | _ => exact (show False from h3).elim
theorem sd_popAt {ap : Pos} (hc : notCall a = true) (hl : (ap.endLine == pos.line) = true) (hst : notStar e = true) (ha : SdE p a ca) (hb : SdE p e cb) : SdE p (.Call (.Attribute a "pop" ap) [e] [] pos) (.popAt ca cb) :=
  sd_bm1 (f := popAtD) PySem.F.slot_list_pop PySem.F.type_list_pop (fun X => mt_popAt) (fun K μ H S x y v u Q hs rx ry h => by
    obtain ⟨i, ds, a0, vs, rfl, rfl, ei, ea, k1, k2, k3, h⟩ := Po.withL hs rx h
    cases y with
    | int j =>
      obtain ⟨⟨hz1, hz2⟩, h⟩ := Po.ite (show Po K μ H (if -(2 ^ 63) ≤ j ∧ j < 2 ^ 63 then may (seqIndex? j ds.length) fun k => may ds[k]? fun d => Res.ok d (S.set i (Ob.lst (ds.eraseIdx k))) else Res.bad) _ from h)
      obtain ⟨k, ek, h⟩ := h.may
      obtain ⟨d, ed, h⟩ := h.may
      obtain ⟨w, ew, rw_⟩ := k2.get ed
      obtain ⟨x1, x2⟩ := hs.put ea k1 (k2.eraseIdx k) (Nat.le_trans (len_erase _ _) k3)
      exact ⟨a0, vs, j, k, w, rfl, by rw [show u = V.int j from ry], k1, hz1, hz2, by rw [← k2.length]; exact ek, ew, h _ _ x1 x2 _ (rw_.mono x1)⟩
    | _ => exact (show False from h).elim) (fun C ρ S => by rw [evE]) hc hl hst ha hb
theorem RpA.dropLast {K : Fg} {μ : List Addr} {H : Hp} {ds : List D} {vs : List V} (r : RpA K μ H ds vs) : RpA K μ H ds.dropLast vs.dropLast := by
  rw [List.dropLast_eq_take, List.dropLast_eq_take, r.length]
  exact r.take _
theorem sd_pop {ap : Pos} (hc : notCall a = true) (hl : (ap.endLine == pos.line) = true) (ha : SdE p a ca) : SdE p (.Call (.Attribute a "pop" ap) [] [] pos) (.pop ca) := fun X C g =>
  (pe_bm0 (name := "pop") PySem.F.plainAttrs_list PySem.F.slot_list_pop PySem.F.type_list_pop mt_pop (ha X C g) (plain_base hc _ _ _) hl).pq fun σ H Q ⟨μ, ρ, S, he, hs, h⟩ => by
    unfold evE at h
    refine ⟨μ, ρ, S, he, hs, h.bind.imp fun x S1 μ1 H1 _ e1 s1 h1 v rv => ?_⟩
    obtain ⟨i, ds, a0, vs, rfl, rfl, ei, ea, k1, k2, k3, h1⟩ := Po.withL s1 rv h1
    obtain ⟨d, ed, h1⟩ := h1.may
    obtain ⟨w, ew, rw_⟩ := k2.get ed
    obtain ⟨x1, x2⟩ := s1.put ea k1 k2.dropLast (by rw [List.length_dropLast]; omega)
    exact ⟨ty_lst k1, a0, vs, w, rfl, rfl, k1, by rw [← k2.length]; exact ew, h1 _ _ x1 x2 _ (rw_.mono x1)⟩
theorem sd_ext {ap : Pos} (hc : notCall a = true) (hl : (ap.endLine == pos.line) = true) (hst : notStar e = true) (ha : SdE p a ca) (hb : SdR p e cr) : SdE p (.Call (.Attribute a "extend" ap) [e] [] pos) (.ext ca cr) := fun X C g =>
  (pe_bm (name := "extend") PySem.F.plainAttrs_list PySem.F.slot_list_extend PySem.F.type_list_extend mt_extend (ha X C g) (pa_cons (hb X C g) pa_nil (star_cons hst [] _)) (plain_base hc _ _ _) (few1 _ _ hst) hl (star_cons hst [] _) rfl).pq fun σ H Q ⟨μ, ρ, S, he, hs, h⟩ => by
    unfold evE at h
    refine ⟨μ, ρ, S, he, hs, h.bind.imp fun x S1 μ1 H1 _ e1 s1 h1 v rv => ?_⟩
    obtain ⟨i, ds, a0, vs, rfl, rfl, ei, ea, k1, k2, k3, h1⟩ := h1.withL s1 rv
    refine ⟨ty_lst k1, μ1, ρ, S1, he.mono e1, s1, h1.bind.imp fun y S2 μ2 H2 _ e2 s2 h2 w rw_ => ?_⟩
    obtain ⟨i', es, a', us, e3, e4, ej, eb, l1, l2, l3, h2⟩ := Po.withL s2 (rv.mono e2) h2
    cases e3
    cases e4
    obtain ⟨fs, ef, h2⟩ := h2.may
    obtain ⟨hz, h2⟩ := h2.ite
    obtain ⟨b, ws, rfl, m1, m2, m3⟩ := tr_rv s2 rw_ ef
    obtain ⟨x1, x2⟩ := s2.put eb l1 (l2.append m2) (by rw [List.length_append]; exact hz)
    exact ⟨a0, b, us, ws, rfl, rfl, l1, m1, by rw [← l2.length, ← m2.length]; exact hz, h2 _ _ x1 x2 _ rfl⟩

theorem rp_strs {K : Fg} {μ : List Addr} {H : Hp} : ∀ {ds : List D} {vs : List V} {ys : List Str}, RpA K μ H ds vs → strsOf ds = some ys → vs = ys.map V.str
  | [], _, _, h, e => by
    cases e
    exact h
  | .str x :: ds, _, ys, ⟨v, r, e1, h1, h2⟩, e => by
    have e : (strsOf ds).map (x :: ·) = some ys := e
    cases e2 : strsOf ds with
    | none => rw [e2] at e; cases e
    | some zs =>
      rw [e2] at e
      cases e
      rw [e1, rp_strs h2 e2]
      cases h1
      rfl
  | .non :: _, _, _, _, e => nomatch e
  | .bl _ :: _, _, _, _, e => nomatch e
  | .int _ :: _, _, _, _, e => nomatch e
  | .tup _ :: _, _, _, _, e => nomatch e
  | .fix _ :: _, _, _, _, e => nomatch e
  | .ref _ :: _, _, _, _, e => nomatch e
/-- 'text'.join(r) -/
theorem sd_join {ap cp : Pos} {s : Str} {j : _} (hl : (ap.endLine == pos.line) = true) (hst : notStar e = true) (hb : SdR p e cr) : SdE p (.Call (.Attribute (.Constant (.str s) j cp) "join" ap) [e] [] pos) (.join s cr) := fun X C g =>
  (pe_join (o := .Constant (.str s) j cp) pe_str (hb X C g) (star_cons hst [] _) rfl hl).pq fun σ H Q ⟨μ, ρ, S, he, hs, h⟩ => by
    unfold evE at h
    refine ⟨⟨s, rfl⟩, μ, ρ, S, he, hs, h.bind.imp fun w S1 μ1 H1 _ e1 s1 h1 v rv => ?_⟩
    obtain ⟨ds, e2, h1⟩ := h1.may
    obtain ⟨ys, e3, h1⟩ := h1.may
    obtain ⟨z, h1⟩ := h1.ask
    obtain ⟨a, vs, rfl, q1, q2, _⟩ := sq_rv s1 rv e2
    have ev := rp_strs q2 e3
    subst ev
    exact ⟨s, a, ys, rfl, rfl, q1.imp id (fun z => z.1.sq), z, h1.at s1 _ rfl⟩

theorem ixL_of {K : Fg} {μ : List Addr} {H : Hp} {S : Sto} {x y : D} {a : Addr} {w : V} {ps : List PyData} {n : Nat} {p : PyData} (hs : StOk K μ H S) (ry : Rp K μ H y w) (ep : toP S y = some p) (h : (if (shp p && shp (.list ps)) = true then ps.findIdx? (fun q => PyData.eqv q p) else none) = some n) :
    Dp K H w p ∧ shp (.list ps) = true ∧ shp p = true ∧ ∃ z, ps[n]? = some z ∧ PyData.eqv z p = true ∧ ∀ (m : Nat) (z' : PyData), m < n → ps[m]? = some z' → PyData.eqv z' p = false := by
  split at h
  · rename_i c
    rw [Bool.and_eq_true] at c
    obtain ⟨h1, h2, h3⟩ := List.findIdx?_eq_some_iff_getElem.mp h
    refine ⟨toP_dp hs ry ep, c.2, c.1, ps[n], List.getElem?_eq_getElem h1, h2, fun m z' hm e => ?_⟩
    have h4 := h3 m hm
    rw [(List.getElem?_eq_some_iff.mp e).2] at h4
    simpa using h4
  · cases h
/-- x.index(y) -/
theorem sd_tix {ap : Pos} (hc : notCall a = true) (hl : (ap.endLine == pos.line) = true) (hst : notStar e = true) (ha : SdE p a ca) (hb : SdE p e cb) : SdE p (.Call (.Attribute a "index" ap) [e] [] pos) (.tix ca cb) := fun X C g =>
  (pe_tl (name := "index") PySem.F.slot_tuple_index PySem.F.type_tuple_index (mt_indexTI (by have := g.un; omega)) PySem.F.slot_list_index PySem.F.type_list_index (mt_indexP (by have := g.un; omega)) (ha X C g) (pa_cons (hb X C g) pa_nil (star_cons hst [] _)) (plain_base hc _ _ _) (few1 _ _ hst) hl (star_cons hst [] _) rfl).pq fun σ H Q ⟨μ, ρ, S, he, hs, h⟩ => by
    unfold evE at h
    refine ⟨μ, ρ, S, he, hs, h.bind.imp fun x S1 μ1 H1 _ e1 s1 h1 v rv => ?_⟩
    cases x with
    | tup ds =>
      obtain ⟨a0, vs, rfl, k1, k2, k3⟩ := rv
      have h1 : Po X.K μ1 H1 ((evE C cb ρ S1).bind fun y S2 => tixD ds y S2) _ := h1
      refine .inl ⟨⟨a0, vs, rfl, k1⟩, μ1, ρ, S1, he.mono e1, s1, h1.bind.imp fun y S2 μ2 H2 _ e2 s2 h2 w rw_ => ?_⟩
      have gen : Po X.K μ2 H2 (may (ixD (.tup ds) y S2) fun j => Res.ok (D.int (j : Nat)) S2) (fun d x μ' H' => ∀ (v : V), Rp X.K μ' H' d v → Q v H') → rIdxI X.K (.ref a0) [w] H2 Q ∨ rIndexT X.K (.ref a0) [w] H2 Q := fun h2 => by
        obtain ⟨n, en, h2⟩ := h2.may
        have rx : Rp X.K μ2 H2 (.tup ds) (.ref a0) := ⟨a0, vs, rfl, e2.tup _ _ k1, k2.mono e2, k3⟩
        unfold ixD at en
        cases ex : toP S2 (.tup ds) with
        | none => rw [ex] at en; cases en
        | some q =>
          cases ey : toP S2 y with
          | none => rw [ex, ey] at en; cases q <;> cases en
          | some p =>
            have dx := toP_dp s2 rx ex
            cases q with
            | tuple ps =>
              rw [ex, ey] at en
              obtain ⟨d1, d2, d3, z, d4, d5, d6⟩ := ixL_of (x := .tup ds) (a := a0) s2 rw_ ey en
              exact .inr ⟨a0, w, p, ps, n, z, rfl, rfl, dx, d1, d2, d3, d4, d5, d6, h2.at s2 _ rfl⟩
            | list ps =>
              exfalso
              have : (toPsW (refP S2 8) ds).map PyData.tuple = some (.list ps) := ex
              cases e9 : toPsW (refP S2 8) ds with
              | none => rw [e9] at this; cases this
              | some _ => rw [e9] at this; cases this
            | _ => rw [ex, ey] at en; cases en
      cases y with
      | int z =>
        have h2 : Po X.K μ2 H2 (may (intsOf ds) fun ns => if z ∈ ns then Res.ok (D.int ((ns.idxOf z : Nat) : Int)) S2 else Res.bad) _ := h2
        obtain ⟨ns, en, h2⟩ := h2.may
        obtain ⟨hz, h2⟩ := h2.ite
        have ev := rp_ints k2 en
        subst ev
        refine .inl ⟨a0, ns, z, ns.idxOf z, rfl, by rw [show w = V.int z from rw_], (e2.tup _ _ k1).sq, ?_, fun m hm e => ?_, h2.at s2 _ rfl⟩
        · rw [List.getElem?_eq_getElem (List.idxOf_lt_length_iff.mpr hz)]
          simp
        · have hm' : m < ns.length := (List.getElem?_eq_some_iff.mp e).1
          have := List.not_of_lt_findIdx (p := (· == z)) (xs := ns) hm
          rw [(List.getElem?_eq_some_iff.mp e).2] at this
          simp at this
      | _ => exact gen h2
    | ref j =>
      have h1 : Po X.K μ1 H1 (withL S1 (.ref j) fun _ _ => (evE C cb ρ S1).bind fun y S2 => may (ixD (.ref j) y S2) fun n => Res.ok (D.int (n : Nat)) S2) _ := h1
      obtain ⟨i, ds, a0, vs, ej, rfl, ei, ea, k1, k2, k3, h1⟩ := h1.withL s1 rv
      cases ej
      refine .inr ⟨ty_lst k1, μ1, ρ, S1, he.mono e1, s1, h1.bind.imp fun y S2 μ2 H2 _ e2 s2 h2 w rw_ => ?_⟩
      obtain ⟨n, en, h2⟩ := h2.may
      have rx := rv.mono e2
      unfold ixD at en
      cases ex : toP S2 (.ref j) with
      | none => rw [ex] at en; cases en
      | some q =>
        cases ey : toP S2 y with
        | none => rw [ex, ey] at en; cases q <;> cases en
        | some p =>
          have dx := toP_dp s2 rx ex
          cases q with
          | list ps =>
            rw [ex, ey] at en
            obtain ⟨d1, d2, d3, z, d4, d5, d6⟩ := ixL_of (x := .ref j) (a := a0) s2 rw_ ey en
            exact ⟨a0, w, p, ps, n, z, rfl, rfl, dx, d1, d2, d3, d4, d5, d6, h2.at s2 _ rfl⟩
          | tuple ps =>
            exfalso
            have : refP S2 8 j = some (.tuple ps) := ex
            unfold refP at this
            split at this
            · rename_i q _
              cases e9 : toPsW (refP S2 7) q with
              | none => rw [e9] at this; cases this
              | some _ => rw [e9] at this; cases this
            · cases this
          | _ => rw [ex, ey] at en; cases en
    | _ => exact (show False from h1).elim

/-! ### in, not in -/
theorem flat_rp {K : Fg} {μ : List Addr} {H : Hp} {x y : D} {v u : V} (rx : Rp K μ H x v) (f : flatD x = true) : flatV v = true := by
  cases x <;> first | (cases f; done) | (cases rx; rfl)
theorem eqF_rp {K : Fg} {μ : List Addr} {H : Hp} {x y : D} {v u : V} (rx : Rp K μ H x v) (ry : Rp K μ H y u) (fx : flatD x = true) (fy : flatD y = true) : eqV u v = eqF y x := by
  cases x <;> cases y <;> first | (cases fx; done) | (cases fy; done) | (cases rx; cases ry; rfl)
theorem flats_rp {K : Fg} {μ : List Addr} {H : Hp} : ∀ {ds : List D} {vs : List V}, RpA K μ H ds vs → ds.all flatD = true → vs.all flatV = true
  | [], _, h, _ => by rw [show _ = ([] : List V) from h]; rfl
  | d :: ds, _, ⟨v, r, e, h1, h2⟩, h => by
    rw [List.all_cons, Bool.and_eq_true] at h
    rw [e, List.all_cons, flat_rp (y := d) (u := v) h1 h.1, flats_rp h2 h.2]
    rfl
theorem anyF_rp {K : Fg} {μ : List Addr} {H : Hp} {x : D} {v : V} (rx : Rp K μ H x v) (fx : flatD x = true) : ∀ {ds : List D} {vs : List V}, RpA K μ H ds vs → ds.all flatD = true → inV v vs = ds.any fun y => eqF y x
  | [], _, h, _ => by rw [show _ = ([] : List V) from h]; rfl
  | d :: ds, _, ⟨w, r, e, h1, h2⟩, h => by
    rw [List.all_cons, Bool.and_eq_true] at h
    rw [e]
    show (eqV w v || inV v r) = _
    rw [List.any_cons, eqF_rp rx h1 fx h.1, anyF_rp rx fx h2 h.2]
def rIn2 (K : Fg) (neg : Bool) : R2 := fun x y H Q => rIn K neg x y H Q ∨ ∃ d ds, Dp K H x d ∧ Dp K H y (.list ds) ∧ shp d = true ∧ shp (.list ds) = true ∧ Q (.bl (if neg then !ds.any (fun z => PyData.eqv z d) else ds.any fun z => PyData.eqv z d)) H
/-- in, of a dict -/
def rInK (neg : Bool) : R2 := fun x y H Q => ∃ a o, y = .ref a ∧ DGet H a x o ∧ Q (.bl (if neg then !o.isSome else o.isSome)) H
theorem op_inK {X : Cx} (hu : X.A.units + 1 < cLine) : OpR X (compareOp .In) (rInK false) := by
  intro pins s σ H x y v u Q I rx ry q
  obtain ⟨a, o, rfl, g, q⟩ := q
  cases ry
  exact d_in hu I g rx fun s' I' => ⟨.bl o.isSome, H, I', rfl, q⟩
theorem op_notInK {X : Cx} (hu : X.A.units + 1 < cLine) : OpR X (compareOp .NotIn) (rInK true) := by
  intro pins s σ H x y v u Q I rx ry q
  obtain ⟨a, o, rfl, g, q⟩ := q
  cases ry
  exact d_notIn hu I g rx fun s' I' => ⟨.bl (!o.isSome), H, I', rfl, q⟩
theorem key_rp {K : Fg} {μ : List Addr} {H : Hp} {x : D} {v : V} {k : Key} (r : Rp K μ H x v) (h : keyOf x = some k) : v = kV k := by
  cases x with
  | int i => cases h; exact r
  | str i => cases h; exact r
  | _ => cases h
def rInS (neg : Bool) : R2 := fun x y H Q => ∃ (c : Nat) (z : Str), x = .str ⟨#[c]⟩ ∧ y = .str z ∧ Q (.bl (if neg then !decide (c ∈ z.cps.toList) else decide (c ∈ z.cps.toList))) H
theorem signIn_rp {K : Fg} {μ : List Addr} {H : Hp} {x : D} {r : RV} {v u : V} {k : Bool} (rx : Rp K μ H x v) (rr : RvR K μ H r u) (h : signIn x r = some k) : ∃ (c : Nat) (z : Str), v = .str ⟨#[c]⟩ ∧ u = .str z ∧ k = decide (c ∈ z.cps.toList) := by
  unfold signIn at h
  split at h
  · rename_i c z
    cases h
    exact ⟨c, z, rx, rr, rfl⟩
  · cases h
def rIn3 (K : Fg) (neg : Bool) : R2 := fun x y H Q => rInS neg x y H Q ∨ (rInK neg x y H Q ∨ rIn2 K neg x y H Q)
theorem os_in {K : Fg} {μ : List Addr} {H : Hp} {S : Sto} {x : D} {r : RV} {v u : V} {Q : VK} {k : Bool} (neg : Bool) (hs : StOk K μ H S) (rx : Rp K μ H x v) (rr : RvR K μ H r u) (h : inD x r S = some k) (q : Q (.bl (if neg then !k else k)) H) : rIn3 K neg v u H Q := by
  unfold inD at h
  cases e1 : sqOf S r with
  | none =>
    rw [e1] at h
    have h : (match signIn x r with
      | some b => some b
      | none => match dicOf S r, keyOf x with
        | some ks, some k => some (gD ks k).isSome
        | _, _ => none) = some k := h
    cases e0 : signIn x r with
    | some b0 =>
      rw [e0] at h
      cases h
      obtain ⟨c, z, rfl, rfl, e⟩ := signIn_rp rx rr e0
      subst e
      exact .inl ⟨c, z, rfl, rfl, q⟩
    | none =>
    rw [e0] at h
    have h : (match dicOf S r, keyOf x with
      | some ks, some k => some (gD ks k).isSome
      | _, _ => none) = some k := h
    cases e2 : dicOf S r with
    | none => rw [e2] at h; cases h
    | some ks =>
      cases e3 : keyOf x with
      | none => rw [e2, e3] at h; cases h
      | some j =>
        rw [e2, e3] at h
        cases h
        obtain ⟨a, vs, rfl, h1, h2, h3, h4⟩ := dic_rv hs rr e2
        refine .inr (.inl ⟨a, valV vs j, rfl, ?_, by rw [h2.isSome]; exact q⟩)
        rw [key_rp rx e3]
        exact dget_rd h1
  | some ds =>
    refine .inr (.inr ?_)
    rw [e1] at h
    have h : (if (flatD x && ds.all flatD) = true then some (ds.any fun y => eqF y x) else (match lsOf S r with
      | some ds => (match toP S x, toPs S ds with
        | some p, some ps => if (shp p && shp (.list ps)) = true then some (ps.any fun q => PyData.eqv q p) else none
        | _, _ => none)
      | none => none)) = some k := h
    split at h
    · rename_i hf
      rw [Bool.and_eq_true] at hf
      cases h
      obtain ⟨a, vs, rfl, h1, h2, _⟩ := sq_rv hs rr e1
      refine .inl ⟨a, vs, rfl, sq_or h1, flat_rp (y := x) (u := v) rx hf.1, flats_rp h2 hf.2, ?_⟩
      rw [anyF_rp rx hf.1 h2 hf.2]
      exact q
    · cases e2 : lsOf S r with
      | none => rw [e2] at h; cases h
      | some es =>
        rw [e2] at h
        obtain ⟨a, vs, rfl, h1, h2, _⟩ := ls_rv hs rr e2
        have h : (match toP S x, toPs S es with
          | some p, some ps => if (shp p && shp (.list ps)) = true then some (ps.any fun q => PyData.eqv q p) else none
          | _, _ => none) = some k := h
        cases e3 : toP S x with
        | none => rw [e3] at h; cases h
        | some p1 =>
          cases e4 : toPs S es with
          | none => rw [e3, e4] at h; cases h
          | some ps =>
            rw [e3, e4] at h
            have h : (if (shp p1 && shp (.list ps)) = true then some (ps.any fun q => PyData.eqv q p1) else none) = some k := h
            split at h
            · rename_i hf
              rw [Bool.and_eq_true] at hf
              cases h
              exact .inr ⟨p1, ps, toP_dp hs rx e3, .lst h1 (toPs_dp hs h2 e4), hf.1, hf.2, q⟩
            · cases h
theorem sc_in (hm : behindInMarks .In b = false) (ha : SdE p a ca) (hb : SdR p b cr) : SdC p (.Compare a [.In] [b] pos) (.inr ca cr) := fun X C g => by
  have hu := g.un
  have ho : OpR X (compareOp .In) (rIn3 X.K false) := op_in_sign.or ((op_inK (by omega)).or (op_in_seq.or (op_inP (by omega))))
  refine ⟨_, pe_cmpR ho (ha X C g) (hb X C g) hm, pt_cmpR ho (ha X C g) (hb X C g) hm, fun σ H Q ⟨μ, ρ, S, he, hs, h⟩ => ?_⟩
  unfold evE at h
  refine ⟨μ, ρ, S, he, hs, h.bind.imp fun x S1 μ1 H1 _ e1 s1 h1 v rv => ?_⟩
  refine ⟨μ1, ρ, S1, he.mono e1, s1, h1.bind.imp fun y S2 μ2 H2 _ e2 s2 h2 u ru => ?_⟩
  obtain ⟨k, ek, h2⟩ := h2.may
  exact os_in false s2 (rv.mono e2) ru ek (h2.at s2 _ rfl)
theorem sc_notIn (hm : behindInMarks .NotIn b = false) (ha : SdE p a ca) (hb : SdR p b cr) : SdC p (.Compare a [.NotIn] [b] pos) (.notInr ca cr) := fun X C g => by
  have hu := g.un
  have ho : OpR X (compareOp .NotIn) (rIn3 X.K true) := op_notIn_sign.or ((op_notInK (by omega)).or (op_notIn_seq.or (op_notInP (by omega))))
  refine ⟨_, pe_cmpR ho (ha X C g) (hb X C g) hm, pt_cmpR ho (ha X C g) (hb X C g) hm, fun σ H Q ⟨μ, ρ, S, he, hs, h⟩ => ?_⟩
  unfold evE at h
  refine ⟨μ, ρ, S, he, hs, h.bind.imp fun x S1 μ1 H1 _ e1 s1 h1 v rv => ?_⟩
  refine ⟨μ1, ρ, S1, he.mono e1, s1, h1.bind.imp fun y S2 μ2 H2 _ e2 s2 h2 u ru => ?_⟩
  obtain ⟨k, ek, h2⟩ := h2.may
  exact os_in true s2 (rv.mono e2) ru ek (h2.at s2 _ rfl)
theorem b_in : ∀ C ρ S d S', evE C (.inr ca cr) ρ S = .ok d S' → isB d = true := fun C ρ S d S' h => by
  unfold evE at h
  obtain ⟨x, S1, _, h⟩ := bind_ok h
  obtain ⟨y, S2, _, h⟩ := bind_ok h
  obtain ⟨k, _, h⟩ := may_ok h
  cases h; rfl
theorem b_notIn : ∀ C ρ S d S', evE C (.notInr ca cr) ρ S = .ok d S' → isB d = true := fun C ρ S d S' h => by
  unfold evE at h
  obtain ⟨x, S1, _, h⟩ := bind_ok h
  obtain ⟨y, S2, _, h⟩ := bind_ok h
  obtain ⟨k, _, h⟩ := may_ok h
  cases h; rfl

/-! ### dicts -/
/-- a value that is a dict of the store -/
theorem Po.withD {α : Type} {K : Fg} {μ : List Addr} {H : Hp} {S : Sto} {x : D} {v : V} {f : Nat → List (Key × D) → Res α} {P : α → Sto → List Addr → Hp → Prop} (hs : StOk K μ H S) (r : Rp K μ H x v) (h : Po K μ H (withD S x f) P) : ∃ i ks a vs, x = .ref i ∧ v = .ref a ∧ S[i]? = some (.dic ks) ∧ μ[i]? = some a ∧ H a = some (.dK vs) ∧ RpK K μ H ks vs ∧ ks.length ≤ sizeLine ∧ Nk ks ∧ Po K μ H (f i ks) P := by
  cases x with
  | ref i =>
    have h : Po K μ H (match S[i]? with
      | some (Ob.dic ks) => f i ks
      | _ => Res.bad) P := h
    cases ei : S[i]? with
    | none => rw [ei] at h; exact h.elim
    | some o =>
      rw [ei] at h
      cases o with
      | lst ds => exact h.elim
      | frd ks => exact h.elim
      | dic ks =>
        obtain ⟨a, vs, e1, e2, h1, h2, h3, h4⟩ := rp_refD r hs ei
        exact ⟨i, ks, a, vs, rfl, e1, ei, e2, h1, h2, h3, h4, h⟩
  | _ => exact (show False from h).elim
/-- .. that is only read -/
theorem Po.withR {α : Type} {K : Fg} {μ : List Addr} {H : Hp} {S : Sto} {x : D} {v : V} {f : Nat → List (Key × D) → Res α} {P : α → Sto → List Addr → Hp → Prop} (hs : StOk K μ H S) (r : Rp K μ H x v) (h : Po K μ H (withR S x f) P) : ∃ i ks a vs, x = .ref i ∧ v = .ref a ∧ μ[i]? = some a ∧ Rd H a (.dK vs) ∧ RpK K μ H ks vs ∧ Po K μ H (f i ks) P := by
  cases x with
  | ref i =>
    have h : Po K μ H (match S[i]? with
      | some (Ob.dic ks) => f i ks
      | some (Ob.frd ks) => f i ks
      | _ => Res.bad) P := h
    cases ei : S[i]? with
    | none => rw [ei] at h; exact h.elim
    | some o =>
      rw [ei] at h
      cases o with
      | lst ds => exact h.elim
      | dic ks =>
        obtain ⟨a, vs, e1, e2, h1, h2, h3, h4⟩ := rp_refD r hs ei
        exact ⟨i, ks, a, vs, rfl, e1, e2, .inl h1, h2, h⟩
      | frd ks =>
        obtain ⟨a, vs, e1, e2, h1, h2, h3, h4⟩ := rp_refF r hs ei
        exact ⟨i, ks, a, vs, rfl, e1, e2, .inr h1, h2, h⟩
  | _ => exact (show False from h).elim
/-- {} -/
theorem sd_dnew : SdE p (.Dict [] [] pos) .dnew := fun X C g => pe_dnewK.pq fun σ H Q ⟨μ, ρ, S, he, hs, h⟩ => by
  unfold evE at h
  intro q hq
  refine h (μ ++ [q]) _ ((hs.fresh hq _).take hq) ((hs.freshOk hq _).takeO (fun m => ?_) ⟨[], upd_same, rfl, Nat.zero_le _, trivial⟩) _ ⟨q, rfl, ?_⟩
  · obtain ⟨w, e, _⟩ := hs.mem m
    rw [hq] at e; cases e
  · rw [← hs.len, List.getElem?_append_right (Nat.le_refl _), Nat.sub_self]
    rfl
/-- d.get(k, x) -/
theorem sd_dget {ap : Pos} (hc : notCall a = true) (hl : (ap.endLine == pos.line) = true) (hst : notStar b = true) (hst2 : notStar c = true) (ha : SdE p a ca) (hb : SdE p b cb) (hcc : SdE p c cc) : SdE p (.Call (.Attribute a "get" ap) [b, c] [] pos) (.dget ca cb cc) := fun X C g =>
  (pe_dget2 (by have := g.un; omega) (ha X C g) (hb X C g) (hcc X C g) ⟨plain_base hc _ _ _, by
    rw [star_cons hst, star_cons hst2]
    rfl, hl, by
    rw [star_cons hst, star_cons hst2]
    rfl⟩).pq fun σ H Q ⟨μ, ρ, S, he, hs, h⟩ => by
    unfold evE at h
    refine ⟨μ, ρ, S, he, hs, h.bind.imp fun x S1 μ1 H1 _ e1 s1 h1 v rv => ?_⟩
    obtain ⟨i, ks, a0, vs, rfl, rfl, ea, k1, k2, h1⟩ := h1.withR s1 rv
    refine ⟨a0, rfl, .inl ⟨vs, k1⟩, μ1, ρ, S1, he.mono e1, s1, h1.bind.imp fun y S2 μ2 H2 _ e2 s2 h2 w rw_ => ?_⟩
    refine ⟨μ2, ρ, S2, he.mono (e1.trans e2), s2, h2.bind.imp fun z S3 μ3 H3 _ e3 s3 h3 t rt => ?_⟩
    obtain ⟨i', ks', a', vs', e4, e5, eb, l1, l2, h3⟩ := Po.withR s3 ((rv.mono e2).mono e3) h3
    cases e4
    cases e5
    obtain ⟨k, ek, h3⟩ := h3.may
    refine ⟨valV vs' k, ?_, ?_⟩
    · rw [key_rp (rw_.mono e3) ek]
      exact dget_rd l1
    · cases eg : gD ks' k with
      | none =>
        rw [l2.getN eg]
        rw [eg] at h3
        exact h3.at s3 _ rt
      | some d =>
        obtain ⟨w', ew, rd⟩ := l2.getS eg
        rw [ew]
        rw [eg] at h3
        exact h3.at s3 _ rd
/-- d.get(k) -/
theorem sd_dget1 {ap : Pos} (hc : notCall a = true) (hl : (ap.endLine == pos.line) = true) (hst : notStar b = true) (ha : SdE p a ca) (hb : SdE p b cb) : SdE p (.Call (.Attribute a "get" ap) [b] [] pos) (.dget ca cb (.lit .non)) := fun X C g =>
  (pe_dget1 (by have := g.un; omega) (ha X C g) (hb X C g) ⟨plain_base hc _ _ _, by
    rw [star_cons hst]
    rfl, hl, by
    rw [star_cons hst]
    rfl⟩).pq fun σ H Q ⟨μ, ρ, S, he, hs, h⟩ => by
    unfold evE at h
    refine ⟨μ, ρ, S, he, hs, h.bind.imp fun x S1 μ1 H1 _ e1 s1 h1 v rv => ?_⟩
    obtain ⟨i, ks, a0, vs, rfl, rfl, ea, k1, k2, h1⟩ := h1.withR s1 rv
    refine ⟨a0, rfl, .inl ⟨vs, k1⟩, μ1, ρ, S1, he.mono e1, s1, h1.bind.imp fun y S2 μ2 H2 _ e2 s2 h2 w rw_ => ?_⟩
    have h3 := h2.bind
    unfold evE at h3
    have h3 := h3.at s2
    obtain ⟨i', ks', a', vs', e4, e5, eb, l1, l2, h3⟩ := Po.withR s2 (rv.mono e2) h3
    cases e4
    cases e5
    obtain ⟨k, ek, h3⟩ := h3.may
    refine ⟨valV vs' k, ?_, ?_⟩
    · rw [key_rp rw_ ek]
      exact dget_rd l1
    · cases eg : gD ks' k with
      | none =>
        rw [l2.getN eg]
        rw [eg] at h3
        exact h3.at s2 .non rfl
      | some d =>
        obtain ⟨w', ew, rd⟩ := l2.getS eg
        rw [ew]
        rw [eg] at h3
        exact h3.at s2 _ rd
end
end PQ

/-! New lists; what is walked; comprehensions. -/
namespace PQ
open PySem PySem.Spec PyProof.Rows L2
section
variable {p : Pl} {a b c e : Expr} {ca cb cc : CE} {cr cr2 : CR} {pos q : Pos}
/-- one's own new list at l -/
theorem own_new {K : Fg} {μ : List Addr} {H : Hp} {S : Sto} {ds : List D} {vs : List V} {l : Addr} (s1 : StOk K μ H S) (r : RpA K μ H ds vs) (hl : H l = none) : l ∉ μ ∧ RpA K μ (upd H l (.lst vs)) ds vs := by
  refine ⟨fun m => ?_, r.mono (s1.fresh hl _)⟩
  obtain ⟨w, ew, _⟩ := s1.mem m
  rw [hl] at ew; cases ew
theorem sq_cat (ha : SdR p a cr) (hb : SdR p b cr2) : SdQ p (.BinOp a .Add b pos) (.cat cr cr2) := fun X C g =>
  (pe_op op_cat (ha X C g) (hb X C g)).pq fun σ H Q ⟨μ, ρ, S, he, hs, h⟩ => by
    unfold evQ at h
    refine ⟨μ, ρ, S, he, hs, h.bind.imp fun x S1 μ1 H1 _ e1 s1 h1 v rv => ?_⟩
    refine ⟨μ1, ρ, S1, he.mono e1, s1, h1.bind.imp fun y S2 μ2 H2 _ e2 s2 h2 u ru => ?_⟩
    obtain ⟨ds, ed, h2⟩ := h2.may
    obtain ⟨es, ee, h2⟩ := h2.may
    obtain ⟨z, h2⟩ := h2.ask
    obtain ⟨a, vs, rfl, k1, k2, k3⟩ := tr_rv s2 (rv.mono e2) ed
    obtain ⟨b, us, rfl, l1, l2, l3⟩ := tr_rv s2 ru ee
    refine ⟨a, b, vs, us, rfl, rfl, k1, l1, by rw [← k2.length, ← l2.length]; exact z, fun l hl => ?_⟩
    obtain ⟨n1, n2⟩ := own_new s2 (k2.append l2) hl
    exact h2 μ2 _ (s2.fresh hl _) (s2.freshOk hl _) l _ (e1.alive _ (e2.alive _ hl)) upd_same n1 n2 (by rw [List.length_append]; exact z)

/-! ### sorted -/
def rSortD (K : Fg) : List V → Hp → VK → Prop := fun vs H Q => ∃ (a : Addr) (xs : List V) (ps : List PyData), vs = [V.ref a] ∧ SqL K H a xs ∧ DpAll K H xs ps ∧ PySem.W.AllAlike ps ∧ PySem.W.Sortable ps ∧ (∀ p ∈ ps, p.depth ≤ 64) ∧ xs.length ≤ sizeLine ∧
  ∀ l, H l = none → Q (.ref l) (upd H l (.lst (((xs.zip ps).mergeSort (PySem.W.dataLe false (·.2))).map (·.1))))
theorem dpAll_zip {K : Fg} {H : Hp} : ∀ {xs : List V} {ps : List PyData}, DpAll K H xs ps → (xs.zip ps).map (·.2) = ps ∧ (xs.zip ps).map (·.1) = xs
  | _, _, .nil => ⟨rfl, rfl⟩
  | _, _, .cons h t => by
    obtain ⟨h1, h2⟩ := dpAll_zip t
    rw [List.zip_cons_cons, List.map_cons, List.map_cons, h1, h2]
    exact ⟨rfl, rfl⟩
theorem cr_sortD {X : Cx} (hu : X.A.units + 70 < cLine) : CallR X (.builtin "sorted") (rSortD X.K) := by
  intro pins s σ H vs us Q I r h
  obtain ⟨a, xs, ps, rfl, hs, hp, hal, hso, hdp, hz, q⟩ := h
  obtain ⟨its, rv, hl, _⟩ := I.list hs
  rw [Vals.ref1 r]
  obtain ⟨z2, z1⟩ := dpAll_zip hp
  have e1 : ∀ {xs : List V} {ps : List PyData} {its : List Value}, DpAll X.K H xs ps → Vals xs its → PySem.W.EachIs (fun (u : Value) (b : V × PyData) => RelV b.1 u) its (xs.zip ps) := by
    intro xs ps its h
    induction xs generalizing ps its with
    | nil => intro r; cases h; cases r; exact .nil
    | cons x xs ih => intro r; cases h with | cons h1 h2 => cases r with | cons r1 r2 => exact .cons r1 (ih h2 r2)
  have e2 : ∀ {xs : List V} {ps : List PyData} {its : List Value}, DpAll X.K H xs ps → Vals xs its → PySem.W.EachIs (fun (u : Value) (b : V × PyData) => ∃ as, Reads s.heap u b.2 as) its (xs.zip ps) := by
    intro xs ps its h
    induction xs generalizing ps its with
    | nil => intro r; cases h; cases r; exact .nil
    | cons x xs ih => intro r; cases h with | cons h1 h2 => cases r with | cons r1 r2 => exact .cons (Dp.reads I _ _ _ h1 r1) (ih h2 r2)
  have e3 : ∀ {out : List Value} {bs : List (V × PyData)}, PySem.W.EachIs (fun (u : Value) (b : V × PyData) => RelV b.1 u) out bs → Vals (bs.map (·.1)) out := by
    intro out bs h
    induction h with
    | nil => exact .nil
    | cons h _ ih => exact .cons h ih
  have hlen : (xs.zip ps).length = xs.length := by
    have := congrArg List.length z1
    rw [List.length_map] at this
    exact this
  refine PySem.W.sorted_data (vs := its) (bs := xs.zip ps) (enc := fun b : V × PyData => b.2) hl.isList (e1 hp rv) (e2 hp rv) (by rw [z2]; exact hal) (by rw [z2]; exact hso) (by rw [hlen]; exact hz) (fun b hb => ?_) fun out ol oe => ?_
  · have hb2 : b.2 ∈ ps := by rw [← z2]; exact List.mem_map_of_mem hb
    have := hdp b.2 hb2
    omega
  · obtain ⟨ep, he'⟩ := PyProof.Rows.sortedAll_at s.heap its out.toArray
    have lz : (((xs.zip ps).mergeSort (PySem.W.dataLe false (·.2))).map (·.1)).length ≤ sizeLine := by
      rw [List.length_map, List.length_mergeSort, hlen]
      exact hz
    exact ⟨.ref _, _, I.laid (t' := s.toks) (o := .lst (((xs.zip ps).mergeSort (PySem.W.dataLe false (·.2))).map (·.1))) (fun _ _ => PyProof.Rows.sortedAll_old) (Nat.le_succ _) ⟨lz, out, ep, e3 oe, he'⟩, rfl, q _ (I.hok.fresh (Nat.le_succ _))⟩
theorem toPs_map {S : Sto} : ∀ {ds : List D} {ps : List PyData}, toPs S ds = some ps → ds.map (fun d => (toP S d).getD .none) = ps
  | [], _, h => by cases h; rfl
  | d :: ds, ps, h => by
    have h : (match toPW (refP S 8) d, toPsW (refP S 8) ds with
      | some p, some ps => some (p :: ps)
      | _, _ => none) = some ps := h
    cases e1 : toPW (refP S 8) d with
    | none => rw [e1] at h; cases h
    | some p1 =>
      cases e2 : toPsW (refP S 8) ds with
      | none => rw [e1, e2] at h; cases h
      | some qs =>
        rw [e1, e2] at h
        cases h
        rw [List.map_cons, toPs_map (ds := ds) e2]
        show (toPW (refP S 8) d).getD .none :: qs = _
        rw [e1]
        rfl
theorem sort_rp {K : Fg} {μ : List Addr} {H : Hp} {S : Sto} {ds : List D} {vs : List V} {ps : List PyData} (r : RpA K μ H ds vs) (h : toPs S ds = some ps) :
    RpA K μ H (ds.mergeSort (PySem.W.dataLe false fun d => (toP S d).getD .none)) (((vs.zip ps).mergeSort (PySem.W.dataLe false (·.2))).map (·.1)) := by
  have hm := toPs_map h
  -- the pairs of a datum and its value
  have hz : ∀ {ds : List D} {vs : List V}, RpA K μ H ds vs → (ds.zip vs).map (·.1) = ds ∧ (ds.zip vs).map (·.2) = vs ∧ ∀ t ∈ ds.zip vs, Rp K μ H t.1 t.2 := by
    intro ds
    induction ds with
    | nil => intro vs r; rw [show vs = [] from r]; exact ⟨rfl, rfl, fun _ h => nomatch h⟩
    | cons d ds ih =>
      intro vs r
      obtain ⟨v, r', e, h1, h2⟩ := r
      subst e
      obtain ⟨i1, i2, i3⟩ := ih h2
      rw [List.zip_cons_cons, List.map_cons, List.map_cons, i1, i2]
      refine ⟨rfl, rfl, fun t ht => ?_⟩
      rcases List.mem_cons.mp ht with rfl | ht
      · exact h1
      · exact i3 t ht
  obtain ⟨z1, z2, z3⟩ := hz r
  have build : ∀ ts : List (D × V), (∀ t ∈ ts, Rp K μ H t.1 t.2) → RpA K μ H (ts.map (·.1)) (ts.map (·.2)) := by
    intro ts
    induction ts with
    | nil => intro _; exact rfl
    | cons t ts ih => intro h; exact .cons (h t List.mem_cons_self) (ih fun u hu => h u (List.mem_cons_of_mem _ hu))
  have l1 : ds.mergeSort (PySem.W.dataLe false fun d => (toP S d).getD .none) = ((ds.zip vs).mergeSort (PySem.W.dataLe false fun t : D × V => (toP S t.1).getD .none)).map (·.1) := by
    have q := List.map_mergeSort (r := PySem.W.dataLe false fun t : D × V => (toP S t.1).getD .none) (s := PySem.W.dataLe false fun d : D => (toP S d).getD .none) (f := fun t : D × V => t.1) (l := ds.zip vs) (fun a _ b _ => rfl)
    rw [z1] at q
    exact q.symm
  have l2 : (vs.zip ps) = (ds.zip vs).map fun t => (t.2, (toP S t.1).getD .none) := by
    rw [← hm]
    clear hm h z1 z2 z3 l1
    induction ds generalizing vs with
    | nil => rw [show vs = [] from r]; rfl
    | cons d ds ih =>
      obtain ⟨v, r', e, h1, h2⟩ := r
      subst e
      rw [List.map_cons, List.zip_cons_cons, List.zip_cons_cons, List.map_cons, ih h2]
  have l3 : (vs.zip ps).mergeSort (PySem.W.dataLe false (·.2)) = ((ds.zip vs).mergeSort (PySem.W.dataLe false fun t : D × V => (toP S t.1).getD .none)).map fun t => (t.2, (toP S t.1).getD .none) := by
    have q := List.map_mergeSort (r := PySem.W.dataLe false fun t : D × V => (toP S t.1).getD .none) (s := PySem.W.dataLe false fun t : V × PyData => t.2) (f := fun t : D × V => (t.2, (toP S t.1).getD .none)) (l := ds.zip vs) (fun a _ b _ => rfl)
    rw [l2]
    exact q.symm
  rw [l1, l3, List.map_map]
  exact build _ fun t ht => z3 t (List.mem_mergeSort.mp ht)
/-- sorted(d), d a dict whose keys are texts -/
def rSortK (K : Fg) : List V → Hp → VK → Prop := fun vs H Q => ∃ (a : Addr) (kvs : List (Key × V)) (ks : List Str), vs = [V.ref a] ∧ Rd H a (.dK kvs) ∧ kvs.map (·.1) = ks.map Sum.inr ∧
  ∀ l, H l = none → Q (.ref l) (upd H l (.lst ((ks.mergeSort (PySem.W.dataLe false PyData.str)).map V.str)))
theorem strs_each {h : Heap} {a : Addr} : ∀ {us : List Value} {ks : List Str}, StrsAre us ks → PySem.W.EachIs (fun (u : Value) (b : Str) => RelV (.str b) u) us ks ∧ PySem.W.EachIs (fun (u : Value) (b : Str) => ∃ as, Reads h u (.str b) as ∧ a ∉ as) us ks := by
  intro us ks h
  induction h with
  | nil => exact ⟨.nil, .nil⟩
  | cons y t _ ih => exact ⟨.cons ⟨_, rfl⟩ ih.1, .cons ⟨[], .str _ _, fun h => nomatch h⟩ ih.2⟩
theorem cr_sortK {X : Cx} (hcalm : X.calm = true) (hu : X.A.units + 70 < cLine) : CallR X (.builtin "sorted") (rSortK X.K) := by
  intro pins s σ H xs us Q I r q
  obtain ⟨a, kvs, ks, ex, hd, hks, q⟩ := q
  subst ex
  obtain ⟨u, eu, rx⟩ := vals1 r
  subst eu
  cases rx
  obtain ⟨z, lo, vs, rel, dd⟩ := dk_rd I.hok hd
  obtain ⟨ep, hat⟩ := dd.dictAt
  have hkeys : vs.map (·.1) = ks.map Sum.inr := rel.keys.symm.trans hks
  have hl : vs.length = ks.length := by
    have e := congrArg List.length hkeys
    rw [List.length_map, List.length_map] at e
    exact e
  have h16 : vs.length ≤ sizeLine := by rw [← rel.length]; exact z
  refine Calls.call_function_entry PyProof.Rows.kind_sorted PyProof.Rows.plain_sorted PyProof.Rows.entry_sorted (PyProof.Rows.args_sorted1 _) ?_
  unfold Builtin.«sorted»
  refine wpAny_bind (m := checkCount "sorted" 1 1 _) (wpAny_pure ?_)
  refine wpAny_bind (PySem.W.kdu_collect (A := X.A.in1) (PySem.W.kdl_dict (knd := mixKind X.prog X.w) (kvs := vs) (ep := ep) lo) (I.ok.hd hcalm) hat h16 fun h' tk acc hk hacc => ?_)
  have hal : acc.toList.length = ks.length := by rw [Array.length_toList, hacc.1, hl]
  have hS : StrsAre acc.toList ks := strs_at hal fun j v e => by
    obtain ⟨k, x, e1, e2⟩ := hacc.2 j v (by rw [← Array.getElem?_toList]; exact e)
    have e3 : (vs.map (·.1))[j]? = some k := by rw [List.getElem?_map, e1]; all_goals rfl
    rw [hkeys, List.getElem?_map] at e3
    cases e4 : ks[j]? with
    | none => rw [e4] at e3; cases e3
    | some y =>
      rw [e4] at e3
      have e5 : Sum.inr y = k := Option.some.inj e3
      subst e5
      obtain ⟨t, ev⟩ := Value.isStrOf_shape (x := y) (v := v) e2
      exact ⟨y, t, rfl, ev⟩
  have I1 : Inv X pins σ H { s with heap := h', toks := tk } := I.kept hk
  refine wpAny_bind (wpAny_newList ?_ (by rw [hal, ← hl]; exact h16))
  have hoL : (h'.push (seqObj "list" acc.toList.toArray 0)).get? h'.objs.size = some (seqObj "list" acc.toList.toArray 0) := Heap.get?_push_size _ rfl
  show wpAny _ _ _ _ _ { s with heap := h'.push (seqObj "list" acc.toList.toArray 0), toks := tk }
  obtain ⟨w1, w2⟩ := strs_each (h := h'.push (seqObj "list" acc.toList.toArray 0)) hS
  refine wpAny_bind (wpAny_holding (PySem.W.list_sort_data (s := { s with heap := h'.push (seqObj "list" acc.toList.toArray 0), toks := tk }) (enc := PyData.str) hoL w1 w2 (.of fun _ _ => by simp [PySem.W.alike]) (.others fun b => ⟨fun h => PyData.noConfusion h, fun _ h => PyData.noConfusion h⟩) (by rw [← hl]; exact h16) (fun b hb => ?_) fun out ol oe => ?_))
  · show X.A.units + 2 + (PyData.str b).depth < cLine
    have : (PyData.str b).depth ≤ 64 := by simp [PyData.depth]
    omega
  · obtain ⟨e', he'⟩ := PyProof.Rows.sortedHeap_at (vs := acc.toList) (out := out.toArray) hoL
    have hlen : ((ks.mergeSort (PySem.W.dataLe false PyData.str)).map V.str).length ≤ sizeLine := by
      rw [List.length_map, List.length_mergeSort, ← hl]
      exact h16
    have hv : ∀ {out : List Value} {bs : List Str}, PySem.W.EachIs (fun (u : Value) (b : Str) => RelV (.str b) u) out bs → Vals (bs.map V.str) out := by
      intro out bs h
      induction h with
      | nil => exact .nil
      | cons h _ ih => exact .cons h ih
    refine wpAny_pure ⟨_, rfl, .ref h'.objs.size, upd H h'.objs.size (.lst ((ks.mergeSort (PySem.W.dataLe false PyData.str)).map V.str)), I1.laid (t' := tk) (fun b u e => ?_) (Nat.le_refl _)
      (show ObjOk X.prog X.w _ _ _ (.lst ((ks.mergeSort (PySem.W.dataLe false PyData.str)).map V.str)) from ⟨hlen, out, e', hv oe, he'⟩), rfl, q _ (I1.hok.fresh (Nat.le_refl _))⟩
    have hb : b < h'.objs.size := Heap.lt_size e
    rw [PyProof.Rows.sortedHeap_old (Nat.ne_of_lt hb) (by rw [size_push']; exact Nat.lt_succ_of_lt hb)]
    exact Heap.get?_push_of_some _ e
theorem cr_sorted {X : Cx} (hcalm : X.calm = true) (hu : X.A.units + 70 < cLine) : CallR X (.builtin "sorted") (fun vs H Q => rSortD X.K vs H Q ∨ rSortK X.K vs H Q) := by
  intro pins s σ H xs us Q I r q
  rcases q with q | q
  · exact cr_sortD hu _ _ _ _ _ _ _ I r q
  · exact cr_sortK hcalm hu _ _ _ _ _ _ _ I r q
theorem strKeys_map : ∀ {kvs : List (Key × D)} {ds : List D}, strKeys kvs = some ds → ∃ ks : List Str, kvs.map (·.1) = ks.map Sum.inr ∧ ds = ks.map D.str
  | [], _, h => by cases h; exact ⟨[], rfl, rfl⟩
  | (.inr x, d) :: r, ds, h => by
    have h : (strKeys r).map (D.str x :: ·) = some ds := h
    cases e : strKeys r with
    | none => rw [e] at h; cases h
    | some es =>
      rw [e] at h
      cases h
      obtain ⟨ks, h1, h2⟩ := strKeys_map e
      exact ⟨x :: ks, by rw [List.map_cons, List.map_cons, h1], by rw [List.map_cons, h2]⟩
  | (.inl _, _) :: _, _, h => nomatch h
theorem toPs_strs {S : Sto} : ∀ (ks : List Str), toPs S (ks.map D.str) = some (ks.map PyData.str)
  | [] => rfl
  | k :: ks => by
    show (match toPW (refP S 8) (D.str k), toPsW (refP S 8) (ks.map D.str) with
      | some p, some ps => some (p :: ps)
      | _, _ => none) = _
    have := toPs_strs (S := S) ks
    unfold toPs at this
    rw [this]
    rfl
theorem RpA.strs {K : Fg} {μ : List Addr} {H : Hp} : ∀ ks : List Str, RpA K μ H (ks.map D.str) (ks.map V.str)
  | [] => rfl
  | _ :: ks => .cons rfl (RpA.strs ks)
theorem RpK.keysD {K : Fg} {μ : List Addr} {H : Hp} : ∀ {kvs : List (Key × D)} {vs : List (Key × V)}, RpK K μ H kvs vs → vs.map (·.1) = kvs.map (·.1)
  | [], _, h => by rw [show _ = [] from h]; rfl
  | _ :: _, _, ⟨_, _, h1, _, h3⟩ => by rw [h1, List.map_cons, List.map_cons, RpK.keysD h3]
theorem sq_sorted (hb : ("sorted" : Str) ∈ p.B) (hg : p.sc.names.lookup ("sorted" : Str) = some .globalImplicit) (hst : notStar e = true) (ha : SdR p e cr) : SdQ p (.Call (.Name "sorted" q) [e] [] pos) (.sorted cr) := fun X C g =>
  (pe_callB (cr_sorted g.calm (by have := g.un; omega)) (gl_of g hg) (g.blt _ hb) (by decide +kernel) (pa_cons (ha X C g) pa_nil (star_cons hst [] _)) (by decide) (by decide) (star_cons hst [] _) rfl).pq fun σ H Q ⟨μ, ρ, S, he, hs, h⟩ => by
    unfold evQ at h
    refine ⟨μ, ρ, S, he, hs, h.bind.imp fun x S1 μ1 H1 _ e1 s1 h1 v rv => ?_⟩
    obtain ⟨ds, eds, h1⟩ := h1.may
    unfold soOf at eds
    cases el : lsOf S1 x with
    | some ds0 =>
      rw [el] at eds
      cases eds
      obtain ⟨a, vs, rfl, h2, h3, h4⟩ := ls_rv s1 rv el
      unfold sortD at h1
      cases ep : toPs S1 ds with
      | none => rw [ep] at h1; exact h1.elim
      | some ps =>
        rw [ep] at h1
        obtain ⟨⟨z1, z2, z3⟩, h1⟩ := Po.ask h1
        refine .inl ⟨a, vs, ps, rfl, h2, toPs_dp s1 h3 ep, z1, z2, z3, by rw [← h3.length]; exact h4, fun l hl => ?_⟩
        have hr := sort_rp h3 ep
        obtain ⟨n1, n2⟩ := own_new s1 hr hl
        exact h1 μ1 _ (s1.fresh hl _) (s1.freshOk hl _) l _ (e1.alive _ hl) upd_same n1 n2 (by rw [List.length_mergeSort]; exact h4)
    | none =>
      rw [el] at eds
      cases ed : dicOf S1 x with
      | none => rw [ed] at eds; cases eds
      | some kvs =>
        rw [ed] at eds
        obtain ⟨ks, k1, rfl⟩ := strKeys_map eds
        obtain ⟨a, vs, rfl, h2, h3, h4, _⟩ := dic_rv s1 rv ed
        unfold sortD at h1
        rw [toPs_strs] at h1
        obtain ⟨⟨z1, z2, z3⟩, h1⟩ := Po.ask h1
        refine .inr ⟨a, vs, ks, rfl, h2, h3.keysD.trans k1, fun l hl => ?_⟩
        have e1' : (ks.map D.str).mergeSort (PySem.W.dataLe false fun d => (toP S1 d).getD .none) = (ks.mergeSort (PySem.W.dataLe false PyData.str)).map D.str :=
          (List.map_mergeSort (r := PySem.W.dataLe false PyData.str) (s := PySem.W.dataLe false fun d : D => (toP S1 d).getD .none) (f := D.str) (l := ks) (fun a _ b _ => rfl)).symm
        rw [e1'] at h1
        have hr : RpA X.K μ1 H1 ((ks.mergeSort (PySem.W.dataLe false PyData.str)).map D.str) ((ks.mergeSort (PySem.W.dataLe false PyData.str)).map V.str) := RpA.strs _
        obtain ⟨n1, n2⟩ := own_new s1 hr hl
        have hlen : kvs.length = ks.length := by
          have := congrArg List.length k1
          rw [List.length_map, List.length_map] at this
          exact this
        exact h1 μ1 _ (s1.fresh hl _) (s1.freshOk hl _) l _ (e1.alive _ hl) upd_same n1 n2 (by rw [List.length_map, List.length_mergeSort, ← hlen]; exact h4)

/-! ### list(range(..)) -/
theorem rgD_rp {K : Fg} {μ : List Addr} {H : Hp} (i j : Int) : RpA K μ H (rgD i j) (rgV i j) := by
  unfold rgD rgV
  generalize (List.range (j - i).toNat) = l
  induction l with
  | nil => exact rfl
  | cons k l ih => exact .cons rfl ih
theorem rgD_len (i j : Int) : (rgD i j).length = (j - i).toNat := by unfold rgD; rw [List.length_map, List.length_range]
theorem sq_listRg1 {q2 pos2 : Pos} (hb : ("list" : Str) ∈ p.B) (hg : p.sc.names.lookup ("list" : Str) = some .globalImplicit) (hb2 : ("range" : Str) ∈ p.B) (hg2 : p.sc.names.lookup ("range" : Str) = some .globalImplicit) (hst : notStar a = true) (ha : SdE p a ca) :
    SdQ p (.Call (.Name "list" q) [.Call (.Name "range" q2) [a] [] pos2] [] pos) (.listRg (.lit (.int 0)) ca) := fun X C g =>
  (pe_listRg g.calm (gl_of g hg) (g.blt _ hb) (prg_1 (gl_of g hg2) (g.blt _ hb2) (ha X C g) (star_cons hst [] _)) rfl).pq fun σ H Q ⟨μ, ρ, S, he, hs, h⟩ => by
    have h0 : evE C (.lit (.int 0)) ρ S = Res.ok (D.int 0) S := by rw [evE]
    unfold evQ at h
    rw [h0] at h
    refine ⟨μ, ρ, S, he, hs, Po.imp (Po.bind (r := evE C ca ρ S) h) fun y S1 μ1 H1 _ e1 s1 h1 v rv => ?_⟩
    cases y with
    | int j =>
      obtain ⟨z, h1⟩ := Po.ask (show Po X.K μ1 H1 (ask (RgOk 0 j) (Res.ok (rgD 0 j) S1)) _ from h1)
      refine ⟨j, rv, z, fun l hl => ?_⟩
      obtain ⟨n1, n2⟩ := own_new s1 (rgD_rp 0 j) hl
      exact h1 μ1 _ (s1.fresh hl _) (s1.freshOk hl _) l _ (e1.alive _ hl) upd_same n1 n2 (by rw [rgD_len, sizeLine_eq]; have := z.2.2.2.2; omega)
    | _ => exact (show False from h1).elim
theorem sq_listRg2 {q2 pos2 : Pos} (hb : ("list" : Str) ∈ p.B) (hg : p.sc.names.lookup ("list" : Str) = some .globalImplicit) (hb2 : ("range" : Str) ∈ p.B) (hg2 : p.sc.names.lookup ("range" : Str) = some .globalImplicit) (hst : notStar a = true) (hst2 : notStar b = true) (ha : SdE p a ca) (hb' : SdE p b cb) :
    SdQ p (.Call (.Name "list" q) [.Call (.Name "range" q2) [a, b] [] pos2] [] pos) (.listRg ca cb) := fun X C g =>
  (pe_listRg g.calm (gl_of g hg) (g.blt _ hb) (prg_2 (gl_of g hg2) (g.blt _ hb2) (ha X C g) (hb' X C g) (star_cons hst [b] _) (star_cons hst2 [] _) (star_any _ _ (show [b].all notStar = true by rw [List.all_cons, hst2]; rfl))) rfl).pq fun σ H Q ⟨μ, ρ, S, he, hs, h⟩ => by
    unfold evQ at h
    refine ⟨μ, ρ, S, he, hs, h.bind.imp fun x S1 μ1 H1 _ e1 s1 h1 v rv => ?_⟩
    refine ⟨μ1, ρ, S1, he.mono e1, s1, h1.bind.imp fun y S2 μ2 H2 _ e2 s2 h2 u ru => ?_⟩
    cases x with
    | int i =>
      cases y with
      | int j =>
        obtain ⟨z, h2⟩ := Po.ask (show Po X.K μ2 H2 (ask (RgOk i j) (Res.ok (rgD i j) S2)) _ from h2)
        refine ⟨i, j, rv, ru, z, fun l hl => ?_⟩
        obtain ⟨n1, n2⟩ := own_new s2 (rgD_rp i j) hl
        exact h2 μ2 _ (s2.fresh hl _) (s2.freshOk hl _) l _ (e1.alive _ (e2.alive _ hl)) upd_same n1 n2 (by rw [rgD_len, sizeLine_eq]; have := z.2.2.2.2; omega)
      | _ => exact (show False from h2).elim
    | _ => exact (show False from h2).elim
end

/-! ### what is walked -/
/-- the walk of t's items, as long as nothing of the walked list is changed -/
def ItOk (K : Fg) (μ₀ : List Addr) (H₀ : Hp) (t : Itv) (J : It) : Prop := ∀ μ H S, Ext K μ₀ H₀ μ H → StOk K μ H S → t.still S → (∀ i, i < t.items.length → J.go i H ∧ ∀ x H', J.yld i H x H' → H' = H ∧ ∃ d, t.items[i]? = some d ∧ Rp K μ H d x) ∧ J.stop t.items.length H
def tI (K : Fg) (f : En → Sto → Res Itv) : TI := fun σ H R => ∃ μ ρ S, EnvOk K μ H ρ σ ∧ StOk K μ H S ∧ Po K μ H (f ρ S) fun t S' μ' H' => ∀ J, ItOk K μ' H' t J → R J H'
def SdI (p : Pl) (tg e : Expr) (c : CI) : Prop := ∀ X C, Good X p C → PI X tg e (tI X.K (evI C c))
/-- a list or a tuple, whichever comes -/
def iSeq (K : Fg) (tl : TE) : TI := fun σ H R => tl σ H fun x H1 => ∃ a, x = .ref a ∧ (((∃ xs, SqL K H1 a xs) ∧ R (Itl K a) H1) ∨ ((∃ xs, SqT K H1 a xs) ∧ R (Itt K a) H1))
/-- .. or a text -/
def iSeqS (K : Fg) (tl : TE) : TI := fun σ H R => tl σ H fun x H1 => (∃ a, x = .ref a ∧ (((∃ xs, SqL K H1 a xs) ∧ R (Itl K a) H1) ∨ ((∃ xs, SqT K H1 a xs) ∧ R (Itt K a) H1))) ∨ ∃ z, x = .str z ∧ R (Its z) H1
theorem pi_seqS {X : Cx} {tg l : Expr} {tl : TE} (hl : PE X l tl) : PI X tg l (iSeqS X.K tl) := by
  refine ⟨fun pins s σ H R I h => ?_⟩
  refine thn (hl.run pins s σ H _ I h) fun v s1 ⟨x, H1, I1, r1, q1⟩ => ?_
  rcases q1 with ⟨a, e, q⟩ | ⟨z, e, q⟩
  · subst e
    cases r1
    rcases q with ⟨⟨xs, hq⟩, q⟩ | ⟨⟨xs, hq⟩, q⟩
    · obtain ⟨its, rv, p, hz⟩ := I1.list hq
      refine wpAny_pyIter_list p.isList ?_
      refine ⟨s1.heap.objs.size, [s1.heap.objs.size], _, _, H1, rfl, I1.kept (t' := s1.toks) fun b o e => Heap.get?_push_of_some _ e, turn_list a _, ⟨_, Heap.get?_push_size _ rfl, rfl, rfl⟩, fun b hb => ?_, q⟩
      have e : b = s1.heap.objs.size := by simpa using hb
      subst e
      exact I1.fpOk (Nat.le_refl _) (I1.hok.fresh (Nat.le_refl _))
    · obtain ⟨its, rv, p, hz⟩ := I1.tuple hq
      refine wpAny_pyIter_tuple (show s1.heap.IsTuple a its.toArray from p) ?_
      refine ⟨s1.heap.objs.size, [s1.heap.objs.size], _, _, H1, rfl, I1.kept (t' := s1.toks) fun b o e => Heap.get?_push_of_some _ e, turn_tuple a _, ⟨_, Heap.get?_push_size _ rfl, rfl, rfl⟩, fun b hb => ?_, q⟩
      have e : b = s1.heap.objs.size := by simpa using hb
      subst e
      exact I1.fpOk (Nat.le_refl _) (I1.hok.fresh (Nat.le_refl _))
  · subst e
    obtain ⟨t, rfl⟩ := r1
    cases ha : z.cps.all (· < 128)
    · exact wpAny_pyIter_wide ha (pi_one (tk := s1.toks) I1 _ (turn_str _ z t "str_iterator" (.inr rfl)) ⟨_, Heap.get?_push_size _ rfl, rfl, rfl⟩ q)
    · exact wpAny_pyIter_ascii ha (pi_one (tk := s1.toks) I1 _ (turn_str _ z t "str_ascii_iterator" (.inl rfl)) ⟨_, Heap.get?_push_size _ rfl, rfl, rfl⟩ q)
theorem its_ok {K : Fg} {μ : List Addr} {H : Hp} {z : Str} : (∀ i, i < (lettersD z).length → (Its z).go i H ∧ ∀ x H', (Its z).yld i H x H' → H' = H ∧ ∃ d, (lettersD z)[i]? = some d ∧ Rp K μ H d x) ∧ (Its z).stop (lettersD z).length H := by
  have hl : (lettersD z).length = z.cps.size := by
    unfold lettersD
    rw [List.length_map, Array.length_toList]
  refine ⟨fun i hi => ⟨by show i < z.cps.size; omega, fun x H' y => ?_⟩, by show z.cps.size ≤ _; omega⟩
  obtain ⟨e, c, ec, rfl⟩ := y
  refine ⟨e, .str ⟨#[c]⟩, ?_, rfl⟩
  unfold lettersD
  rw [List.getElem?_map, Array.getElem?_toList, ec]
  rfl
theorem pi_seq {X : Cx} {tg l : Expr} {tl : TE} (hl : PE X l tl) : PI X tg l (iSeq X.K tl) := by
  refine ⟨fun pins s σ H R I h => ?_⟩
  refine thn (hl.run pins s σ H _ I h) fun v s1 ⟨x, H1, I1, r1, q1⟩ => ?_
  obtain ⟨a, e, q⟩ := q1
  subst e
  cases r1
  rcases q with ⟨⟨xs, hq⟩, q⟩ | ⟨⟨xs, hq⟩, q⟩
  · obtain ⟨its, rv, p, hz⟩ := I1.list hq
    refine wpAny_pyIter_list p.isList ?_
    refine ⟨s1.heap.objs.size, [s1.heap.objs.size], _, _, H1, rfl, I1.kept (t' := s1.toks) fun b o e => Heap.get?_push_of_some _ e, turn_list a _, ⟨_, Heap.get?_push_size _ rfl, rfl, rfl⟩, fun b hb => ?_, q⟩
    have e : b = s1.heap.objs.size := by simpa using hb
    subst e
    exact I1.fpOk (Nat.le_refl _) (I1.hok.fresh (Nat.le_refl _))
  · obtain ⟨its, rv, p, hz⟩ := I1.tuple hq
    refine wpAny_pyIter_tuple (show s1.heap.IsTuple a its.toArray from p) ?_
    refine ⟨s1.heap.objs.size, [s1.heap.objs.size], _, _, H1, rfl, I1.kept (t' := s1.toks) fun b o e => Heap.get?_push_of_some _ e, turn_tuple a _, ⟨_, Heap.get?_push_size _ rfl, rfl, rfl⟩, fun b hb => ?_, q⟩
    have e : b = s1.heap.objs.size := by simpa using hb
    subst e
    exact I1.fpOk (Nat.le_refl _) (I1.hok.fresh (Nat.le_refl _))
theorem Ext.own {K : Fg} {μ μ' : List Addr} {H H' : Hp} (e : Ext K μ H μ' H') {a : Addr} {vs : List V} (h : H a = some (.lst vs)) (n : a ∉ μ) : SqL K H' a vs := .of (e.fr a _ h n)
section
variable {p : Pl} {a b e tg : Expr} {ca cb : CE} {cr : CR} {pos q : Pos}
theorem itl_ok {K : Fg} {μ : List Addr} {H : Hp} {a : Addr} {vs : List V} {ds : List D} (h : SqL K H a vs) (r : RpA K μ H ds vs) : (∀ i, i < ds.length → (Itl K a).go i H ∧ ∀ x H', (Itl K a).yld i H x H' → H' = H ∧ ∃ d, ds[i]? = some d ∧ Rp K μ H d x) ∧ (Itl K a).stop ds.length H := by
  have hl := r.length
  refine ⟨fun i hi => ⟨⟨vs, vs[i], h, List.getElem?_eq_getElem (by omega)⟩, fun x H' y => ⟨y.1, r.getV (y.2 vs h)⟩⟩, vs, h, by omega⟩
theorem itt_ok {K : Fg} {μ : List Addr} {H : Hp} {a : Addr} {vs : List V} {ds : List D} (h : SqT K H a vs) (r : RpA K μ H ds vs) : (∀ i, i < ds.length → (Itt K a).go i H ∧ ∀ x H', (Itt K a).yld i H x H' → H' = H ∧ ∃ d, ds[i]? = some d ∧ Rp K μ H d x) ∧ (Itt K a).stop ds.length H := by
  have hl := r.length
  refine ⟨fun i hi => ⟨⟨vs, vs[i], h, List.getElem?_eq_getElem (by omega)⟩, fun x H' y => ⟨y.1, r.getV (y.2 vs h)⟩⟩, vs, h, by omega⟩
theorem si_r (ha : SdR p e cr) : SdI p tg e (.r cr) := fun X C g => by
  refine ⟨fun pins s σ H R I h => (pi_seqS (ha X C g)).run pins s σ H R I ?_⟩
  obtain ⟨μ, ρ, S, he, hs, h⟩ := h
  unfold evI at h
  refine ⟨μ, ρ, S, he, hs, h.bind.imp fun r S1 μ1 H1 _ e1 s1 h1 v rv => ?_⟩
  obtain ⟨t, et, h1⟩ := h1.may
  have h1 := h1.at s1
  cases r with
  | own ds =>
    cases et
    obtain ⟨a, vs, rfl, k1, k2, k3, _⟩ := rv
    exact .inl ⟨a, rfl, .inl ⟨⟨vs, .of k1⟩, h1 _ fun μ H S x _ _ => itl_ok (x.own k1 k2) (k3.mono x)⟩⟩
  | val d =>
    cases d with
    | str z =>
      cases et
      exact .inr ⟨z, rv, h1 _ fun μ H S x _ _ => its_ok⟩
    | tup ds =>
      cases et
      obtain ⟨a, vs, rfl, k1, k2, _⟩ := rv
      exact .inl ⟨a, rfl, .inr ⟨⟨vs, k1.sq⟩, h1 _ fun μ H S x _ _ => itt_ok (x.tup _ _ k1).sq (k2.mono x)⟩⟩
    | fix ds =>
      cases et
      obtain ⟨a, vs, rfl, k1, k2, _⟩ := rv
      exact .inl ⟨a, rfl, .inl ⟨⟨vs, k1.sq⟩, h1 _ fun μ H S x _ _ => itl_ok (x.fix _ _ k1).sq (k2.mono x)⟩⟩
    | ref i =>
      have et : (sqOf S1 (.val (.ref i))).map (fun ds => (⟨ds, some i⟩ : Itv)) = some t := et
      cases es : sqOf S1 (.val (.ref i)) with
      | none => rw [es] at et; cases et
      | some ds =>
        rw [es] at et
        cases et
        obtain ⟨a, rfl, ea⟩ := rv
        obtain ⟨a', vs, e', k1, k2, _⟩ := sq_rv (r := .val (.ref i)) s1 ⟨a, rfl, ea⟩ es
        cases e'
        have k1 : SqL X.K H1 a vs := k1.elim id fun z => by cases z.2
        refine .inl ⟨a, rfl, .inl ⟨⟨vs, k1⟩, h1 _ fun μ H S x st sl => ?_⟩⟩
        obtain ⟨us, u1, u2, _⟩ := st.lst (show S[i]? = some (.lst ds) from sl) (x.get ea)
        exact itl_ok (SqL.of u1) u2
    | _ => cases et
theorem itr_ok {K : Fg} {μ : List Addr} {H : Hp} (i j : Int) : (∀ k, k < (rgD i j).length → (Itr i (j - i).toNat).go k H ∧ ∀ x H', (Itr i (j - i).toNat).yld k H x H' → H' = H ∧ ∃ d, (rgD i j)[k]? = some d ∧ Rp K μ H d x) ∧ (Itr i (j - i).toNat).stop (rgD i j).length H := by
  rw [rgD_len]
  refine ⟨fun k hk => ⟨hk, fun x H' y => ⟨y.1, .int (i + (k : Nat)), ?_, y.2⟩⟩, Nat.le_refl _⟩
  unfold rgD
  rw [List.getElem?_map, List.getElem?_range hk]
  rfl
theorem si_rg1 {pos2 : Pos} (hb : ("range" : Str) ∈ p.B) (hg : p.sc.names.lookup ("range" : Str) = some .globalImplicit) (hst : notStar a = true) (ha : SdE p a ca) : SdI p tg (.Call (.Name "range" q) [a] [] pos) (.rg (.lit (.int 0)) ca) := fun X C g => by
  refine ⟨fun pins s σ H R I h => (pi_range1 (gl_of g hg) (g.blt _ hb) (pa_cons (ha X C g) pa_nil (star_cons hst [] _)) (star_cons hst [] _)).run pins s σ H R I ?_⟩
  obtain ⟨μ, ρ, S, he, hs, h⟩ := h
  have h0 : evE C (.lit (.int 0)) ρ S = Res.ok (D.int 0) S := by rw [evE]
  unfold evI at h
  rw [h0] at h
  refine ⟨μ, ρ, S, he, hs, Po.imp (Po.bind (r := evE C ca ρ S) h) fun y S1 μ1 H1 _ e1 s1 h1 v rv => ?_⟩
  cases y with
  | int j =>
    obtain ⟨z, h1⟩ := Po.ask (show Po X.K μ1 H1 (ask (bd62 0 ∧ bd62 j) (Res.ok (⟨rgD 0 j, none⟩ : Itv) S1)) _ from h1)
    refine ⟨j, by rw [show v = V.int j from rv], z.2.1, z.2.2, ?_⟩
    have k := h1.at s1 (Itr 0 (j - 0).toNat) fun μ H S _ _ _ => itr_ok 0 j
    rw [Int.sub_zero] at k
    exact k
  | _ => exact (show False from h1).elim
theorem si_rg2 {pos2 : Pos} (hb : ("range" : Str) ∈ p.B) (hg : p.sc.names.lookup ("range" : Str) = some .globalImplicit) (hst : notStar a = true) (hst2 : notStar b = true) (ha : SdE p a ca) (hb' : SdE p b cb) : SdI p tg (.Call (.Name "range" q) [a, b] [] pos) (.rg ca cb) := fun X C g => by
  refine ⟨fun pins s σ H R I h => (pi_range2 (gl_of g hg) (g.blt _ hb) (pa_cons (ha X C g) (pa_cons (hb' X C g) pa_nil (star_cons hst2 [] _)) (star_cons hst [b] _)) (by rw [star_cons hst, star_cons hst2]; rfl) (star_cons hst2 [] _)).run pins s σ H R I ?_⟩
  obtain ⟨μ, ρ, S, he, hs, h⟩ := h
  unfold evI at h
  refine ⟨μ, ρ, S, he, hs, h.bind.imp fun x S1 μ1 H1 _ e1 s1 h1 v rv => ?_⟩
  refine ⟨μ1, ρ, S1, he.mono e1, s1, h1.bind.imp fun y S2 μ2 H2 _ e2 s2 h2 u ru => ?_⟩
  cases x with
  | int i =>
    cases y with
    | int j =>
      obtain ⟨z, h2⟩ := Po.ask (show Po X.K μ2 H2 (ask (bd62 i ∧ bd62 j) (Res.ok (⟨rgD i j, none⟩ : Itv) S2)) _ from h2)
      exact ⟨i, j, by rw [show v = V.int i from rv, show u = V.int j from ru], ⟨z.1.1, z.1.2, z.2.1, z.2.2⟩, h2.at s2 _ fun μ H S _ _ _ => itr_ok i j⟩
    | _ => exact (show False from h2).elim
  | _ => exact (show False from h2).elim
theorem rgdD_len (i j : Int) : (rgdD i j).length = (i - j).toNat := by
  unfold rgdD
  rw [List.length_map, List.length_range]
theorem itrd_ok {K : Fg} {μ : List Addr} {H : Hp} (i j : Int) : (∀ k, k < (rgdD i j).length → (Itc i (-1) (i - j).toNat).go k H ∧ ∀ x H', (Itc i (-1) (i - j).toNat).yld k H x H' → H' = H ∧ ∃ d, (rgdD i j)[k]? = some d ∧ Rp K μ H d x) ∧ (Itc i (-1) (i - j).toNat).stop (rgdD i j).length H := by
  rw [rgdD_len]
  refine ⟨fun k hk => ⟨hk, fun x H' y => ⟨y.1, .int (i - (k : Nat)), ?_, ?_⟩⟩, Nat.le_refl _⟩
  · unfold rgdD
    rw [List.getElem?_map, List.getElem?_range hk]
    rfl
  · show x = V.int (i - (k : Nat))
    rw [y.2]
    congr 1
    omega
theorem si_rgd {pos2 p1 p2 : Pos} {k : Nat} (hb : ("range" : Str) ∈ p.B) (hg : p.sc.names.lookup ("range" : Str) = some .globalImplicit) (hst : notStar a = true) (hst2 : notStar b = true) (ha : SdE p a ca) (hb' : SdE p b cb) : SdI p tg (.Call (.Name "range" q) [a, b, .UnaryOp .USub (.Constant (.int 1) k p1) p2] [] pos) (.rgd ca cb) := fun X C g => by
  refine ⟨fun pins s σ H R I h => (pi_range3 (gl_of g hg) (g.blt _ hb) (pa_cons (ha X C g) (pa_cons (hb' X C g) (pa_cons (pe_un un_neg (pe_int (i := 1))) pa_nil rfl) (star_cons hst2 _ _)) (star_cons hst _ _)) (star_cons hst _ _) (by rw [star_cons hst2]; rfl)).run pins s σ H R I ?_⟩
  obtain ⟨μ, ρ, S, he, hs, h⟩ := h
  unfold evI at h
  refine ⟨μ, ρ, S, he, hs, h.bind.imp fun x S1 μ1 H1 _ e1 s1 h1 v rv => ?_⟩
  refine ⟨μ1, ρ, S1, he.mono e1, s1, h1.bind.imp fun y S2 μ2 H2 _ e2 s2 h2 u ru => ?_⟩
  cases x with
  | int i =>
    cases y with
    | int j =>
      obtain ⟨z, h2⟩ := Po.ask (show Po X.K μ2 H2 (ask (bd62 i ∧ bd62 j) (Res.ok (⟨rgdD i j, none⟩ : Itv) S2)) _ from h2)
      exact ⟨1, rfl, i, j, -1, (i - j).toNat, by rw [show v = V.int i from rv, show u = V.int j from ru], .neg z.1.1 z.1.2 z.2.1 z.2.2, h2.at s2 _ fun μ H S _ _ _ => itrd_ok i j⟩
    | _ => exact (show False from h2).elim
  | _ => exact (show False from h2).elim
/-- tuple(range(..)), its object known to have no dict -/
def tTRg (tr : Slots → Hp → (Int → Int → Hp → Prop) → Prop) : TE := fun σ H Q => tr σ H fun i j H1 => RgOk i j ∧ NwT H1 Q (rgV i j)
theorem pe_tRg {X : Cx} {q pos : Pos} {rg : Expr} {tr : Slots → Hp → (Int → Int → Hp → Prop) → Prop} (cm : X.calm = true) (g1 : Gl X "tuple") (g2 : X.mg "tuple" = none) (hr : PRg X rg tr)
    (st : starEach [rg] X.env = (false, eval rg X.env) :: starEach [] X.env) : PE X (.Call (.Name "tuple" q) [rg] [] pos) (tTRg tr) := by
  constructor
  intro pins s σ H Q I h
  refine Call_ (ld_blt I g1 g2 boot_tuple ?_)
  refine PyProof.Rows.callWith_type1 (args_cons (thn (hr pins s σ H _ I h) ?_) st) st
  rintro x s1 ⟨r, i, j, t, u, v, H1, rfl, isr, J, ⟨⟨b1, b2, b3, b4, b5⟩, q⟩⟩
  refine args_nil (call_tuple_range (n := (j - i).toNat) (J.ok.hd cm) isr (small_one b1 b2 b3 b4) (rangeSize_nat i j) b5 fun hp tk acc keep items => ?_)
  have J2 : Inv X pins σ H1 { s1 with heap := hp, toks := tk } := J.kept keep
  have got := Heap.get?_push_size (h := hp) (o := ({ cls := .type "tuple", data := .seq acc } : Obj)) rfl
  have sz : (rgV i j).length ≤ sizeLine := by rw [rgV_length, sizeLine_eq]; omega
  refine ⟨.ref hp.objs.size, _, J2.laid (t' := tk) (o := .frz { cls := .type "tuple", data := .seq acc } (.tup (rgV i j))) (fun c o e => Heap.get?_push_of_some _ e) (Nat.le_refl _) ?_, rfl, q _ _ (J2.hok.fresh (Nat.le_refl _)) rfl rfl⟩
  exact ⟨got, sz, acc.toList, vals_rg items, by rw [Array.toArray_toList]; exact ⟨_, got, rfl, _, rfl⟩⟩
theorem own_tup {K : Fg} {μ : List Addr} {H : Hp} {S : Sto} {Q : VK} {i j : Int} (hs : StOk K μ H S) (z : RgOk i j) (h : Po K μ H (aggD .tuple (.own (rgD i j)) S) fun d _ μ' H' => ∀ v, Rp K μ' H' d v → Q v H') : NwT H Q (rgV i j) := fun l o hl c1 c2 => by
  have h : Po K μ H (Res.ok (D.tup (rgD i j)) S) _ := h
  have hz : (rgD i j).length ≤ sizeLine := by rw [rgD_len, sizeLine_eq]; have := z.2.2.2.2; omega
  exact h μ _ (hs.fresh hl _) (hs.freshOk hl _) _ (rp_tup hs hz (rgD_rp i j) hl c1 c2)
theorem sd_tupRg1 {q2 pos2 : Pos} (hb : ("tuple" : Str) ∈ p.B) (hg : p.sc.names.lookup ("tuple" : Str) = some .globalImplicit) (hb2 : ("range" : Str) ∈ p.B) (hg2 : p.sc.names.lookup ("range" : Str) = some .globalImplicit) (hst : notStar a = true) (ha : SdE p a ca) :
    SdE p (.Call (.Name "tuple" q) [.Call (.Name "range" q2) [a] [] pos2] [] pos) (.agg .tuple (.q (.listRg (.lit (.int 0)) ca))) := fun X C g =>
  (pe_tRg g.calm (gl_of g hg) (g.blt _ hb) (prg_1 (gl_of g hg2) (g.blt _ hb2) (ha X C g) (star_cons hst [] _)) rfl).pq fun σ H Q ⟨μ, ρ, S, he, hs, h⟩ => by
    have h0 : evE C (.lit (.int 0)) ρ S = Res.ok (D.int 0) S := by rw [evE]
    unfold evE at h
    unfold evR at h
    unfold evQ at h
    rw [h0] at h
    have h := Po.bind (Po.bind h)
    refine ⟨μ, ρ, S, he, hs, Po.imp (Po.bind (r := evE C ca ρ S) h) fun y S1 μ1 H1 _ e1 s1 h1 v rv => ?_⟩
    cases y with
    | int j =>
      obtain ⟨z, h1⟩ := Po.ask (show Po X.K μ1 H1 (ask (RgOk 0 j) (Res.ok (rgD 0 j) S1)) _ from h1)
      exact ⟨j, rv, z, own_tup s1 z (Po.at (Po.at h1 s1) s1)⟩
    | _ => exact (show False from h1).elim
theorem sd_tupRg2 {q2 pos2 : Pos} (hb : ("tuple" : Str) ∈ p.B) (hg : p.sc.names.lookup ("tuple" : Str) = some .globalImplicit) (hb2 : ("range" : Str) ∈ p.B) (hg2 : p.sc.names.lookup ("range" : Str) = some .globalImplicit) (hst : notStar a = true) (hst2 : notStar b = true) (ha : SdE p a ca) (hb' : SdE p b cb) :
    SdE p (.Call (.Name "tuple" q) [.Call (.Name "range" q2) [a, b] [] pos2] [] pos) (.agg .tuple (.q (.listRg ca cb))) := fun X C g =>
  (pe_tRg g.calm (gl_of g hg) (g.blt _ hb) (prg_2 (gl_of g hg2) (g.blt _ hb2) (ha X C g) (hb' X C g) (star_cons hst [b] _) (star_cons hst2 [] _) (star_any _ _ (show [b].all notStar = true by rw [List.all_cons, hst2]; rfl))) rfl).pq fun σ H Q ⟨μ, ρ, S, he, hs, h⟩ => by
    unfold evE at h
    unfold evR at h
    unfold evQ at h
    have h := Po.bind (Po.bind h)
    refine ⟨μ, ρ, S, he, hs, h.bind.imp fun x S1 μ1 H1 _ e1 s1 h1 v rv => ?_⟩
    refine ⟨μ1, ρ, S1, he.mono e1, s1, h1.bind.imp fun y S2 μ2 H2 _ e2 s2 h2 u ru => ?_⟩
    cases x with
    | int i =>
      cases y with
      | int j =>
        obtain ⟨z, h2⟩ := Po.ask (show Po X.K μ2 H2 (ask (RgOk i j) (Res.ok (rgD i j) S2)) _ from h2)
        exact ⟨i, j, rv, ru, z, own_tup s2 z (Po.at (Po.at h2 s2) s2)⟩
      | _ => exact (show False from h2).elim
    | _ => exact (show False from h2).elim
end
end PQ

/-! Targets, comprehensions. -/
namespace PQ
open PySem PySem.Spec PyProof.Rows L2
/-! ### targets -/
/-- σ' is σ with some of the slots `is` stored -/
inductive SetsIn (is : List Nat) : Slots → Slots → Prop
  | refl (σ : Slots) : SetsIn is σ σ
  | step {σ σ' : Slots} {i : Nat} {v : V} : i ∈ is → SetsIn is (σ.set i (some v)) σ' → SetsIn is σ σ'
theorem SetsIn.mono {is js : List Nat} (h : ∀ i, i ∈ is → i ∈ js) : ∀ {σ σ' : Slots}, SetsIn is σ σ' → SetsIn js σ σ'
  | _, _, .refl σ => .refl σ
  | _, _, .step m t => .step (h _ m) (SetsIn.mono h t)
theorem wipe_set {i : Nat} {o : Option V} : ∀ {vs : List Nat} {σ : Slots}, i ∈ vs → L2.wipe (σ.set i o) vs = L2.wipe σ vs
  | v :: vs, σ, h => by
    unfold L2.wipe
    by_cases hv : i ∈ vs
    · rw [wipe_set hv]
    · have e : i = v := by
        rcases List.mem_cons.mp h with e | h
        · exact e
        · exact absurd h hv
      subst e
      -- i is stored last, whatever stood there
      have key : ∀ (ws : List Nat) (σ : Slots), L2.wipe (σ.set i o) ws = (L2.wipe σ ws).set i (if i ∈ ws then none else o) ∨ (L2.wipe (σ.set i o) ws).set i none = (L2.wipe σ ws).set i none := by
        intro ws
        induction ws with
        | nil => intro σ; right; unfold L2.wipe; rw [List.set_set]
        | cons w ws ih =>
          intro σ
          right
          unfold L2.wipe
          have ih' : (L2.wipe (σ.set i o) ws).set i none = (L2.wipe σ ws).set i none := by
            rcases ih σ with h | h
            · rw [h, List.set_set]
            · exact h
          by_cases hw : w = i
          · subst hw; rw [List.set_set, List.set_set]; exact ih'
          · rw [List.set_comm _ _ hw, List.set_comm _ _ hw, ih']
      rcases key vs σ with h | h
      · rw [h, List.set_set]
      · exact h
theorem SetsIn.wipe {is : List Nat} : ∀ {σ σ' : Slots}, SetsIn is σ σ' → L2.wipe σ' is = L2.wipe σ is
  | _, _, .refl _ => rfl
  | _, _, .step m t => by rw [SetsIn.wipe t, wipe_set m]
theorem wipe_wipe : ∀ (vs : List Nat) (σ : Slots), (∀ us : List Nat, (∀ u, u ∈ vs → u ∈ us) → L2.wipe (L2.wipe σ vs) us = L2.wipe σ us)
  | [], σ, us, _ => rfl
  | v :: vs, σ, us, h => by
    show L2.wipe ((L2.wipe σ vs).set v none) us = _
    rw [wipe_set (h v List.mem_cons_self)]
    exact wipe_wipe vs σ us fun u hu => h u (List.mem_cons_of_mem _ hu)
def CN.slots : CN → List Nat
  | .nm i => [i]
  | .tup is => is
/-- a target takes a value -/
def tN (K : Fg) (g : CN) : TG := fun v σ H Q => ∃ μ ρ S d ρ', EnvOk K μ H ρ σ ∧ StOk K μ H S ∧ Rp K μ H d v ∧ bindN g d ρ S = some ρ' ∧ ∀ σ', EnvOk K μ H ρ' σ' → SetsIn g.slots σ σ' → Q σ' H
def SdN (p : Pl) (tg : Expr) (g : CN) : Prop := ∀ X C, Good X p C → X.fn = (fun _ => true) ∨ (∀ i ∈ g.slots, ∀ x, p.N[i]? = some x → p.sc.names.lookup x = some .local ∨ X.fn x = true) → PG X tg (tN X.K g)
end PQ
namespace L2
open PySem PySem.Spec PyProof.Rows
theorem PG.pq {X : Cx} {e : Expr} {t t' : TG} (h : PG X e t) (q : ∀ v σ H Q, t' v σ H Q → t v σ H Q) : PG X e t' := ⟨fun pins s σ H v u Q I r hw => h.run pins s σ H v u Q I r (q v σ H Q hw)⟩
theorem PGs.pq {X : Cx} {e : List Expr} {t t' : TGs} (h : PGs X e t) (q : ∀ v σ H Q, t' v σ H Q → t v σ H Q) : PGs X e t' := ⟨fun pins s σ H v u Q I r hw => h.run pins s σ H v u Q I r (q v σ H Q hw)⟩
theorem PS.pq {X : Cx} {e : Stmt} {t t' : TS} (h : PS X e t) (q : ∀ D σ H, t' D σ H → t D σ H) : PS X e t' := ⟨fun pins s σ H D I hw => h.run pins s σ H D I (q D σ H hw)⟩
theorem PSs.pq {X : Cx} {e : List Stmt} {t t' : TS} (h : PSs X e t) (q : ∀ D σ H, t' D σ H → t D σ H) : PSs X e t' := ⟨fun pins s σ H D I hw => h.run pins s σ H D I (q D σ H hw)⟩
/-- an unpacked tuple or list -/
theorem pg_or {X : Cx} {e : Expr} {t u : TG} (h : PG X e t) (h' : PG X e u) : PG X e (fun v σ H Q => t v σ H Q ∨ u v σ H Q) :=
  ⟨fun pins s σ H v w Q I r hw => hw.elim (h.run pins s σ H v w Q I r) (h'.run pins s σ H v w Q I r)⟩
end L2
namespace PQ
open PySem PySem.Spec PyProof.Rows L2
section
variable {p : Pl} {pos q : Pos}
/-- a name's place, where it can be stored -/
def NameAt (p : Pl) (x : Str) (i : Nat) : Prop := p.N[i]? = some x ∧ Loc p.sc x
theorem sn_nm {x : Str} {i : Nat} (h : NameAt p x i) : SdN p (.Name x pos) (.nm i) := fun X C g hf => by
  have hl : X.fn x = true ∨ X.env.scope.names.lookup x = some .local := by
    rcases hf with hf | hf
    · rw [hf]; exact .inl rfl
    · rw [g.sc]; exact (hf i (List.mem_singleton.mpr rfl) x h.1).symm
  refine (pg_name (i := i) g.nd (by rw [g.N]; exact h.1) (by rw [g.sc]; exact h.2) hl).pq fun v σ H Q ⟨μ, ρ, S, d, ρ', he, hs, r, e, k⟩ => ?_
  cases e
  exact k _ (he.set r i) (.step (List.mem_singleton.mpr rfl) (.refl _))
inductive NamesAt (p : Pl) : List Expr → List Nat → Prop
  | nil : NamesAt p [] []
  | cons {x : Str} {i : Nat} {q : Pos} {es : List Expr} {is : List Nat} : NameAt p x i → NamesAt p es is → NamesAt p (.Name x q :: es) (i :: is)
def tNs (K : Fg) (is : List Nat) : TGs := fun vs σ H Q => ∃ μ ρ ds ρ', EnvOk K μ H ρ σ ∧ RpA K μ H ds vs ∧ setAll is ds ρ = some ρ' ∧ ∀ σ', EnvOk K μ H ρ' σ' → SetsIn is σ σ' → Q σ' H
theorem sn_all {es : List Expr} {is : List Nat} (h : NamesAt p es is) {X : Cx} {C : Orc} (g : Good X p C) (hf : X.fn = (fun _ => true) ∨ (∀ i ∈ is, ∀ x, p.N[i]? = some x → p.sc.names.lookup x = some .local ∨ X.fn x = true)) : PGs X es (tNs X.K is) := by
  induction h with
  | nil =>
    refine pgs_nil.pq fun vs σ H Q ⟨μ, ρ, ds, ρ', he, r, e, k⟩ => ?_
    cases ds with
    | nil => cases e; exact ⟨r, k _ he (.refl _)⟩
    | cons d ds => cases e
  | @cons x i q es is hx _ ih =>
    have hl : X.fn x = true ∨ X.env.scope.names.lookup x = some .local := by
      rcases hf with hf | hf
      · rw [hf]; exact .inl rfl
      · rw [g.sc]; exact (hf i List.mem_cons_self x hx.1).symm
    have ih := ih (hf.imp id fun hf j hj => hf j (List.mem_cons_of_mem _ hj))
    refine (pgs_cons (pg_name (i := i) g.nd (by rw [g.N]; exact hx.1) (by rw [g.sc]; exact hx.2) hl) ih rfl).pq fun vs σ H Q ⟨μ, ρ, ds, ρ', he, r, e, k⟩ => ?_
    cases ds with
    | nil => cases e
    | cons d ds =>
      obtain ⟨v, r', e1, h1, h2⟩ := r
      subst e1
      exact ⟨v, r', rfl, μ, ρ.set i (some d), ds, ρ', he.set h1 i, h2, e, fun σ' he' hs' => k σ' he' (.step List.mem_cons_self (hs'.mono fun j hj => List.mem_cons_of_mem _ hj))⟩
theorem setAll_len : ∀ {is : List Nat} {ds : List D} {ρ ρ' : En}, setAll is ds ρ = some ρ' → ds.length = is.length
  | [], [], _, _, _ => rfl
  | [], _ :: _, _, _, h => by cases h
  | _ :: _, [], _, _, h => by cases h
  | i :: is, d :: ds, ρ, ρ', h => by
    have h : setAll is ds (ρ.set i (some d)) = some ρ' := h
    rw [List.length_cons, List.length_cons, setAll_len h]
theorem names_each {es : List Expr} {is : List Nat} (h : NamesAt p es is) (env : Env) : (assignEach es env).length = is.length ∧ (assignEach es env).findIdx? (·.1) = none := by
  induction h with
  | nil => exact ⟨rfl, rfl⟩
  | @cons x i q es is hx _ ih =>
    have e : assignEach (.Name x q :: es) env = (false, assign (.Name x q) env) :: assignEach es env := rfl
    rw [e]
    refine ⟨by rw [List.length_cons, List.length_cons, ih.1], ?_⟩
    rw [List.findIdx?_cons]
    show (if (false : Bool) = true then some 0 else Option.map (fun i => i + 1) (List.findIdx? (fun x => x.1) (assignEach es env))) = none
    rw [if_neg Bool.false_ne_true, ih.2]
    rfl
theorem sn_tup {es : List Expr} {is : List Nat} {k : Nat} (h : NamesAt p es is) : SdN p (.Tuple es k pos) (.tup is) := fun X C g hf => by
  have hs := sn_all h g hf
  obtain ⟨n1, n2⟩ := names_each h X.env
  refine (pg_or (pg_tup (n := is.length) g.calm hs n1 n2) (pg_unl (n := is.length) g.calm hs n1 n2)).pq fun v σ H Q ⟨μ, ρ, S, d, ρ', he, hs, r, e, k⟩ => ?_
  have e : (sqOf S (.val d)).bind (fun ds => setAll is ds ρ) = some ρ' := e
  cases es : sqOf S (.val d) with
  | none => rw [es] at e; cases e
  | some ds =>
    rw [es] at e
    have e : setAll is ds ρ = some ρ' := e
    obtain ⟨a, vs, rfl, h1, h2, _⟩ := sq_rv (r := .val d) hs r es
    have hl : vs.length = is.length := h2.length.symm.trans (setAll_len e)
    rcases h1 with h1 | ⟨h1, _⟩
    · exact .inr ⟨a, vs, rfl, h1, hl, μ, ρ, ds, ρ', he, h2, e, k⟩
    · exact .inl ⟨a, vs, rfl, h1.sq, hl, μ, ρ, ds, ρ', he, h2, e, k⟩
end

/-! ### comprehensions -/
theorem Good.blk {X : Cx} {p : Pl} {C : Orc} (g : Good X p C) (s : Shared) (H : Hp) (scope : Scope) (cl : List (Str × Addr)) (c : Addr) (fp : List Addr) : Good (X.blk s H scope (compEnvC scope cl c X.env) fp) { p with sc := relS scope p.sc } C :=
  ⟨g.calm, g.gu, g.nd, g.un, PassesOwn.never, g.N, by show relS scope X.env.scope = _; rw [g.sc], g.blt, g.glb, g.fn⟩
section
variable {K : Fg} {μ μ' μ1 : List Addr} {H H' H1 : Hp} {S : Sto}
/-- one's own list is changed -/
theorem own_le {D : Addr} {vs us : List V} (h : H D = some (.lst vs)) : Le K μ H μ (upd H D (.lst us)) := by
  refine ⟨fun _ _ h => h, fun a xs q => ?_, fun a xs q => ?_⟩
  · rcases q with ⟨o, q, c1, c2⟩ | q
    · exact .inl ⟨o, by rw [upd_ne (ne_of q h (by intro z; cases z))]; exact q, c1, c2⟩
    · exact .inr q
  · rcases q with ⟨o, q⟩ | q
    · exact .inl ⟨o, by rw [upd_ne (ne_of q h (by intro z; cases z))]; exact q⟩
    · exact .inr q
theorem own_ext {D : Addr} {o : HO} (e : Ext K μ1 H1 μ H) (h : H1 D = none) (q : Le K μ H μ (upd H D o)) : Ext K μ1 H1 μ (upd H D o) := by
  refine ⟨e.pre, fun a z => ?_, fun a u z m => ?_, fun a xs z => q.tup _ _ (e.tup _ _ z), fun a xs z => q.fix _ _ (e.fix _ _ z), fun a u vs z => by
    rw [upd_ne (ne_of_none z h)]
    exact e.frd a u vs z⟩
  · by_cases ha : a = D
    · rw [ha]; exact h
    · rw [upd_ne ha] at z; exact e.alive a z
  · rw [upd_ne (ne_of_none z h)]
    exact e.fr a u z m
theorem own_st {D : Addr} {vs us : List V} (hs : StOk K μ H S) (h : H D = some (.lst vs)) (n : D ∉ μ) : StOk K μ (upd H D (.lst us)) S :=
  ⟨hs.len, hs.nd, fun i o a e1 e2 => (hs.ob i o a e1 e2).le (own_le h) (upd_ne fun z => n (by rw [← z]; exact List.mem_of_getElem? e2))⟩
end
theorem Po.map {α β : Type} {K : Fg} {μ : List Addr} {H : Hp} {r : Res α} {g : α → β} {P : β → Sto → List Addr → Hp → Prop} (h : Po K μ H (r.bind fun a S' => .ok (g a) S') P) : Po K μ H r fun a S' μ' H' => P (g a) S' μ' H' := by
  cases r with
  | ok a S' => exact h
  | exc c fs S' => exact h
  | bad => exact h
theorem loopQ_len {C : Sto → Prop} {f : D → Sto → Res (Option D)} : ∀ {ds : List D} {S : Sto} {r : List D} {S' : Sto}, loopQ C f ds S = .ok r S' → r.length ≤ ds.length
  | [], S, r, S', h => by
    unfold loopQ PQ.ask at h
    split at h
    · cases h; exact Nat.le_refl _
    · cases h
  | d :: ds, S, r, S', h => by
    unfold loopQ PQ.ask at h
    split at h
    · obtain ⟨o, S1, _, h⟩ := bind_ok h
      obtain ⟨r', S2, e2, h⟩ := bind_ok h
      have := loopQ_len e2
      cases h
      cases o with
      | none => exact Nat.le_succ_of_le this
      | some x => exact Nat.succ_le_succ this
    · cases h
/-- a comprehension's loop; tt, te: its test, its element, by what they say -/
theorem comp_imp {K : Fg} {own : List Nat} {g : CN} {fi : En → Sto → Res Itv} {tt : TT} {te : TE} {body : En → Sto → Res (Option D)} {σ : Slots} {H : Hp} {Q : VK}
    (hsub : ∀ i, i ∈ g.slots → i ∈ own)
    (hb : ∀ (σ2 : Slots) (H2 : Hp) (μ : List Addr) (ρ : En) (S : Sto) (Dn : Addr) (acc : List V) (R : V → Hp → Prop) (R0 : Hp → Prop), EnvOk K μ H2 ρ σ2 → StOk K μ H2 S →
      Po K μ H2 (body ρ S) (fun o _ μ' H' => match o with | none => R0 H' | some x => ∀ v, Rp K μ' H' x v → R v H') → tt σ2 H2 fun b H3 => if b = true then te σ2 H3 R else R0 H3)
    (h : tQ K (fun ρ S => (fi ρ S).bind fun t S1 => ask (t.items.length ≤ sizeLine) (loopQ t.still (fun d S2 => may (bindN g d (wipeE ρ own) S2) fun ρ' => body ρ' S2) t.items S1)) σ H Q) :
    tLc (tI K fi) (tN K g) tt te own σ H Q := by
  obtain ⟨μ, ρ, S, he, hs, h⟩ := h
  refine ⟨μ, ρ, S, he, hs, h.bind.imp fun t S1 μ1 H1 _ e1 s1 h1 J hJ => ?_⟩
  obtain ⟨hz, h1⟩ := h1.ask
  intro Dn hD
  have hD0 : H Dn = none := e1.alive _ hD
  generalize hf : (fun d S2 => may (bindN g d (wipeE ρ own) S2) fun ρ' => body ρ' S2) = f at h1
  -- what is wanted of the whole list
  let P : List D → List Addr → Hp → Prop := fun ds μ' H' => ∀ a vs, H1 a = none → H' a = some (.lst vs) → a ∉ μ' → RpA K μ' H' ds vs → ds.length ≤ sizeLine → Q (.ref a) H'
  have h1 : Po K μ1 H1 (loopQ t.still f t.items S1) (fun ds _ μ' H' => P ds μ' H') := h1.imp fun ds S' μ' H' _ _ _ k a vs hn => k a vs (e1.alive _ hn)
  refine ⟨fun i m H => m = t.items.length - i ∧ i ≤ t.items.length ∧ ∃ μ S acc ds, Ext K μ1 H1 μ H ∧ StOk K μ H S ∧ H Dn = some (.lst acc) ∧ Dn ∉ μ ∧ RpA K μ H ds acc ∧ ds.length ≤ i ∧ Po K μ1 H1 (loopQ t.still f (t.items.drop i) S) (fun r _ μ' H' => P (ds ++ r) μ' H'),
    ⟨t.items.length, rfl, Nat.zero_le _, μ1, S1, [], [], s1.fresh hD _, s1.freshOk hD _, upd_same, (own_new (ds := []) (vs := []) s1 rfl hD).1, rfl, Nat.le_refl _, h1⟩, ?_⟩
  rintro i m H2 ⟨rfl, hi, μ2, S2, acc, ds, x2, s2, d2, n2, r2, l2, h2⟩
  by_cases hlt : i < t.items.length
  · -- a turn
    rw [List.drop_eq_getElem_cons hlt] at h2
    unfold loopQ at h2
    obtain ⟨hst, h2⟩ := h2.ask
    obtain ⟨hgo, _⟩ := hJ μ2 H2 S2 x2 s2 hst
    obtain ⟨hgo, hy⟩ := hgo i hlt
    refine .inr ⟨hgo, fun H3 => ∃ μ S acc ds, Ext K μ1 H1 μ H3 ∧ StOk K μ H3 S ∧ H3 Dn = some (.lst acc) ∧ Dn ∉ μ ∧ RpA K μ H3 ds acc ∧ ds.length ≤ i + 1 ∧ Po K μ1 H1 (loopQ t.still f (t.items.drop (i + 1)) S) (fun r _ μ' H' => P (ds ++ r) μ' H'),
      fun H3 q => ⟨t.items.length - (i + 1), by omega, rfl, hlt, q⟩, fun v H3 y => ?_⟩
    obtain ⟨rfl, d, ed, rd⟩ := hy v H3 y
    have ed' : t.items[i] = d := by
      rw [List.getElem?_eq_getElem hlt] at ed
      exact Option.some.inj ed
    rw [ed'] at h2
    -- the target
    cases hfd : f d S2 with
    | exc c fs S' => rw [hfd] at h2; exact h2.elim
    | bad => rw [hfd] at h2; exact h2.elim
    | ok o S3 =>
      rw [hfd] at h2
      have hfd' : may (bindN g d (wipeE ρ own) S2) (fun ρ' => body ρ' S2) = .ok o S3 := by rw [← hfd, ← hf]
      obtain ⟨ρ', eb, hbody⟩ := may_ok hfd'
      refine ⟨μ2, wipeE ρ own, S2, d, ρ', (he.mono (e1.trans x2)).wipe own, s2, rd, eb, fun σ' he' hin => ⟨?_, ?_⟩⟩
      · rw [(hin.mono hsub).wipe]
        exact wipe_wipe own σ own fun _ h => h
      · refine hb σ' H3 μ2 ρ' S2 Dn acc _ _ he' s2 ?_
        rw [hbody]
        intro μ4 H4 x4 s4
        have dn4 : H4 Dn = some (.lst acc) := x4.fr _ _ d2 n2
        have nn4 : Dn ∉ μ4 := x4.notin d2 n2
        have x14 : Ext K μ1 H1 μ4 H4 := x2.trans x4
        cases o with
        | none =>
          exact ⟨μ4, S3, acc, ds, x14, s4, dn4, nn4, r2.mono x4, Nat.le_succ_of_le l2, Po.map (g := fun r => r) h2⟩
        | some z =>
          intro w rw_
          refine ⟨acc, dn4, ?_, μ4, S3, acc ++ [w], ds ++ [z], own_ext x14 hD (own_le dn4), own_st s4 dn4 nn4, upd_same, nn4, ?_, ?_, ?_⟩
          · rw [← r2.length]; omega
          · exact RpA.le (own_le dn4) _ _ ((r2.mono x4).append (.cons rw_ .nil))
          · rw [List.length_append]; exact Nat.succ_le_succ l2
          · refine (Po.map (g := fun r => z :: r) h2).imp fun r S' μ' H' _ _ _ k => ?_
            rw [List.append_assoc]
            exact k
  · -- the end
    have e : i = t.items.length := by omega
    subst e
    rw [List.drop_length] at h2
    unfold loopQ at h2
    obtain ⟨hst, h2⟩ := h2.ask
    obtain ⟨_, hstop⟩ := hJ μ2 H2 S2 x2 s2 hst
    refine .inl ⟨hstop, ?_⟩
    have k : P (ds ++ []) μ2 H2 := h2 μ2 H2 x2 s2
    rw [List.append_nil] at k
    exact k Dn acc hD d2 n2 r2 (Nat.le_trans l2 hz)
section
variable {p : Pl} {elt tg iter c : Expr} {ci : CI} {ce : CE} {ct : CT} {g : CN} {scope : Scope} {own : List (Str × Nat)} {pos : Pos}
/-- the scope within -/
def Pl.within (p : Pl) (scope : Scope) : Pl := { p with sc := relS scope p.sc }
/-- a block's target: its names are stored there -/
def storeB (p : Pl) (scope : Scope) (g : CN) : Bool := g.slots.all fun i => match p.N[i]? with
  | some x => (relS scope p.sc).names.lookup x == some .local || scope.names.lookup x == some .cell
  | none => true
def inOwn (own : List (Str × Nat)) (g : CN) : Bool := g.slots.all fun i => (own.map (·.2)).contains i
theorem storeB_ok {X : Cx} {s : Shared} {H : Hp} {cl : List (Str × Addr)} {a : Addr} {fp : List Addr} (h : storeB p scope g = true) : ∀ i ∈ g.slots, ∀ x, (p.within scope).N[i]? = some x → (p.within scope).sc.names.lookup x = some .local ∨ (X.blk s H scope (compEnvC scope cl a X.env) fp).fn x = true := fun i hi x hx => by
  have h1 := List.all_eq_true.mp h i hi
  have hx : p.N[i]? = some x := hx
  rw [hx] at h1
  have h1 : ((relS scope p.sc).names.lookup x == some .local || scope.names.lookup x == some .cell) = true := h1
  rw [Bool.or_eq_true] at h1
  exact h1.imp (fun z => eq_of_beq z) fun z => z
theorem inOwn_ok (h : inOwn own g = true) : ∀ i, i ∈ g.slots → i ∈ own.map (·.2) := fun i hi => by
  have := List.all_eq_true.mp h i hi
  simpa using this
theorem comp_lc (hi : SdI p tg iter ci) (hg : SdN (p.within scope) tg g) (he : SdE (p.within scope) elt ce) (ho : inOwn own g = true) (K : Fg) (C : Orc) {σ : Slots} {H : Hp} {Q : VK} (h : tQ K (evQ C (.comp (own.map (·.2)) g ci ce)) σ H Q) : tLc (tI K (evI C ci)) (tN K g) tYes (tE K (evE C ce)) (own.map (·.2)) σ H Q := by
  refine comp_imp (body := fun ρ' S2 => (evE C ce ρ' S2).bind fun x S3 => .ok (some x) S3) (inOwn_ok ho) (fun σ2 H2 μ ρ S Dn acc R R0 he hs h => ?_) (by
    obtain ⟨μ, ρ, S, he, hs, h⟩ := h
    unfold evQ at h
    exact ⟨μ, ρ, S, he, hs, h⟩)
  show if true = true then tE K (evE C ce) σ2 H2 R else R0 H2
  rw [if_pos rfl]
  exact ⟨μ, ρ, S, he, hs, Po.map (g := some) h⟩
theorem compIf_lc (hi : SdI p tg iter ci) (hg : SdN (p.within scope) tg g) (he : SdE (p.within scope) elt ce) (ho : inOwn own g = true) (K : Fg) (C : Orc) {σ : Slots} {H : Hp} {Q : VK} (h : tQ K (evQ C (.compIf (own.map (·.2)) g ci ct ce)) σ H Q) : tLc (tI K (evI C ci)) (tN K g) (tT K (evT C ct)) (tE K (evE C ce)) (own.map (·.2)) σ H Q := by
  refine comp_imp (body := fun ρ' S2 => (evT C ct ρ' S2).bind fun k S3 => if k = true then (evE C ce ρ' S3).bind fun x S4 => .ok (some x) S4 else .ok none S3) (inOwn_ok ho) (fun σ2 H2 μ ρ S Dn acc R R0 he hs h => ?_) (by
    obtain ⟨μ, ρ, S, he, hs, h⟩ := h
    unfold evQ at h
    exact ⟨μ, ρ, S, he, hs, h⟩)
  refine ⟨μ, ρ, S, he, hs, h.bind.imp fun k S1 μ1 H1 _ e1 s1 h1 => ?_⟩
  cases k with
  | true =>
    rw [if_pos rfl] at h1 ⊢
    exact ⟨μ1, ρ, S1, he.mono e1, s1, Po.map (g := some) h1⟩
  | false =>
    rw [if_neg Bool.false_ne_true] at h1 ⊢
    exact h1.at s1
section
variable (hi : SdI p tg iter ci) (ok : blkC p.N p.sc scope own = true) (hg : SdN (p.within scope) tg g) (hsb : storeB p scope g = true) (ho : inOwn own g = true) (he : SdE (p.within scope) elt ce) (hs : notSet iter = true)
include hi ok hg hsb ho he hs
theorem sq_comp : SdQ p (.ListComp elt [⟨tg, iter, [], 0⟩] scope pos) (.comp (own.map (·.2)) g ci ce) := fun X C gd =>
  (pe_lc (own := own) gd.calm gd.nd (hi X C gd) (blkOk_by (by rw [gd.N, gd.sc]; exact ok)) (fun s H a cl fp => hg _ C (gd.blk s H scope cl a fp) (.inr (storeB_ok hsb))) (fun _ _ _ _ _ => pts_nil) (fun s H a cl fp => he _ C (gd.blk s H scope cl a fp)) (fun x => no_fold hs _ x)).pq fun σ H Q h => comp_lc hi hg he ho _ _ h
theorem sq_compIf (ht : SdT (p.within scope) c ct) : SdQ p (.ListComp elt [⟨tg, iter, [c], 0⟩] scope pos) (.compIf (own.map (·.2)) g ci ct ce) := fun X C gd =>
  (pe_lc (own := own) gd.calm gd.nd (hi X C gd) (blkOk_by (by rw [gd.N, gd.sc]; exact ok)) (fun s H a cl fp => hg _ C (gd.blk s H scope cl a fp) (.inr (storeB_ok hsb))) (fun s H a cl fp => pts_one (ht _ C (gd.blk s H scope cl a fp))) (fun s H a cl fp => he _ C (gd.blk s H scope cl a fp)) (fun x => no_fold hs _ x)).pq fun σ H Q h => compIf_lc hi hg he ho _ _ h
end
end
end PQ

/-! Statements. -/
namespace PQ
open PySem PySem.Spec PyProof.Rows L2
section
variable {K : Fg} {μ μ' μ1 : List Addr} {H H' H1 : Hp} {S : Sto} {σ : Slots} {ρ : En}
/-- what is wanted behind a flow -/
def flP (K : Fg) (D : Ends) (fl : Fl) (μ : List Addr) (H : Hp) : Prop := match fl with
  | .nx ρ => ∀ σ, EnvOk K μ H ρ σ → D.nx σ H
  | .bk ρ => ∀ σ, EnvOk K μ H ρ σ → D.bk σ H
  | .ct ρ => ∀ σ, EnvOk K μ H ρ σ → D.ct σ H
  | .rt d => ∀ v, Rp K μ H d v → D.rt v H
def tS (K : Fg) (f : En → Sto → Res Fl) : TS := fun D σ H => ∃ μ ρ S, EnvOk K μ H ρ σ ∧ StOk K μ H S ∧ Po K μ H (f ρ S) fun fl _ μ' H' => flP K D fl μ' H'
end
def SdS (p : Pl) (s : Stmt) (c : CS) : Prop := ∀ X C, Good X p C → X.fn = (fun _ => true) → PS X s (tS X.K (evS C c))
def SdSs (p : Pl) (s : List Stmt) (c : CSs) : Prop := ∀ X C, Good X p C → X.fn = (fun _ => true) → PSs X s (tS X.K (evSs C c))
section
variable {p : Pl} {a b e o i tg iter : Expr} {ca cb co ci ce : CE} {ct : CT} {ii : CI} {g : CN} {pos : Pos} {s : Stmt} {ss ts : List Stmt} {cs : CS} {css cts : CSs}
theorem ss_nil : SdSs p [] .nil := fun X C gd _ => pss_nil.pq fun D σ H ⟨μ, ρ, S, he, hs, h⟩ => by
  unfold evSs at h
  exact h.at hs σ he
theorem ss_cons (h1 : SdS p s cs) (h2 : SdSs p ss css) : SdSs p (s :: ss) (.cons cs css) := fun X C gd hf => (pss_cons (h1 X C gd hf) (h2 X C gd hf)).pq fun D σ H ⟨μ, ρ, S, he, hs, h⟩ => by
  unfold evSs at h
  refine ⟨μ, ρ, S, he, hs, h.bind.imp fun fl S1 μ1 H1 _ e1 s1 h1 => ?_⟩
  cases fl with
  | nx ρ1 => exact fun σ1 he1 => ⟨μ1, ρ1, S1, he1, s1, h1⟩
  | bk ρ1 => exact h1.at s1
  | ct ρ1 => exact h1.at s1
  | rt d => exact h1.at s1
theorem s_pass : SdS p (.Pass pos) .pass := fun X C gd _ => ps_pass.pq fun D σ H ⟨μ, ρ, S, he, hs, h⟩ => by
  unfold evS at h
  exact h.at hs σ he
theorem s_brk : SdS p (.Break pos) .brk := fun X C gd _ => ps_break.pq fun D σ H ⟨μ, ρ, S, he, hs, h⟩ => by
  unfold evS at h
  exact h.at hs σ he
theorem s_cont : SdS p (.Continue pos) .cont := fun X C gd _ => ps_continue.pq fun D σ H ⟨μ, ρ, S, he, hs, h⟩ => by
  unfold evS at h
  exact h.at hs σ he
theorem s_ret (ha : SdE p a ca) : SdS p (.Return (some a) pos) (.ret ca) := fun X C gd _ => (ps_ret (ha X C gd)).pq fun D σ H ⟨μ, ρ, S, he, hs, h⟩ => by
  unfold evS at h
  exact ⟨μ, ρ, S, he, hs, h.bind.imp fun d S1 μ1 H1 _ e1 s1 h1 v rv => h1.at s1 v rv⟩
theorem s_ex (hn : notComp a = true) (ha : SdE p a ca) : SdS p (.Expr a pos) (.ex ca) := fun X C gd _ => (ps_expr (ha X C gd) (no_swap hn _ _ _)).pq fun D σ H ⟨μ, ρ, S, he, hs, h⟩ => by
  unfold evS at h
  exact ⟨μ, ρ, S, he, hs, h.bind.imp fun d S1 μ1 H1 _ e1 s1 h1 v rv => h1.at s1 σ (he.mono e1)⟩
theorem s_if (ht : SdT p a ct) (h1 : SdSs p ss css) (h2 : SdSs p ts cts) : SdS p (.If a ss ts pos) (.ite ct css cts) := fun X C gd hf => (ps_if (ht X C gd) (h1 X C gd hf) (h2 X C gd hf)).pq fun D σ H ⟨μ, ρ, S, he, hs, h⟩ => by
  unfold evS at h
  refine ⟨μ, ρ, S, he, hs, h.bind.imp fun k S1 μ1 H1 _ e1 s1 h1 => ?_⟩
  cases k with
  | true => rw [if_pos rfl] at h1 ⊢; exact ⟨μ1, ρ, S1, he.mono e1, s1, h1⟩
  | false => rw [if_neg Bool.false_ne_true] at h1 ⊢; exact ⟨μ1, ρ, S1, he.mono e1, s1, h1⟩
/-- x = e -/
theorem asg_imp {K : Fg} {fe : En → Sto → Res D} {D : Ends} {σ : Slots} {H : Hp} (h : tS K (fun ρ S => (fe ρ S).bind fun d S1 => may (bindN g d ρ S1) fun ρ' => .ok (.nx ρ') S1) D σ H) : tAsg (tE K fe) (tN K g) D σ H := by
  obtain ⟨μ, ρ, S, he, hs, h⟩ := h
  refine ⟨μ, ρ, S, he, hs, h.bind.imp fun d S1 μ1 H1 _ e1 s1 h1 v rv => ?_⟩
  obtain ⟨ρ', eb, h1⟩ := h1.may
  exact ⟨μ1, ρ, S1, d, ρ', he.mono e1, s1, rv, eb, fun σ' he' _ => h1.at s1 σ' he'⟩
theorem s_set (hn : notComp a = true) (hg : SdN p tg g) (ha : SdE p a ca) (hw : ∀ env : Env, env.scope = p.sc → swappedStores [tg] a env = pure none) (h1 : ∀ env, (assignEach [tg] env).map (·.2) = [assign tg env]) : SdS p (.Assign [tg] a pos) (.set g ca) := fun X C gd hf =>
  (ps_asg (ha X C gd) (hg X C gd (.inl hf)) (no_swap hn _ _ _) (hw _ gd.sc) (h1 _)).pq fun D σ H h => asg_imp (by
    obtain ⟨μ, ρ, S, he, hs, h⟩ := h
    unfold evS at h
    exact ⟨μ, ρ, S, he, hs, h⟩)
theorem alloc_imp {K : Fg} {fq : En → Sto → Res (List D)} {σ : Slots} {H : Hp} {Q : VK} (h : tE K (fun ρ S => (fq ρ S).bind fun ds S1 => .ok (.ref S1.length) (S1 ++ [.lst ds])) σ H Q) : tQ K fq σ H Q := by
  obtain ⟨μ, ρ, S, he, hs, h⟩ := h
  refine ⟨μ, ρ, S, he, hs, ?_⟩
  have h : Po K μ H ((fq ρ S).bind fun ds S1 => Res.ok (D.ref S1.length) (S1 ++ [Ob.lst ds])) (fun d _ μ' H' => ∀ v, Rp K μ' H' d v → Q v H') := h
  generalize fq ρ S = r at h
  cases r with
  | ok ds S1 =>
    intro μ1 H1 e1 s1 a vs hn ha hm rvs hz
    refine h (μ1 ++ [a]) H1 (e1.take hn) (s1.take hm ha rvs hz) (.ref a) ⟨a, rfl, ?_⟩
    rw [← s1.len, List.getElem?_append_right (Nat.le_refl _), Nat.sub_self]
    rfl
  | exc c fs S' => exact h
  | bad => exact h
/-- x = [..], where the stores are swapped -/
def swapB (sc : Scope) (y : Str) (scope : Scope) (l1 l2 : Nat) : Bool := (match sc.kind with | .function => true | _ => false) && (sc.names.lookup y == some .local) && (l1 == l2) && !(scope.names.any fun (n, k) => n == y && (k == .local || k == .cell))
theorem sw_ok {env : Env} {elt : Expr} {gs : List Comprehension} {scope : Scope} {cpos py : Pos} {y : Str} {l : Nat} (h : swapB env.scope y scope py.line cpos.line = true) : swapsWith (.ListComp elt gs scope cpos) (some (.Name y py)) l env = pure true := by
  unfold swapB at h
  simp only [Bool.and_eq_true] at h
  obtain ⟨⟨⟨h1, h2⟩, h3⟩, h4⟩ := h
  refine sw_true ?_ (eq_of_beq h2) h3 (by simpa using h4)
  revert h1
  cases env.scope.kind <;> intro h1 <;> first | rfl | cases h1
section
variable {elt c : Expr} {y : Str} {py cpos : Pos} {iy : Nat} {scope : Scope} {own : List (Str × Nat)}
variable (hy : p.N[iy]? = some y) (hyl : p.sc.names.lookup y = some .local) (hsw : swapB p.sc y scope py.line cpos.line = true)
variable (hi : SdI p tg iter ii) (ok : blkC p.N p.sc scope own = true) (hg : SdN (p.within scope) tg g) (hsb : storeB p scope g = true) (ho : inOwn own g = true) (he : SdE (p.within scope) elt ce) (hs : notSet iter = true)
include hy hyl hsw hi ok hg hsb ho he hs
theorem s_setLc : SdS p (.Assign [.Name y py] (.ListComp elt [⟨tg, iter, [], 0⟩] scope cpos) pos) (.set (.nm iy) (.alloc (.comp (own.map (·.2)) g ii ce))) := fun X C gd hf =>
  (ps_setLc (own := own) (i := iy) gd.calm gd.nd (by rw [gd.N]; exact hy) (by rw [gd.sc]; exact hyl) (sw_ok (by rw [gd.sc]; exact hsw)) (hi X C gd) (blkOk_by (by rw [gd.N, gd.sc]; exact ok)) (fun s H a cl fp => hg _ C (gd.blk s H scope cl a fp) (.inr (storeB_ok hsb))) (fun _ _ _ _ _ => pts_nil) (fun s H a cl fp => he _ C (gd.blk s H scope cl a fp)) (fun x => no_fold hs _ x)).pq fun D σ H ⟨μ, ρ, S, he', hs', h⟩ => by
    show tLc _ _ _ _ _ σ H fun x H1 => gName iy x σ H1 D.nx
    refine comp_lc hi hg he ho _ C (alloc_imp ⟨μ, ρ, S, he', hs', ?_⟩)
    unfold evS at h
    refine Po.imp (P := fun d S1 μ1 H1 => Po X.K μ1 H1 (may (bindN (.nm iy) d ρ S1) fun ρ' => .ok (.nx ρ') S1) fun fl _ μ' H' => flP X.K D fl μ' H') ?_ fun d S1 μ1 H1 _ e1 s1 h1 v rv => ?_
    · have := h.bind
      unfold evE at this
      exact this
    · exact (h1.at (a := Fl.nx (ρ.set iy (some d))) s1) _ ((he'.mono e1).set rv iy)
theorem s_setLcIf (ht : SdT (p.within scope) c ct) : SdS p (.Assign [.Name y py] (.ListComp elt [⟨tg, iter, [c], 0⟩] scope cpos) pos) (.set (.nm iy) (.alloc (.compIf (own.map (·.2)) g ii ct ce))) := fun X C gd hf =>
  (ps_setLc (own := own) (i := iy) gd.calm gd.nd (by rw [gd.N]; exact hy) (by rw [gd.sc]; exact hyl) (sw_ok (by rw [gd.sc]; exact hsw)) (hi X C gd) (blkOk_by (by rw [gd.N, gd.sc]; exact ok)) (fun s H a cl fp => hg _ C (gd.blk s H scope cl a fp) (.inr (storeB_ok hsb))) (fun s H a cl fp => pts_one (ht _ C (gd.blk s H scope cl a fp))) (fun s H a cl fp => he _ C (gd.blk s H scope cl a fp)) (fun x => no_fold hs _ x)).pq fun D σ H ⟨μ, ρ, S, he', hs', h⟩ => by
    show tLc _ _ _ _ _ σ H fun x H1 => gName iy x σ H1 D.nx
    refine compIf_lc (ct := ct) hi hg he ho _ C (alloc_imp ⟨μ, ρ, S, he', hs', ?_⟩)
    unfold evS at h
    refine Po.imp (P := fun d S1 μ1 H1 => Po X.K μ1 H1 (may (bindN (.nm iy) d ρ S1) fun ρ' => .ok (.nx ρ') S1) fun fl _ μ' H' => flP X.K D fl μ' H') ?_ fun d S1 μ1 H1 _ e1 s1 h1 v rv => ?_
    · have := h.bind
      unfold evE at this
      exact this
    · exact (h1.at (a := Fl.nx (ρ.set iy (some d))) s1) _ ((he'.mono e1).set rv iy)
end
/-- a, b = x, y -/
theorem s_par {x y : Str} {px py pt : Pos} {kt k2 pt2} {j k : Nat} (hi : p.N[j]? = some x) (hj : p.N[k]? = some y) (hij : j ≠ k) (hx : p.sc.names.lookup x = some .local) (hy : p.sc.names.lookup y = some .local) (hs1 : notStar a = true) (hs2 : notStar b = true) (ha : SdE p a ca) (hb : SdE p b cb)
    (hw : ∀ env : Env, env.scope = p.sc → swappedStores [.Tuple [.Name x px, .Name y py] kt pt] (.Tuple [a, b] k2 pt2) env = pure (some [x, y])) :
    SdS p (.Assign [.Tuple [.Name x px, .Name y py] kt pt] (.Tuple [a, b] k2 pt2) pos) (.par j k ca cb) := fun X C gd hf =>
  (ps_par (i := j) (j := k) gd.calm gd.nd (by rw [gd.N]; exact hi) (by rw [gd.N]; exact hj) hij (by rw [gd.sc]; exact hx) (by rw [gd.sc]; exact hy) (pa_cons (ha X C gd) (pa_cons (hb X C gd) pa_nil (star_cons hs2 [] _)) (star_cons hs1 [b] _)) (hw _ gd.sc) rfl).pq fun D σ H ⟨μ, ρ, S, he, hs, h⟩ => by
    unfold evS at h
    refine ⟨μ, ρ, S, he, hs, h.bind.imp fun d S1 μ1 H1 _ e1 s1 h1 v rv => ?_⟩
    refine ⟨μ1, ρ, S1, he.mono e1, s1, h1.bind.imp fun d2 S2 μ2 H2 _ e2 s2 h2 w rw_ => ?_⟩
    exact ⟨v, w, rfl, h2.at s2 _ (((he.mono (e1.trans e2)).set (rv.mono e2) j).set rw_ k)⟩
/-- o[i] = v of a dict -/
def rSetK : V → V → V → Hp → (Hp → Prop) → Prop := fun o i v H Q => ∃ a H', o = .ref a ∧ DPut H a i v H' ∧ Q H'
theorem set_dic {X : Cx} (hu : X.A.units + 1 < cLine) : PSet X rSetK := by
  intro pins s σ H o i v ov iv u Q I ro ri rv h
  obtain ⟨a, H', rfl, g, q⟩ := h
  cases ro
  exact d_setItem hu I g ri rv fun s' I' => ⟨H', I', q⟩
def rSet2 : V → V → V → Hp → (Hp → Prop) → Prop := fun o i v H Q => rSetK o i v H Q ∨ rSetL o i v H Q
theorem set_any {X : Cx} (hu : X.A.units + 1 < cLine) : PSet X rSet2 := by
  intro pins s σ H o i v ov iv u Q I ro ri rv h
  rcases h with h | h
  · exact set_dic hu pins s σ H o i v ov iv u Q I ro ri rv h
  · exact set_list pins s σ H o i v ov iv u Q I ro ri rv h
/-- o[i] = e -/
theorem set_rp {K : Fg} {μ : List Addr} {H : Hp} {S : Sto} {x y d : D} {v u w : V} {Q : Hp → Prop} (hs : StOk K μ H S) (rx : Rp K μ H x v) (ry : Rp K μ H y u) (rd : Rp K μ H d w) (h : Po K μ H (setD x y d S) fun _ _ μ' H' => Ext K μ H μ' H' → Q H') : rSet2 v u w H Q := by
  unfold setD at h
  split at h
  · obtain ⟨n, ks, a, vs, rfl, rfl, ei, ea, k1, k2, k3, k4, h⟩ := Po.withD hs rx h
    obtain ⟨k, ek, h⟩ := h.may
    obtain ⟨z, h⟩ := h.ite
    refine .inl ⟨a, _, rfl, ?_, h _ _ (hs.putE _ ea (nf_dK k1)) (hs.putO ea (nf_dK k1) (u := .dK (putK vs k w)) ⟨_, upd_same, (k2.put rd k4).mono (hs.putE _ ea (nf_dK k1)), ?_, k4.put k d⟩) (hs.putE _ ea (nf_dK k1))⟩
    · rw [key_rp ry ek]
      exact DPut.k k1 (by rw [← k2.length]; exact z)
    · have := pD_length ks k d
      omega
  · obtain ⟨n, ds, a, vs, rfl, rfl, ei, ea, k1, k2, k3, h⟩ := Po.withL hs rx h
    cases y with
    | int j =>
      obtain ⟨m, em, h⟩ := Po.may (show Po K μ H (may (ixN ds.length j) fun m => Res.ok () (S.set n (Ob.lst (ds.set m d)))) _ from h)
      obtain ⟨x1, x2⟩ := hs.put ea k1 (k2.set rd m) (by rw [List.length_set]; exact k3)
      exact .inr ⟨a, vs, j, m, rfl, ry, k1, by rw [← k2.length]; exact em, h _ _ x1 x2 x1⟩
    | _ => exact (show False from h).elim
theorem s_sub {sp : Pos} (hn : notSlice i = true) (hc : notComp e = true) (ho : SdE p o co) (hi : SdE p i ci) (he' : SdE p e ce) : SdS p (.Assign [.Subscript o i sp] e pos) (.sub co ci ce) := fun X C gd hf =>
  (ps_asg (he' X C gd) (pg_sub (ho X C gd) (hi X C gd) (set_any (by have := gd.un; omega)) (fun v => sub_store hn _ v)) (by rw [show swapsWithSole [.Subscript o i sp] e pos.line X.env = swapsWith e (some (.Subscript o i sp)) pos.line X.env from by unfold swapsWithSole; rfl]; exact no_swap hc _ _ _) (by cases e <;> rfl) rfl).pq fun D σ H ⟨μ, ρ, S, he, hs, h⟩ => by
    unfold evS at h
    refine ⟨μ, ρ, S, he, hs, h.bind.imp fun d S1 μ1 H1 _ e1 s1 h1 w rd => ?_⟩
    refine ⟨μ1, ρ, S1, he.mono e1, s1, h1.bind.imp fun x S2 μ2 H2 _ e2 s2 h2 v rx => ?_⟩
    refine ⟨μ2, ρ, S2, he.mono (e1.trans e2), s2, h2.bind.imp fun y S3 μ3 H3 _ e3 s3 h3 u ry => ?_⟩
    exact set_rp s3 (rx.mono e3) ry ((rd.mono e2).mono e3) (h3.bind.imp fun _ S4 μ4 H4 _ e4 s4 h4 _ => h4.at s4 σ ((he.mono (e1.trans (e2.trans e3))).mono e4))
/-- an operation in place, by values -/
def ipR : Bop → TIp
  | .add => fun x y H Q => rI0 (fun i j => .int (i + j)) x y H Q ∨ ∃ i j, x = .str i ∧ y = .str j ∧ i.length + j.length ≤ sizeLine ∧ Q (.str (i ++ j)) H
  | .sub => rI0 fun i j => .int (i - j)
  | _ => fun _ _ _ _ => False
def bopOp : Bop → Operator
  | .add => .Add | .sub => .Sub | .mul => .Mult | .fdiv => .FloorDiv | .mod => .Mod | .pow => .Pow | .shl => .LShift | .shr => .RShift | .band => .BitAnd | .bor => .BitOr | .bxor => .BitXor
theorem ip_ok (f : Bop) (X : Cx) : PIp X (bopOp f) (ipR f) := by
  cases f with
  | add => exact iop_add.or iop_add_str
  | sub => exact iop_sub
  | _ => exact fun _ _ _ _ _ _ _ _ _ _ _ _ h => h.elim
theorem aug_rp {f : Bop} {K : Fg} {μ : List Addr} {H : Hp} {S : Sto} {x y : D} {v u : V} {Q : VK} (hs : StOk K μ H S) (rx : Rp K μ H x v) (ry : Rp K μ H y u) (h : Po K μ H (augD f x y S) fun d _ μ' H' => ∀ v, Rp K μ' H' d v → Q v H') : ipR f v u H Q := by
  cases f with
  | add =>
    cases x with
    | int i => cases y with
      | int j => exact .inl ⟨i, j, rx, ry, Po.at (show Po K μ H (Res.ok (D.int (i + j)) S) _ from h) hs _ rfl⟩
      | _ => exact (show False from h).elim
    | str i => cases y with
      | str j =>
        obtain ⟨z, h⟩ := Po.ite (show Po K μ H (if i.length + j.length ≤ sizeLine then Res.ok (D.str (i ++ j)) S else Res.bad) _ from h)
        exact .inr ⟨i, j, rx, ry, z, Po.at h hs _ rfl⟩
      | _ => exact (show False from h).elim
    | _ => exact (show False from h).elim
  | sub =>
    cases x with
    | int i => cases y with
      | int j => exact ⟨i, j, rx, ry, Po.at (show Po K μ H (Res.ok (D.int (i - j)) S) _ from h) hs _ rfl⟩
      | _ => exact (show False from h).elim
    | _ => exact (show False from h).elim
  | _ => exact (show False from by cases x <;> cases y <;> exact h).elim
theorem s_aug {x : Str} {j : Nat} {f : Bop} {px : Pos} (hx : NameAt p x j) (ha : SdE p a ca) : SdS p (.AugAssign (.Name x px) (bopOp f) a pos) (.aug j f ca) := fun X C gd hf =>
  (ps_aug (i := j) gd.nd (by rw [gd.N]; exact hx.1) (by rw [gd.sc]; exact hx.2) (ha X C gd) (ip_ok f X) (.inl (by rw [hf]))).pq fun D σ H ⟨μ, ρ, S, he, hs, h⟩ => by
    unfold evS at h
    obtain ⟨d, ed, h⟩ := h.may
    have e2 : ρ[j]? = some (some d) := by
      cases q : ρ[j]? with
      | none => rw [q] at ed; cases ed
      | some o => rw [q] at ed; exact congrArg some ed
    obtain ⟨v, q1, q2⟩ := he.2 j d e2
    refine ⟨v, q1, μ, ρ, S, he, hs, h.bind.imp fun y S1 μ1 H1 _ e1 s1 h1 u ru => ?_⟩
    exact aug_rp s1 (q2.mono e1) ru (h1.bind.imp fun z S2 μ2 H2 _ e2 s2 h2 w rw_ => h2.at s2 _ (((he.mono e1).mono e2).set rw_ j))
/-- o[i] of a list, by values -/
theorem get_list {X : Cx} : PGet X (rIxL X.K) := by
  intro pins s σ H x y v u Q I rx ry h
  obtain ⟨p, xs, i, z, rfl, rfl, hq, he, q⟩ := h
  cases rx
  obtain ⟨t, rfl⟩ := ry
  obtain ⟨its, r, pl, hz⟩ := I.list hq
  obtain ⟨j, h1, h2, h3, h4, h5⟩ := atI_get he
  obtain ⟨w, ew, rw'⟩ := r.get h2
  have hl := r.length
  have hn := line63
  have fin : EP X pins σ Q w s := ⟨z, H, I, rw', q⟩
  by_cases h0 : 0 ≤ i
  · have hj : i.toNat = j := by
      rw [seqIndex_of h0 h5] at h1
      exact Option.some.inj h1
    exact wpAny_getItem_list pl.isList h0 (by omega) (by rw [hj]; simpa using ew) fin
  · have hj : (i + (its.toArray.size : Int)).toNat = j := by
      rw [seqIndex_neg (by omega) h4] at h1
      rw [List.size_toArray, ← hl]
      exact Option.some.inj h1
    exact wpAny_getItem_list_neg pl.isList (by omega) (by rw [List.size_toArray] <;> omega) (by omega) (by rw [hj]; simpa using ew) fin
/-- o[i] of a list or a dict, by values -/
def rGet2 (K : Fg) : V → V → Hp → VK → Prop := fun x y H Q => rIxD x y H Q ∨ rIxL K x y H Q
theorem get_any {X : Cx} (hu : X.A.units + 1 < cLine) : PGet X (rGet2 X.K) := by
  intro pins s σ H x y v u Q I rx ry h
  rcases h with h | h
  · obtain ⟨a, w, rfl, g, q⟩ := h
    cases rx
    exact d_getItem hu I g ry fun w' s' I' rw' => ⟨w, H, I', rw', q⟩
  · exact get_list pins s σ H x y v u Q I rx ry h
theorem get_rp {K : Fg} {μ : List Addr} {H : Hp} {S : Sto} {x y : D} {v u : V} {Q : VK} (hs : StOk K μ H S) (rx : Rp K μ H x v) (ry : Rp K μ H y u) (h : Po K μ H (getD x y S) fun d _ μ' H' => ∀ v, Rp K μ' H' d v → Q v H') : rGet2 K v u H Q := by
  cases x with
  | ref n =>
    cases y with
    | int i =>
      have h : Po K μ H (match S[n]? with
        | some (Ob.lst ds) => may (atI ds i) fun d => Res.ok d S
        | some (Ob.dic ks) => may (gD ks (.inl i)) fun d => Res.ok d S
        | some (Ob.frd ks) => may (gD ks (.inl i)) fun d => Res.ok d S
        | none => Res.bad) _ := h
      cases ei : S[n]? with
      | none => rw [ei] at h; exact (show False from h).elim
      | some o =>
        rw [ei] at h
        cases o with
        | lst ds =>
          obtain ⟨d, e, h⟩ := Po.may h
          obtain ⟨a, vs, rfl, _, h1, h2, _⟩ := rp_ref rx hs ei
          obtain ⟨w, e1, r1⟩ := rp_at h2 e
          exact .inr ⟨a, vs, i, w, rfl, ry, .of h1, e1, h.at hs w r1⟩
        | dic ks =>
          obtain ⟨d, e, h⟩ := Po.may h
          obtain ⟨a, vs, rfl, _, h1, h2, _⟩ := rp_refD rx hs ei
          obtain ⟨w, e1, r1⟩ := h2.getS e
          refine .inl ⟨a, w, rfl, ?_, h.at hs w r1⟩
          rw [show u = kV (.inl i) from ry, ← e1]
          exact DGet.k h1
        | frd ks =>
          obtain ⟨d, e, h⟩ := Po.may h
          obtain ⟨a, vs, rfl, _, h1, h2, _⟩ := rp_refF rx hs ei
          obtain ⟨w, e1, r1⟩ := h2.getS e
          refine .inl ⟨a, w, rfl, ?_, h.at hs w r1⟩
          rw [show u = kV (.inl i) from ry, ← e1]
          exact dget_rd (.inr h1)
    | str z =>
      have h : Po K μ H (match S[n]? with
        | some (Ob.dic ks) => may (gD ks (.inr z)) fun d => Res.ok d S
        | some (Ob.frd ks) => may (gD ks (.inr z)) fun d => Res.ok d S
        | _ => Res.bad) _ := h
      cases ei : S[n]? with
      | none => rw [ei] at h; exact (show False from h).elim
      | some o =>
        rw [ei] at h
        cases o with
        | lst ds => exact (show False from h).elim
        | dic ks =>
          obtain ⟨d, e, h⟩ := Po.may h
          obtain ⟨a, vs, rfl, _, h1, h2, _⟩ := rp_refD rx hs ei
          obtain ⟨w, e1, r1⟩ := h2.getS e
          refine .inl ⟨a, w, rfl, ?_, h.at hs w r1⟩
          rw [show u = kV (.inr z) from ry, ← e1]
          exact DGet.k h1
        | frd ks =>
          obtain ⟨d, e, h⟩ := Po.may h
          obtain ⟨a, vs, rfl, _, h1, h2, _⟩ := rp_refF rx hs ei
          obtain ⟨w, e1, r1⟩ := h2.getS e
          refine .inl ⟨a, w, rfl, ?_, h.at hs w r1⟩
          rw [show u = kV (.inr z) from ry, ← e1]
          exact dget_rd (.inr h1)
    | _ => exact (show False from h).elim
  | _ => exact (show False from h).elim
theorem s_augS {f : Bop} {sp : Pos} (hn : notSlice i = true) (ho : SdE p o co) (hi : SdE p i ci) (he' : SdE p e ce) : SdS p (.AugAssign (.Subscript o i sp) (bopOp f) e pos) (.augS co ci f ce) := fun X C gd hf =>
  (ps_augS (ho X C gd) (hi X C gd) (get_any (by have := gd.un; omega)) (he' X C gd) (ip_ok f X) (set_any (by have := gd.un; omega)) (fun ov iv new => aug_store hn ov iv new)).pq fun D σ H ⟨μ, ρ, S, he, hs, h⟩ => by
    unfold evS at h
    refine ⟨μ, ρ, S, he, hs, h.bind.imp fun x S1 μ1 H1 _ e1 s1 h1 v rx => ?_⟩
    refine ⟨μ1, ρ, S1, he.mono e1, s1, h1.bind.imp fun y S2 μ2 H2 _ e2 s2 h2 u ry => ?_⟩
    refine get_rp s2 (rx.mono e2) ry (h2.bind.imp fun x0 S3 μ3 H3 _ e3 s3 h3 w rw_ => ?_)
    refine ⟨μ3, ρ, S3, he.mono (e1.trans (e2.trans e3)), s3, h3.bind.imp fun z S4 μ4 H4 _ e4 s4 h4 t rt => ?_⟩
    refine aug_rp s4 (rw_.mono e4) rt (h4.bind.imp fun z2 S5 μ5 H5 _ e5 s5 h5 t2 rt2 => ?_)
    refine set_rp s5 ((((rx.mono e2).mono e3).mono e4).mono e5) (((ry.mono e3).mono e4).mono e5) rt2 (h5.bind.imp fun _ S6 μ6 H6 _ e6 s6 h6 _ => ?_)
    exact h6.at s6 σ ((he.mono (e1.trans (e2.trans (e3.trans (e4.trans e5))))).mono e6)
/-- what is never reached -/
theorem s_raise {e1 e2 : Option Expr} : SdS p (.Raise e1 e2 pos) .raise := fun X C gd hf => by
  refine ⟨fun pins s σ H D I h => ?_⟩
  obtain ⟨μ, ρ, S, he, hs, h⟩ := h
  unfold evS at h
  exact (show False from h).elim
/-- the turns of a for -/
theorem for_core {X : Cx} {C : Orc} {Dn : Ends} {still : Sto → Prop} {items : List D} {J : It} {μ1 : List Addr} {H1 : Hp} {ρ : En} {S1 : Sto} {σ : Slots} (hJ : ∀ μ H S, Ext X.K μ1 H1 μ H → StOk X.K μ H S → still S → (∀ i, i < items.length → J.go i H ∧ ∀ x H', J.yld i H x H' → H' = H ∧ ∃ d, items[i]? = some d ∧ Rp X.K μ H d x) ∧ J.stop items.length H)
    (he : EnvOk X.K μ1 H1 ρ σ) (s1 : StOk X.K μ1 H1 S1) (h1 : Po X.K μ1 H1 (loopS still (fun d ρ1 S2 => may (bindN g d ρ1 S2) fun ρ2 => evSs C css ρ2 S2) items ρ S1) fun fl _ μ' H' => flP X.K Dn fl μ' H') :
    ∃ W : Nat → Nat → L2.St → Hp → Prop, (∃ m, W 0 m σ H1) ∧ ∀ (i m : Nat) (σ : L2.St) (H : Hp), W i m σ H → J.stop i H ∧ Dn.nx σ H ∨ J.go i H ∧ ∃ N : L2.St → Hp → Prop, (∀ (σ' : L2.St) (H' : Hp), N σ' H' → ∃ m', m' < m ∧ W (i + 1) m' σ' H') ∧ ∀ (x : V) (H' : Hp), J.yld i H x H' → tN X.K g x σ H' fun σ2 H2 => tS X.K (evSs C css) { nx := N, rt := Dn.rt, bk := Dn.nx, ct := N } σ2 H2 := by
  generalize hbf : (fun d ρ1 S2 => may (bindN g d ρ1 S2) fun ρ2 => evSs C css ρ2 S2) = f at h1
  refine ⟨fun i m σ H => m = items.length - i ∧ i ≤ items.length ∧ ∃ μ ρ S, Ext X.K μ1 H1 μ H ∧ EnvOk X.K μ H ρ σ ∧ StOk X.K μ H S ∧ Po X.K μ H (loopS still f (items.drop i) ρ S) fun fl _ μ' H' => flP X.K Dn fl μ' H',
    ⟨items.length, rfl, Nat.zero_le _, μ1, ρ, S1, .refl, he, s1, h1⟩, ?_⟩
  rintro i m σ2 H2 ⟨rfl, hi, μ2, ρ2, S2, x2, he2, s2, h2⟩
  by_cases hlt : i < items.length
  · rw [List.drop_eq_getElem_cons hlt] at h2
    unfold loopS at h2
    obtain ⟨hst, h2⟩ := h2.ask
    obtain ⟨hgo, _⟩ := hJ μ2 H2 S2 x2 s2 hst
    obtain ⟨hgo, hy⟩ := hgo i hlt
    refine .inr ⟨hgo, fun σ3 H3 => ∃ μ ρ S, Ext X.K μ1 H1 μ H3 ∧ EnvOk X.K μ H3 ρ σ3 ∧ StOk X.K μ H3 S ∧ Po X.K μ H3 (loopS still f (items.drop (i + 1)) ρ S) fun fl _ μ' H' => flP X.K Dn fl μ' H',
      fun σ3 H3 q => ⟨items.length - (i + 1), by omega, rfl, hlt, q⟩, fun v H3 y => ?_⟩
    obtain ⟨rfl, d, ed, rd⟩ := hy v H3 y
    have ed' : items[i] = d := by
      rw [List.getElem?_eq_getElem hlt] at ed
      exact Option.some.inj ed
    rw [ed', ← hbf] at h2
    obtain ⟨ρ3, eb, h3⟩ := Po.may (Po.bind h2)
    refine ⟨μ2, ρ2, S2, d, ρ3, he2, s2, rd, eb, fun σ' he' _ => ⟨μ2, ρ3, S2, he', s2, h3.imp fun fl S4 μ4 H4 _ e4 s4 h4 => ?_⟩⟩
    rw [hbf] at h4
    cases fl with
    | nx ρ4 => exact fun σ4 he4 => ⟨μ4, ρ4, S4, x2.trans e4, he4, s4, h4⟩
    | ct ρ4 => exact fun σ4 he4 => ⟨μ4, ρ4, S4, x2.trans e4, he4, s4, h4⟩
    | bk ρ4 => exact h4.at s4
    | rt d => exact h4.at s4
  · have e : i = items.length := by omega
    subst e
    rw [List.drop_length] at h2
    unfold loopS at h2
    obtain ⟨hst, h2⟩ := h2.ask
    exact .inl ⟨(hJ μ2 H2 S2 x2 s2 hst).2, h2.at s2 σ2 he2⟩
theorem dcAt_some {it : CI} {ρ : En} {S : Sto} {a : Nat} {ks : List (Key × D)} (h : dcAt it ρ S = some (a, ks)) : ∃ i, it = .r (.e (.var i)) ∧ ρ[i]? = some (some (.ref a)) ∧ S[a]? = some (.dic ks) := by
  unfold dcAt at h
  split at h
  · rename_i i
    split at h
    · rename_i a' e1
      split at h
      · rename_i ks' e2
        cases h
        exact ⟨i, rfl, e1, e2⟩
      · cases h
    · cases h
  · cases h
/-- for -/
theorem s_for (hsn : notSet iter = true) (hi : SdI p tg iter ii) (hv : ∀ i, ii = .r (.e (.var i)) → SdE p iter (.var i)) (hg : SdN p tg g) (hb : SdSs p ss css) : SdS p (.For tg iter ss [] pos) (.for g ii css) := fun X C gd hf => by
  refine ⟨fun pins s σ H D I hh => ?_⟩
  obtain ⟨μ, ρ, S, he, hs, h⟩ := hh
  unfold evS at h
  cases hd : dcAt ii ρ S with
  | none =>
    rw [hd] at h
    refine (ps_for gd.own gd.calm (hi X C gd) (hg X C gd (.inl hf)) (hb X C gd hf) (fun x => no_fold hsn _ x)).run pins s σ H D I ?_
    exact ⟨μ, ρ, S, he, hs, (Po.bind h).imp fun t S1 μ1 H1 _ e1 s1 h1 J hJ => for_core (J := J) hJ (he.mono e1) s1 h1⟩
  | some q =>
    obtain ⟨a, ks⟩ := q
    rw [hd] at h
    obtain ⟨i, rfl, ei, es⟩ := dcAt_some hd
    obtain ⟨v, ev, rv⟩ := he.2 i _ ei
    obtain ⟨p, rfl, ea⟩ := rv
    obtain ⟨vs, hp, r1, r2, r3⟩ := hs.dic es ea
    refine (ps_lock (ps_for gd.own gd.calm (pi_keys (hv i rfl X C gd)) (hg X C gd (.inl hf)) (hb X C gd hf) (fun x => no_fold hsn _ x))).run pins s σ H D I ⟨p, .dK vs, hp, trivial, fun od => ?_⟩
    have ex := hs.putE (.frz od (.dK vs)) ea (nf_dK hp)
    have s1 := hs.putO (ob := .frd ks) ea (nf_dK hp) ⟨vs, ⟨od, upd_same⟩, r1.mono ex, r2, r3⟩
    generalize hH1 : upd H p (.frz od (.dK vs)) = H1 at ex s1
    have hp1 : H1 p = some (.frz od (.dK vs)) := by rw [← hH1]; exact upd_same
    -- the loop, locked
    generalize hDl : ({ nx := _, rt := _, bk := _, ct := _ } : Ends) = Dl
    have hl : Po X.K μ H1 (loopS (fun S2 => S2[a]? = some (.frd ks)) (fun d ρ1 S2 => may (bindN g d ρ1 S2) fun ρ2 => evSs C css ρ2 S2) (ks.map fun p => keyD p.1) ρ (S.set a (.frd ks))) fun fl _ μ' H' => flP X.K Dl fl μ' H' := by
      have h : Po X.K μ H ((loopS (fun S2 => S2[a]? = some (.frd ks)) (fun d ρ1 S2 => may (bindN g d ρ1 S2) fun ρ2 => evSs C css ρ2 S2) (ks.map fun p => keyD p.1) ρ (S.set a (.frd ks))).bind fun fl S3 => ask (S3[a]? = some (.frd ks)) (.ok fl (S3.set a (.dic ks)))) fun fl _ μ' H' => flP X.K D fl μ' H' := h
      cases hr : loopS (fun S2 => S2[a]? = some (.frd ks)) (fun d ρ1 S2 => may (bindN g d ρ1 S2) fun ρ2 => evSs C css ρ2 S2) (ks.map fun p => keyD p.1) ρ (S.set a (.frd ks)) with
      | exc c fs S' => rw [hr] at h; exact h
      | bad => rw [hr] at h; exact h
      | ok fl S3 =>
        rw [hr] at h
        obtain ⟨e3, h⟩ := Po.ask (show Po X.K μ H (ask (S3[a]? = some (.frd ks)) (.ok fl (S3.set a (.dic ks)))) _ from h)
        intro μ' H' e s3
        rw [← hH1] at e
        obtain ⟨hl, ee⟩ := Ext.unlock hs ea hp e
        have ea' : μ'[a]? = some p := e.get ea
        obtain ⟨vs', ⟨o', hv'⟩, t1, t2, t3⟩ := s3.frd e3 ea'
        rw [hl] at hv'
        cases hv'
        have le := frd_le (K := X.K) (μ := μ') (u := .dK vs) hl
        have st := s3.putL (u := .dK vs) (ob := .dic ks) ea' le ⟨vs, upd_same, RpK.le le ks vs t1, t2, t3⟩
        have fin := h μ' _ ee st
        have env : ∀ {ρ' : En} {σ' : Slots}, EnvOk X.K μ' H' ρ' σ' → EnvOk X.K μ' (upd H' p (.dK vs)) ρ' σ' := fun he' => ⟨he'.1, fun i d q => let ⟨v, e1, e2⟩ := he'.2 i d q; ⟨v, e1, Rp.le le d v e2⟩⟩
        rw [← hDl]
        cases fl with
        | nx ρ' => exact fun σ' he' => ⟨hl, fin σ' (env he')⟩
        | bk ρ' => exact fun σ' he' => ⟨hl, fin σ' (env he')⟩
        | ct ρ' => exact fun σ' he' => ⟨hl, fin σ' (env he')⟩
        | rt d => exact fun v rv => ⟨hl, fin v (Rp.le le d v rv)⟩
    refine ⟨μ, ρ, S.set a (.frd ks), he.mono ex, s1, ?_⟩
    have e0 : evE C (.var i) ρ (S.set a (.frd ks)) = .ok (.ref a) (S.set a (.frd ks)) := by
      unfold evE
      rw [ei]
      rfl
    rw [e0]
    intro μ1 H2 x1 s2 v rv
    obtain ⟨p', rfl, ea'⟩ := rv
    have : p' = p := by
      rw [x1.get ea] at ea'
      exact (Option.some.inj ea').symm
    subst this
    refine ⟨p', od, rfl, .inl ⟨vs, x1.frd _ _ _ hp1, ?_⟩⟩
    refine for_core (J := Itk p' od vs) (still := fun S2 => S2[a]? = some (.frd ks)) (items := ks.map fun p => keyD p.1) ?_ ((he.mono ex).mono x1) s2 (hl.later x1)
    intro μ3 H3 S3 x3 s3 st
    have hp3 : H3 p' = some (.frz od (.dK vs)) := x3.frd _ _ _ (x1.frd _ _ _ hp1)
    have hlen : (ks.map fun p => keyD p.1).length = vs.length := by rw [List.length_map]; exact r1.length
    refine ⟨fun i hi => ⟨⟨hp3, by omega⟩, fun x H' y => ?_⟩, hp3, by omega⟩
    obtain ⟨rfl, k, w, ek, rfl⟩ := y
    refine ⟨rfl, keyD k, ?_, ?_⟩
    · have := congrArg (fun l => l[i]?) r1.keysD
      simp only [List.getElem?_map, ek, Option.map_some] at this
      rw [List.getElem?_map]
      cases eks : ks[i]? with
      | none => rw [eks] at this; cases this
      | some q =>
        rw [eks] at this
        have : k = q.1 := by simpa using this
        rw [this]
        rfl
    · cases k <;> rfl
/-- while -/
theorem s_while (ht : SdT p a ct) (hb : SdSs p ss css) : SdS p (.While a ss [] pos) (.while ct css) := fun X C gd hf =>
  (ps_while gd.own (ht X C gd) (hb X C gd hf)).pq fun D σ H ⟨μ, ρ, S, he, hs, h⟩ => by
    unfold evS at h
    refine ⟨fun m σ H => ∃ μ ρ S, EnvOk X.K μ H ρ σ ∧ StOk X.K μ H S ∧ Po X.K μ H (whileS (evT C ct) (evSs C css) m ρ S) fun fl _ μ' H' => flP X.K D fl μ' H', ⟨turns, μ, ρ, S, he, hs, h⟩, ?_⟩
    rintro m σ2 H2 ⟨μ2, ρ2, S2, he2, s2, h2⟩
    cases m with
    | zero => exact h2.elim
    | succ m =>
      unfold whileS at h2
      refine ⟨μ2, ρ2, S2, he2, s2, h2.bind.imp fun k S3 μ3 H3 _ e3 s3 h3 => ?_⟩
      cases k with
      | true =>
        rw [if_pos rfl] at h3 ⊢
        refine ⟨fun σ4 H4 => ∃ μ ρ S, EnvOk X.K μ H4 ρ σ4 ∧ StOk X.K μ H4 S ∧ Po X.K μ H4 (whileS (evT C ct) (evSs C css) m ρ S) fun fl _ μ' H' => flP X.K D fl μ' H', fun σ4 H4 q => ⟨m, Nat.lt_succ_self m, q⟩, ?_⟩
        refine ⟨μ3, ρ2, S3, he2.mono e3, s3, h3.bind.imp fun fl S4 μ4 H4 _ e4 s4 h4 => ?_⟩
        cases fl with
        | nx ρ4 => exact fun σ4 he4 => ⟨μ4, ρ4, S4, he4, s4, h4⟩
        | ct ρ4 => exact fun σ4 he4 => ⟨μ4, ρ4, S4, he4, s4, h4⟩
        | bk ρ4 => exact h4.at s4
        | rt d => exact h4.at s4
      | false =>
        rw [if_neg Bool.false_ne_true] at h3 ⊢
        exact h3.at s3 σ2 (he2.mono e3)
end
end PQ

/-! From the text to the language, with the proof. -/
namespace PQ
open PySem PySem.Spec PyProof.Rows L2
section
variable {p : Pl} {a b e o i tg iter : Expr} {ca cb co ci ce : CE} {ct : CT} {ii : CI} {g : CN} {pos : Pos}
theorem no_swap2 (t : Expr) (ht : ∀ x q, t ≠ .Name x q) (l : Nat) (env : Env) : swapsWith e (some t) l env = pure false := by
  cases e <;> first | rfl | (cases t <;> first | rfl | exact absurd rfl (ht _ _))
theorem s_sub2 {sp : Pos} (hn : notSlice i = true) (ho : SdE p o co) (hi : SdE p i ci) (he' : SdE p e ce) : SdS p (.Assign [.Subscript o i sp] e pos) (.sub co ci ce) := fun X C gd hf =>
  (ps_asg (he' X C gd) (pg_sub (ho X C gd) (hi X C gd) (set_any (by have := gd.un; omega)) (fun v => sub_store hn _ v)) (by rw [show swapsWithSole [.Subscript o i sp] e pos.line X.env = swapsWith e (some (.Subscript o i sp)) pos.line X.env from by unfold swapsWithSole; rfl]; exact no_swap2 _ (fun x q z => by cases z) _ _) (by cases e <;> rfl) rfl).pq fun D σ H ⟨μ, ρ, S, he, hs, h⟩ => by
    unfold evS at h
    refine ⟨μ, ρ, S, he, hs, h.bind.imp fun d S1 μ1 H1 _ e1 s1 h1 w rd => ?_⟩
    refine ⟨μ1, ρ, S1, he.mono e1, s1, h1.bind.imp fun x S2 μ2 H2 _ e2 s2 h2 v rx => ?_⟩
    refine ⟨μ2, ρ, S2, he.mono (e1.trans e2), s2, h2.bind.imp fun y S3 μ3 H3 _ e3 s3 h3 u ry => ?_⟩
    exact set_rp s3 (rx.mono e3) ry ((rd.mono e2).mono e3) (h3.bind.imp fun _ S4 μ4 H4 _ e4 s4 h4 _ => h4.at s4 σ ((he.mono (e1.trans (e2.trans e3))).mono e4))
/-- (a, b) = .. -/
theorem s_setT {es : List Expr} {is : List Nat} {k : Nat} {q : Pos} (hg : NamesAt p es is) (ha : SdE p a ca) (hw : ∀ env : Env, env.scope = p.sc → swappedStores [.Tuple es k q] a env = pure none) : SdS p (.Assign [.Tuple es k q] a pos) (.set (.tup is) ca) := fun X C gd hf =>
  (ps_asg (ha X C gd) (sn_tup hg X C gd (.inl hf)) (by rw [show swapsWithSole [.Tuple es k q] a pos.line X.env = swapsWith a (some (.Tuple es k q)) pos.line X.env from by unfold swapsWithSole; rfl]; exact no_swap2 _ (fun x q z => by cases z) _ _) (hw _ gd.sc) rfl).pq fun D σ H h => asg_imp (by
    obtain ⟨μ, ρ, S, he, hs, h⟩ := h
    unfold evS at h
    exact ⟨μ, ρ, S, he, hs, h⟩)
/-- x = e, the stores in order -/
theorem s_setN {x : Str} {q : Pos} {j : Nat} (hx : NameAt p x j) (ha : SdE p a ca) (hsw : ∀ env : Env, env.scope = p.sc → swapsWith a (some (.Name x q)) pos.line env = pure false) : SdS p (.Assign [.Name x q] a pos) (.set (.nm j) ca) := fun X C gd hf =>
  (ps_asg (ha X C gd) (sn_nm hx X C gd (.inl hf)) (by rw [show swapsWithSole [.Name x q] a pos.line X.env = swapsWith a (some (.Name x q)) pos.line X.env from by unfold swapsWithSole; rfl]; exact hsw _ gd.sc) (by cases a <;> rfl) rfl).pq fun D σ H h => asg_imp (by
    obtain ⟨μ, ρ, S, he, hs, h⟩ := h
    unfold evS at h
    exact ⟨μ, ρ, S, he, hs, h⟩)
end
def bkS (sc : Scope) : ScopeKind := if sc.kind.isAnnotationScope then .function else sc.kind
def swB (sc : Scope) (value : Expr) (t : Str) (tl : Nat) : Bool := match value with
  | .ListComp _ _ s q => bkS sc == .function && sc.names.lookup t == some .local && tl == q.line && !(s.names.any fun (n, k) => n == t && (k == .local || k == .cell))
  | .SetComp _ _ s q => bkS sc == .function && sc.names.lookup t == some .local && tl == q.line && !(s.names.any fun (n, k) => n == t && (k == .local || k == .cell))
  | .DictComp _ _ _ s q => bkS sc == .function && sc.names.lookup t == some .local && tl == q.line && !(s.names.any fun (n, k) => n == t && (k == .local || k == .cell))
  | _ => false
theorem swB_ok {sc : Scope} {e : Expr} {t : Str} {q : Pos} {l : Nat} (h : swB sc e t q.line = false) (env : Env) (he : env.scope = sc) : swapsWith e (some (.Name t q)) l env = pure false := by
  subst he
  cases e <;> first
    | rfl
    | (show pure (env.blockKind == .function && env.kindOf t == some .local && q.line == _ && _) = _
       exact congrArg pure h)
def swpS (sc : Scope) (ts vs : List Expr) : Option (Option (List Str)) :=
  if (!(ts.length == 2 || ts.length == 3) || vs.length != ts.length || bkS sc != .function) = true then some none
  else if (vs.any fun | .Starred .. => true | _ => false) = true then some none
  else if ((ts.filterMap fun
    | .Name id pos => if (sc.names.lookup id == some .local && pos.line == (ts.head?.map (·.pos.line)).getD 0) = true then some id else none
    | _ => none).length != ts.length || (ts.filterMap fun
    | .Name id pos => if (sc.names.lookup id == some .local && pos.line == (ts.head?.map (·.pos.line)).getD 0) = true then some id else none
    | _ => none).eraseDups.length != (ts.filterMap fun
    | .Name id pos => if (sc.names.lookup id == some .local && pos.line == (ts.head?.map (·.pos.line)).getD 0) = true then some id else none
    | _ => none).length) = true then some none
  else if vs.all (foldedForSure 8) = true then some none
  else if vs.all (constantsAlone 8) = true then none
  else some (some (ts.filterMap fun
    | .Name id pos => if (sc.names.lookup id == some .local && pos.line == (ts.head?.map (·.pos.line)).getD 0) = true then some id else none
    | _ => none))
theorem swpS_ok {sc : Scope} {ts vs : List Expr} {r : Option (List Str)} {k k2 : Nat} {q q2 : Pos} (h : swpS sc ts vs = some r) (env : Env) (he : env.scope = sc) : swappedStores [.Tuple ts k q] (.Tuple vs k2 q2) env = pure r := by
  subst he
  unfold swpS at h
  unfold swappedStores
  show (if (!(ts.length == 2 || ts.length == 3) || vs.length != ts.length || env.blockKind != .function) = true then pure none else _) = _
  split at h
  · rename_i h1
    rw [if_pos (show (!(ts.length == 2 || ts.length == 3) || vs.length != ts.length || env.blockKind != .function) = true from h1)]
    exact congrArg pure (Option.some.inj h)
  · rename_i h1
    rw [if_neg (show ¬ (!(ts.length == 2 || ts.length == 3) || vs.length != ts.length || env.blockKind != .function) = true from h1)]
    show (if (vs.any fun | .Starred .. => true | _ => false) = true then pure none else _) = _
    split at h
    · rename_i h2
      rw [if_pos h2]
      exact congrArg pure (Option.some.inj h)
    · rename_i h2
      rw [if_neg h2]
      split at h
      · rename_i h3
        refine (if_pos ?_).trans (congrArg pure (Option.some.inj h))
        exact h3
      · rename_i h3
        refine (if_neg ?_).trans ?_
        · exact h3
        · split at h
          · rename_i h4
            exact (if_pos h4).trans (congrArg pure (Option.some.inj h))
          · rename_i h4
            refine (if_neg h4).trans ?_
            split at h
            · cases h
            · rename_i h5
              refine (if_neg h5).trans ?_
              exact congrArg pure (Option.some.inj h)
end PQ

/-! The compiler. -/
namespace PQ
open PySem PySem.Spec PyProof.Rows L2
/-- a name's place -/
def idxN (p : Pl) (x : Str) : Option { i : Nat // p.N[i]? = some x } := match p.N.findIdx? (· == x) with
  | some i => if h : p.N[i]? = some x then some ⟨i, h⟩ else none
  | none => none
def nameAt (p : Pl) (x : Str) : Option { i : Nat // NameAt p x i } := match idxN p x with
  | some ⟨i, h⟩ => if h1 : p.sc.names.lookup x = some .local then some ⟨i, h, .inl h1⟩ else if h2 : p.sc.names.lookup x = some .cell then some ⟨i, h, .inr h2⟩ else none
  | none => none
def namesAt (p : Pl) : (es : List Expr) → Option { is : List Nat // NamesAt p es is }
  | [] => some ⟨[], .nil⟩
  | .Name x q :: es => match nameAt p x, namesAt p es with
    | some ⟨i, h⟩, some ⟨is, hs⟩ => some ⟨i :: is, .cons h hs⟩
    | _, _ => none
  | _ => none
def cN (p : Pl) : (tg : Expr) → Option { g : CN // SdN p tg g }
  | .Name x q => match nameAt p x with
    | some ⟨i, h⟩ => some ⟨_, sn_nm h⟩
    | none => none
  | .Tuple es k q => match namesAt p es with
    | some ⟨is, h⟩ => some ⟨_, sn_tup h⟩
    | none => none
  | _ => none
/-- a built-in's name here -/
def isB_ (p : Pl) (x : Str) : Option (PLift (x ∈ p.B ∧ p.sc.names.lookup x = some .globalImplicit)) := if h : x ∈ p.B ∧ p.sc.names.lookup x = some .globalImplicit then some ⟨h⟩ else none
/-- a def's name here -/
def isF_ (p : Pl) (x : Str) : Option { i : Nat // p.T[i]? = some x ∧ p.sc.names.lookup x = some .globalImplicit ∧ (x == ("__debug__" : Str)) = false } := match p.T.findIdx? (· == x) with
  | some i => if h : p.T[i]? = some x ∧ p.sc.names.lookup x = some .globalImplicit ∧ (x == ("__debug__" : Str)) = false then some ⟨i, h⟩ else none
  | none => none
def copOf : (op : CmpOp) → Option { o : Cop // copOp o = op }
  | .Eq => some ⟨.eq, rfl⟩
  | .NotEq => some ⟨.ne, rfl⟩
  | .Lt => some ⟨.lt, rfl⟩
  | .LtE => some ⟨.le, rfl⟩
  | .Gt => some ⟨.gt, rfl⟩
  | .GtE => some ⟨.ge, rfl⟩
  | _ => none
def bopOf : (op : Operator) → Option { o : Bop // bopOp o = op }
  | .Add => some ⟨.add, rfl⟩
  | .Sub => some ⟨.sub, rfl⟩
  | _ => none
/-- a list by its look -/
def looksList : Nat → Expr → Bool
  | _, .List .. => true
  | _, .ListComp .. => true
  | _, .Call (.Name f _) _ _ _ => f == ("list" : Str) || f == ("sorted" : Str)
  | n + 1, .BinOp a .Add b _ => looksList n a || looksList n b
  | _, .Subscript _ (.Slice none none (some _) _) _ => true
  | _, _ => false
def ownOf (p : Pl) (scope : Scope) : List (Str × Nat) := scope.names.filterMap fun (x, k) => match k with
  | .local => (p.N.findIdx? (· == x)).map fun i => (x, i)
  | .cell => (p.N.findIdx? (· == x)).map fun i => (x, i)
  | _ => none
def glbIn (x : Str) : (l : List (Str × Gv)) → Option { g : Gv // (x, g) ∈ l }
  | [] => none
  | (y, g) :: r => if h : y = x then some ⟨g, by subst h; exact List.mem_cons_self⟩ else (match glbIn x r with
    | some ⟨g, h⟩ => some ⟨g, List.mem_cons_of_mem _ h⟩
    | none => none)
abbrev GlbOk (p : Pl) (x : Str) : Prop := p.sc.names.lookup x = some .globalImplicit ∧ (x == ("__debug__" : Str)) = false
abbrev VisOk (p : Pl) (x : Str) : Prop := (p.sc.names.lookup x = some .local ∨ p.sc.names.lookup x = some .cell ∨ p.sc.names.lookup x = some .free) ∧ (x == ("__debug__" : Str)) = false ∧ (x == ("__classdict__" : Str)) = false
mutual
def cE : Nat → (p : Pl) → (e : Expr) → Option { c : CE // SdE p e c }
  | 0, _, _ => none
  | n + 1, p, e => match cQ n p e with
    | some ⟨q, h⟩ => some ⟨_, sd_alloc h⟩
    | none => match e with
      | .Name x q => match idxN p x with
        | some ⟨i, h⟩ => if h2 : VisOk p x then some ⟨_, sd_var h h2.1 h2.2.1 h2.2.2⟩ else none
        | none => (match glbIn x p.G with
          | some ⟨.con d, h⟩ => if h2 : GlbOk p x then some ⟨_, sd_con h h2.1 h2.2⟩ else none
          | _ => none)
      | .Constant (.int i) j q => some ⟨.lit (.int i), sd_int⟩
      | .Constant (.str i) j q => some ⟨.lit (.str i), sd_str⟩
      | .Constant (.bool i) j q => some ⟨.lit (.bl i), sd_bl⟩
      | .Constant .none j q => some ⟨.lit .non, sd_non⟩
      | .Tuple es k q => match cA n p es with
        | some ⟨c, h⟩ => some ⟨_, sd_tup h⟩
        | none => none
      | .BinOp a op b q => match cE n p a, cE n p b with
        | some ⟨ca, ha⟩, some ⟨cb, hb⟩ => (match op with
          | .Add => some ⟨_, sd_add ha hb⟩
          | .Sub => some ⟨_, sd_sub ha hb⟩
          | .Mult => some ⟨_, sd_mul ha hb⟩
          | .FloorDiv => some ⟨_, sd_fdiv ha hb⟩
          | .Mod => some ⟨_, sd_mod ha hb⟩
          | .Pow => some ⟨_, sd_pow ha hb⟩
          | .LShift => some ⟨_, sd_shl ha hb⟩
          | .RShift => some ⟨_, sd_shr ha hb⟩
          | .BitAnd => some ⟨_, sd_band ha hb⟩
          | .BitOr => some ⟨_, sd_bor ha hb⟩
          | .BitXor => some ⟨_, sd_bxor ha hb⟩
          | _ => none)
        | _, _ => none
      | .UnaryOp .USub a q => match cE n p a with
        | some ⟨ca, ha⟩ => some ⟨_, sd_neg ha⟩
        | none => none
      | .UnaryOp .Not a q => match cE n p a with
        | some ⟨ca, ha⟩ => some ⟨_, sd_not ha⟩
        | none => none
      | .BoolOp op [a] q => match cE n p a with
        | some ⟨ca, ha⟩ => some ⟨ca, sd_one ha⟩
        | none => none
      | .BoolOp .And (a :: b :: r) q => match cE n p a, cE n p (.BoolOp .And (b :: r) q) with
        | some ⟨ca, ha⟩, some ⟨cb, hb⟩ => some ⟨_, sd_and ha hb⟩
        | _, _ => none
      | .BoolOp .Or (a :: b :: r) q => match cE n p a, cE n p (.BoolOp .Or (b :: r) q) with
        | some ⟨ca, ha⟩, some ⟨cb, hb⟩ => some ⟨_, sd_or ha hb⟩
        | _, _ => none
      | .IfExp t a b q => match cT n p t, cE n p a, cE n p b with
        | some ⟨ct, ht⟩, some ⟨ca, ha⟩, some ⟨cb, hb⟩ => some ⟨_, sd_ife ht ha hb⟩
        | _, _, _ => none
      | .Compare a ops bs q => match cC n p (.Compare a ops bs q) with
        | some ⟨c, h⟩ => some ⟨c, h.1.val⟩
        | none => none
      | .Subscript a (.Slice lo hi none p2) q => match cE n p a, cO n p lo, cO n p hi with
        | some ⟨ca, ha⟩, some ⟨cl, hl⟩, some ⟨ch, hh⟩ => some ⟨_, sd_slc ha hl hh⟩
        | _, _, _ => none
      | .Subscript a b q => if hn : notSlice b = true then (match cE n p a, cE n p b with
        | some ⟨ca, ha⟩, some ⟨cb, hb⟩ => some ⟨_, sd_idx hn ha hb⟩
        | _, _ => none) else none
      | .Dict [] [] q => some ⟨_, sd_dnew⟩
      | .Call (.Attribute a m ap) [k, x] [] q => if hc : m = "get" ∧ notCall a = true ∧ (ap.endLine == q.line) = true ∧ notStar k = true ∧ notStar x = true then (match cE n p a, cE n p k, cE n p x with
        | some ⟨ca, ha⟩, some ⟨ck, hk⟩, some ⟨cx, hx⟩ => some ⟨.dget ca ck cx, by
          obtain ⟨h1, h2, h3, h4, h5⟩ := hc
          subst h1
          exact sd_dget h2 h3 h4 h5 ha hk hx⟩
        | _, _, _ => none)
        else if hc : m = "insert" ∧ notCall a = true ∧ (ap.endLine == q.line) = true ∧ notStar k = true ∧ notStar x = true then (match cE n p a, cE n p k, cE n p x with
        | some ⟨ca, ha⟩, some ⟨ck, hk⟩, some ⟨cx, hx⟩ => some ⟨.ins ca ck cx, by
          obtain ⟨h1, h2, h3, h4, h5⟩ := hc
          subst h1
          exact sd_ins h2 h3 h4 h5 ha hk hx⟩
        | _, _, _ => none) else none
      | .Call (.Attribute a m ap) [] [] q => if hc : notCall a = true ∧ (ap.endLine == q.line) = true then (match cE n p a with
        | some ⟨ca, ha⟩ => if h : m = "pop" then some ⟨.pop ca, by subst h; exact sd_pop hc.1 hc.2 ha⟩ else none
        | none => none) else none
      | .Call (.Attribute (.Constant (.str s) j cp) m ap) [e] [] q => if hc : m = "join" ∧ (ap.endLine == q.line) = true ∧ notStar e = true then (match cR n p e with
        | some ⟨cr, hr⟩ => some ⟨.join s cr, by
          obtain ⟨h1, h2, h3⟩ := hc
          subst h1
          exact sd_join h2 h3 hr⟩
        | none => none) else none
      | .Call (.Attribute a m ap) [e] [] q => if hc : notCall a = true ∧ (ap.endLine == q.line) = true ∧ notStar e = true then (match cE n p a with
        | some ⟨ca, ha⟩ =>
          if h : m = "extend" then (match cR n p e with
            | some ⟨cr, hr⟩ => some ⟨.ext ca cr, by subst h; exact sd_ext hc.1 hc.2.1 hc.2.2 ha hr⟩
            | none => none)
          else (match cE n p e with
            | some ⟨ce, he⟩ =>
              if h : m = "append" then some ⟨.app ca ce, by subst h; exact sd_app hc.1 hc.2.1 hc.2.2 ha he⟩
              else if h : m = "pop" then some ⟨.popAt ca ce, by subst h; exact sd_popAt hc.1 hc.2.1 hc.2.2 ha he⟩
              else if h : m = "get" then some ⟨.dget ca ce (.lit .non), by subst h; exact sd_dget1 hc.1 hc.2.1 hc.2.2 ha he⟩
              else if h : m = "index" then some ⟨.tix ca ce, by subst h; exact sd_tix hc.1 hc.2.1 hc.2.2 ha he⟩
              else none
            | none => none)
        | none => none) else none
      | .Call (.Name f q2) es [] q => match isF_ p f with
        | some ⟨i, hf⟩ => (match es with
          | [] => some ⟨_, sd_call0 hf.1 hf.2.1 hf.2.2⟩
          | e :: es => if hs : notStar e = true ∧ es.all notStar = true then (match cA n p (e :: es) with
            | some ⟨c, h⟩ => some ⟨_, sd_call hf.1 hf.2.1 hf.2.2 hs.1 hs.2 h⟩
            | none => none) else none)
        | none => match isB_ p f with
          | some ⟨hb⟩ => (match es with
            | [.Call (.Name f2 q3) es2 [] q4] => (match isB_ p f2 with
              | some ⟨hb2⟩ => if h : f = "tuple" ∧ f2 = "range" then (match es2 with
                  | [a] => if hs : notStar a = true then (match cE n p a with
                    | some ⟨ca, ha⟩ => some ⟨.agg .tuple (.q (.listRg (.lit (.int 0)) ca)), by obtain ⟨h1, h2⟩ := h; subst h1 h2; exact sd_tupRg1 hb.1 hb.2 hb2.1 hb2.2 hs ha⟩
                    | none => none) else none
                  | [a, b] => if hs : notStar a = true ∧ notStar b = true then (match cE n p a, cE n p b with
                    | some ⟨ca, ha⟩, some ⟨cb, hb'⟩ => some ⟨.agg .tuple (.q (.listRg ca cb)), by obtain ⟨h1, h2⟩ := h; subst h1 h2; exact sd_tupRg2 hb.1 hb.2 hb2.1 hb2.2 hs.1 hs.2 ha hb'⟩
                    | _, _ => none) else none
                  | _ => none) else cBI n p f hb (.Call (.Name f2 q3) es2 [] q4) q2 q
              | none => cBI n p f hb (.Call (.Name f2 q3) es2 [] q4) q2 q)
            | [e] => cBI n p f hb e q2 q
            | [a, b] => if hs : notStar a = true ∧ notStar b = true then
                (if h : f = "isinstance" then (match b with
                  | .Name T q3 => (match isB_ p T, cE n p a with
                    | some ⟨hT⟩, some ⟨ca, ha⟩ =>
                      if h2 : T = "int" then some ⟨.isi ca .int, by subst h h2; exact sd_isi (t := .int) hb.1 hb.2 hT.1 hT.2 (by decide +kernel) (by decide) (by decide) hs.1 ha⟩
                      else if h2 : T = "bool" then some ⟨.isi ca .bool, by subst h h2; exact sd_isi (t := .bool) hb.1 hb.2 hT.1 hT.2 (by decide +kernel) (by decide) (by decide) hs.1 ha⟩
                      else if h2 : T = "str" then some ⟨.isi ca .str, by subst h h2; exact sd_isi (t := .str) hb.1 hb.2 hT.1 hT.2 (by decide +kernel) (by decide) (by decide) hs.1 ha⟩
                      else if h2 : T = "tuple" then some ⟨.isi ca .tuple, by subst h h2; exact sd_isi (t := .tuple) hb.1 hb.2 hT.1 hT.2 (by decide +kernel) (by decide) (by decide) hs.1 ha⟩
                      else none
                    | _, _ => none)
                  | _ => none)
                else (match cE n p a, cE n p b with
                  | some ⟨ca, ha⟩, some ⟨cb, hb'⟩ =>
                    if h : f = "min" then some ⟨.fn2 .min ca cb, by subst h; exact sd_min2 hb.1 hb.2 hs.1 hs.2 ha hb'⟩
                    else if h : f = "max" then some ⟨.fn2 .max ca cb, by subst h; exact sd_max2 hb.1 hb.2 hs.1 hs.2 ha hb'⟩
                    else none
                  | _, _ => none)) else none
            | _ => none)
          | none => (match es with
            | [a, b] => (match glbIn f p.G with
              | some ⟨.fn id, hm⟩ => if hs : (notStar a = true ∧ notStar b = true) ∧ GlbOk p f then (if h : id = "math.gcd" then (match cE n p a, cE n p b with
                | some ⟨ca, ha⟩, some ⟨cb, hb'⟩ => some ⟨.fn2 .gcd ca cb, by subst h; exact sd_gcd hm hs.2.1 hs.2.2 hs.1.1 hs.1.2 ha hb'⟩
                | _, _ => none) else none) else none
              | _ => none)
            | _ => none)
      | _ => none
/-- a built-in of one argument -/
def cBI : Nat → (p : Pl) → (f : Str) → (hb : f ∈ p.B ∧ p.sc.names.lookup f = some .globalImplicit) → (e : Expr) → (q2 q : Pos) → Option { c : CE // SdE p (.Call (.Name f q2) [e] [] q) c }
  | 0, _, _, _, _, _, _ => none
  | n + 1, p, f, hb, e, q2, q => if hs : notStar e = true then
                (if h : f = "int" then (match cE n p e with
                  | some ⟨c, hc⟩ => some ⟨.fn1 .int c, by subst h; exact sd_intT hb.1 hb.2 hs hc⟩
                  | none => none)
                else if h : f = "abs" then (match cE n p e with
                  | some ⟨c, hc⟩ => some ⟨.fn1 .abs c, by subst h; exact sd_abs hb.1 hb.2 hs hc⟩
                  | none => none)
                else if h : f = "str" then (match cE n p e with
                  | some ⟨c, hc⟩ => some ⟨.fn1 .str c, by subst h; exact sd_strT hb.1 hb.2 hs hc⟩
                  | none => none)
                else if h : f = "repr" then (match cE n p e with
                  | some ⟨c, hc⟩ => some ⟨.fn1 .repr c, by subst h; exact sd_repr hb.1 hb.2 hs hc⟩
                  | none => none)
                else (match cR n p e with
                  | some ⟨c, hc⟩ =>
                    if h : f = "len" then some ⟨.agg .len c, by subst h; exact sd_len hb.1 hb.2 hs hc⟩
                    else if h : f = "tuple" then some ⟨.agg .tuple c, by subst h; exact sd_tuple hb.1 hb.2 hs hc⟩
                    else if h : f = "sum" then some ⟨.agg .sum c, by subst h; exact sd_sum hb.1 hb.2 hs hc⟩
                    else if h : f = "all" then some ⟨.agg .all c, by subst h; exact sd_all hb.1 hb.2 hs hc⟩
                    else if h : f = "any" then some ⟨.agg .any c, by subst h; exact sd_any hb.1 hb.2 hs hc⟩
                    else if h : f = "max" then some ⟨.agg .max c, by subst h; exact sd_max hb.1 hb.2 hs hc⟩
                    else if h : f = "min" then some ⟨.agg .min c, by subst h; exact sd_min hb.1 hb.2 hs hc⟩
                    else none
                  | none => none)) else none
def cO : Nat → (p : Pl) → (e : Option Expr) → Option { c : CO // SdO p e c }
  | 0, _, _ => none
  | n + 1, p, none => some ⟨.none, so_none⟩
  | n + 1, p, some e => match cE n p e with
    | some ⟨c, h⟩ => some ⟨_, so_some h⟩
    | none => none
def cA : Nat → (p : Pl) → (es : List Expr) → Option { c : CEs // SdA p es c }
  | 0, _, _ => none
  | n + 1, p, [] => some ⟨.nil, sa_nil⟩
  | n + 1, p, e :: es => if hs : notStar e = true then (match cE n p e, cA n p es with
    | some ⟨c, h⟩, some ⟨cs, hs'⟩ => some ⟨_, sa_cons h hs' (fun env => star_cons hs es env)⟩
    | _, _ => none) else none
def cR : Nat → (p : Pl) → (e : Expr) → Option { c : CR // SdR p e c }
  | 0, _, _ => none
  | n + 1, p, e => match cQ n p e with
    | some ⟨q, h⟩ => some ⟨_, sr_q h⟩
    | none => match cE n p e with
      | some ⟨c, h⟩ => some ⟨_, sr_e h⟩
      | none => none
def cQ : Nat → (p : Pl) → (e : Expr) → Option { c : CQ // SdQ p e c }
  | 0, _, _ => none
  | n + 1, p, e => match e with
    | .List es q => match cA n p es with
      | some ⟨c, h⟩ => some ⟨_, sq_disp h⟩
      | none => none
    | .ListComp elt [⟨tg, iter, [], 0⟩] scope q =>
      if hs : blkC p.N p.sc scope (ownOf p scope) = true ∧ notSet iter = true then (match cI n p tg iter, cN (p.within scope) tg, cE n (p.within scope) elt with
        | some ⟨ii, hi⟩, some ⟨g, hg⟩, some ⟨ce, he⟩ => if h : storeB p scope g = true ∧ inOwn (ownOf p scope) g = true then some ⟨_, sq_comp hi hs.1 hg h.1 h.2 he hs.2⟩ else none
        | _, _, _ => none) else none
    | .ListComp elt [⟨tg, iter, [c], 0⟩] scope q =>
      if hs : blkC p.N p.sc scope (ownOf p scope) = true ∧ notSet iter = true then (match cI n p tg iter, cN (p.within scope) tg, cE n (p.within scope) elt, cT n (p.within scope) c with
        | some ⟨ii, hi⟩, some ⟨g, hg⟩, some ⟨ce, he⟩, some ⟨ct, ht⟩ => if h : storeB p scope g = true ∧ inOwn (ownOf p scope) g = true then some ⟨_, sq_compIf hi hs.1 hg h.1 h.2 he hs.2 ht⟩ else none
        | _, _, _, _ => none) else none
    | .BinOp a .Add b q => if looksList 20 a || looksList 20 b then (match cR n p a, cR n p b with
      | some ⟨ca, ha⟩, some ⟨cb, hb⟩ => some ⟨_, sq_cat ha hb⟩
      | _, _ => none) else none
    | .Subscript a (.Slice none none (some (.UnaryOp .USub (.Constant (.int 1) k p1) p2)) p3) q => match cR n p a with
      | some ⟨ca, ha⟩ => some ⟨_, sq_rev ha⟩
      | none => none
    | .Call (.Name f q2) [.Call (.Name f2 q3) es2 [] q4] [] q => match isB_ p f, isB_ p f2 with
      | some ⟨hb⟩, some ⟨hb2⟩ => if h : f = "list" ∧ f2 = "range" then (match es2 with
          | [a] => if hs : notStar a = true then (match cE n p a with
            | some ⟨ca, ha⟩ => some ⟨.listRg (.lit (.int 0)) ca, by obtain ⟨h1, h2⟩ := h; subst h1 h2; exact sq_listRg1 hb.1 hb.2 hb2.1 hb2.2 hs ha⟩
            | none => none) else none
          | [a, b] => if hs : notStar a = true ∧ notStar b = true then (match cE n p a, cE n p b with
            | some ⟨ca, ha⟩, some ⟨cb, hb'⟩ => some ⟨.listRg ca cb, by obtain ⟨h1, h2⟩ := h; subst h1 h2; exact sq_listRg2 hb.1 hb.2 hb2.1 hb2.2 hs.1 hs.2 ha hb'⟩
            | _, _ => none) else none
          | _ => none)
        else if hf : f = "list" ∨ f = "sorted" then (match cR n p (.Call (.Name f2 q3) es2 [] q4) with
          | some ⟨c, hc⟩ =>
            if h : f = "list" then some ⟨.list c, by subst h; exact sq_list hb.1 hb.2 rfl hc⟩
            else if h : f = "sorted" then some ⟨.sorted c, by subst h; exact sq_sorted hb.1 hb.2 rfl hc⟩
            else none
          | none => none) else none
      | some ⟨hb⟩, none => if hf : f = "list" ∨ f = "sorted" then (match cR n p (.Call (.Name f2 q3) es2 [] q4) with
          | some ⟨c, hc⟩ =>
            if h : f = "list" then some ⟨.list c, by subst h; exact sq_list hb.1 hb.2 rfl hc⟩
            else if h : f = "sorted" then some ⟨.sorted c, by subst h; exact sq_sorted hb.1 hb.2 rfl hc⟩
            else none
          | none => none) else none
      | _, _ => none
    | .Call (.Name f q2) [e] [] q => match isB_ p f with
      | some ⟨hb⟩ => if hs : notStar e = true ∧ (f = "list" ∨ f = "sorted") then (match cR n p e with
          | some ⟨c, hc⟩ =>
            if h : f = "list" then some ⟨.list c, by subst h; exact sq_list hb.1 hb.2 hs.1 hc⟩
            else if h : f = "sorted" then some ⟨.sorted c, by subst h; exact sq_sorted hb.1 hb.2 hs.1 hc⟩
            else none
          | none => none) else none
      | none => none
    | _ => none
def cI : Nat → (p : Pl) → (tg e : Expr) → Option { c : CI // SdI p tg e c }
  | 0, _, _, _ => none
  | n + 1, p, tg, e => match e with
    | .Call (.Name f q) [a] [] pos => (match isB_ p f with
      | some ⟨hb⟩ => if h : f = "range" ∧ notStar a = true then (match cE n p a with
          | some ⟨ca, ha⟩ => some ⟨.rg (.lit (.int 0)) ca, by obtain ⟨h1, h2⟩ := h; subst h1; exact si_rg1 (pos2 := pos) hb.1 hb.2 h2 ha⟩
          | none => none)
        else (match cR n p (.Call (.Name f q) [a] [] pos) with
          | some ⟨c, h⟩ => some ⟨_, si_r h⟩
          | none => none)
      | none => (match cR n p (.Call (.Name f q) [a] [] pos) with
          | some ⟨c, h⟩ => some ⟨_, si_r h⟩
          | none => none))
    | .Call (.Name f q) [a, b, .UnaryOp .USub (.Constant (.int 1) _ p1) p2] [] pos => (match isB_ p f with
      | some ⟨hb⟩ => if h : f = "range" ∧ notStar a = true ∧ notStar b = true then (match cE n p a, cE n p b with
          | some ⟨ca, ha⟩, some ⟨cb, hb'⟩ => some ⟨.rgd ca cb, by obtain ⟨h1, h2, h3⟩ := h; subst h1; exact si_rgd (pos2 := pos) hb.1 hb.2 h2 h3 ha hb'⟩
          | _, _ => none)
        else none
      | none => (match cR n p (.Call (.Name f q) [a, b, .UnaryOp .USub (.Constant (.int 1) _ p1) p2] [] pos) with
          | some ⟨c, h⟩ => some ⟨_, si_r h⟩
          | none => none))
    | .Call (.Name f q) [a, b] [] pos => (match isB_ p f with
      | some ⟨hb⟩ => if h : f = "range" ∧ notStar a = true ∧ notStar b = true then (match cE n p a, cE n p b with
          | some ⟨ca, ha⟩, some ⟨cb, hb'⟩ => some ⟨.rg ca cb, by obtain ⟨h1, h2, h3⟩ := h; subst h1; exact si_rg2 (pos2 := pos) hb.1 hb.2 h2 h3 ha hb'⟩
          | _, _ => none)
        else (match cR n p (.Call (.Name f q) [a, b] [] pos) with
          | some ⟨c, h⟩ => some ⟨_, si_r h⟩
          | none => none)
      | none => (match cR n p (.Call (.Name f q) [a, b] [] pos) with
          | some ⟨c, h⟩ => some ⟨_, si_r h⟩
          | none => none))
    | e => (match cR n p e with
      | some ⟨c, h⟩ => some ⟨_, si_r h⟩
      | none => none)
def cC : Nat → (p : Pl) → (e : Expr) → Option { c : CE // SdC p e c ∧ ∀ C ρ S d S', evE C c ρ S = .ok d S' → isB d = true }
  | 0, _, _ => none
  | n + 1, p, e => match e with
    | .Compare a [.Is] [.Constant .none j q2] q => (match cE n p a with
      | some ⟨ca, ha⟩ => some ⟨_, sc_isN ha, b_isN⟩
      | none => none)
    | .Compare a [.IsNot] [.Constant .none j q2] q => (match cE n p a with
      | some ⟨ca, ha⟩ => some ⟨_, sc_notN ha, b_notN⟩
      | none => none)
    | .Compare a [.In] [b] q => if hm : behindInMarks .In b = false then (match cE n p a, cR n p b with
      | some ⟨ca, ha⟩, some ⟨cb, hb⟩ => some ⟨_, sc_in hm ha hb, b_in⟩
      | _, _ => none) else none
    | .Compare a [.NotIn] [b] q => if hm : behindInMarks .NotIn b = false then (match cE n p a, cR n p b with
      | some ⟨ca, ha⟩, some ⟨cb, hb⟩ => some ⟨_, sc_notIn hm ha hb, b_notIn⟩
      | _, _ => none) else none
    | .Compare a [op] [b] q => (match copOf op, cE n p a, cE n p b with
      | some ⟨o, ho⟩, some ⟨ca, ha⟩, some ⟨cb, hb⟩ => some ⟨.cmp o ca cb, by subst ho; exact sc_cmp o ha hb, b_cmp⟩
      | _, _, _ => none)
    | .Compare a [op, op2] [b, c] q => (match copOf op, copOf op2, cE n p a, cE n p b, cE n p c with
      | some ⟨o, ho⟩, some ⟨o2, ho2⟩, some ⟨ca, ha⟩, some ⟨cb, hb⟩, some ⟨cc, hc⟩ => if hm : lastMarks [op, op2] [b, c] = false then some ⟨.chn o o2 ca cb cc, by subst ho ho2; exact sc_chn o o2 hm ha hb hc, b_chn⟩ else none
      | _, _, _, _, _ => none)
    | _ => none
def cT : Nat → (p : Pl) → (e : Expr) → Option { c : CT // SdT p e c }
  | 0, _, _ => none
  | n + 1, p, e => match e with
    | .UnaryOp .Not a q => (match cT n p a with
      | some ⟨c, h⟩ => some ⟨_, st_not h⟩
      | none => none)
    | .BoolOp op vs q => (match cW n p (.BoolOp op vs q) with
      | some ⟨c, h⟩ => some ⟨c, st_w h⟩
      | none => none)
    | .Compare a ops bs q => (match cC n p (.Compare a ops bs q) with
      | some ⟨c, h⟩ => some ⟨.v c, h.1.test h.2⟩
      | none => none)
    | e => if hp : plainTest e = true then (match cE n p e with
      | some ⟨c, h⟩ => some ⟨_, st_plain hp h⟩
      | none => none) else none
def cW : Nat → (p : Pl) → (e : Expr) → Option { c : CT // SdW p e c }
  | 0, _, _ => none
  | n + 1, p, e => match e with
    | .BoolOp .And [a] q => (match cT n p a with
      | some ⟨c, h⟩ => some ⟨c, sw_and1 h⟩
      | none => none)
    | .BoolOp .Or [a] q => (match cT n p a with
      | some ⟨c, h⟩ => some ⟨c, sw_or1 h⟩
      | none => none)
    | .BoolOp .And (a :: b :: r) q => (match cT n p a, cW n p (.BoolOp .And (b :: r) q) with
      | some ⟨ca, ha⟩, some ⟨cb, hb⟩ => some ⟨_, sw_and ha hb⟩
      | _, _ => none)
    | .BoolOp .Or (a :: b :: r) q => (match cT n p a, cW n p (.BoolOp .Or (b :: r) q) with
      | some ⟨ca, ha⟩, some ⟨cb, hb⟩ => some ⟨_, sw_or ha hb⟩
      | _, _ => none)
    | _ => none
end
end PQ

/-! The compiler of statements; whole defs. -/
namespace PQ
open PySem PySem.Spec PyProof.Rows L2
/-- a loop over a name: the name's own meaning -/
def varOf (m : Nat) (p : Pl) (e : Expr) : (ii : CI) → Option (PLift (∀ i, ii = .r (.e (.var i)) → SdE p e (.var i)))
  | .r (.e (.var j)) => match cE m p e with
    | some ⟨.var i, h⟩ => if q : i = j then some ⟨fun k z => by
        have : j = k := by injection z with z; injection z with z; injection z
        rw [← this, ← q]; exact h⟩ else none
    | _ => none
  | .r (.e (.lit _)) => some ⟨fun _ z => by injection z with z; injection z with z; cases z⟩
  | .r (.e (.call _ _)) => some ⟨fun _ z => by injection z with z; injection z with z; cases z⟩
  | .r (.e (.idx _ _)) => some ⟨fun _ z => by injection z with z; injection z with z; cases z⟩
  | .r (.e (.slc _ _ _)) => some ⟨fun _ z => by injection z with z; injection z with z; cases z⟩
  | .r (.e (.tup _)) => some ⟨fun _ z => by injection z with z; injection z with z; cases z⟩
  | .r (.e (.alloc _)) => some ⟨fun _ z => by injection z with z; injection z with z; cases z⟩
  | .r (.e (.agg _ _)) => some ⟨fun _ z => by injection z with z; injection z with z; cases z⟩
  | .r (.e (.bin _ _ _)) => some ⟨fun _ z => by injection z with z; injection z with z; cases z⟩
  | .r (.e (.ife _ _ _)) => some ⟨fun _ z => by injection z with z; injection z with z; cases z⟩
  | .r (.q _) => some ⟨fun _ z => by injection z with z; cases z⟩
  | .rg _ _ => some ⟨fun _ z => by cases z⟩
  | .rgd _ _ => some ⟨fun _ z => by cases z⟩
  | _ => none
/-- a comprehension's parts -/
def asgLc0 (m : Nat) (p : Pl) (x : Str) (q2 : Pos) (q : Pos) (elt tg iter : Expr) (scope : Scope) (q3 : Pos) : Option { c : CS // SdS p (.Assign [.Name x q2] (.ListComp elt [⟨tg, iter, [], 0⟩] scope q3) q) c } :=
  if hs : blkC p.N p.sc scope (ownOf p scope) = true ∧ notSet iter = true ∧ p.sc.names.lookup x = some .local ∧ swapB p.sc x scope q2.line q3.line = true then (match idxN p x, cI m p tg iter, cN (p.within scope) tg, cE m (p.within scope) elt with
    | some ⟨j, hj⟩, some ⟨ii, hi⟩, some ⟨g, hg⟩, some ⟨ce, he⟩ => if h : storeB p scope g = true ∧ inOwn (ownOf p scope) g = true then some ⟨_, s_setLc hj hs.2.2.1 hs.2.2.2 hi hs.1 hg h.1 h.2 he hs.2.1⟩ else none
    | _, _, _, _ => none) else none
def asgLc1 (m : Nat) (p : Pl) (x : Str) (q2 : Pos) (q : Pos) (elt tg iter c : Expr) (scope : Scope) (q3 : Pos) : Option { r : CS // SdS p (.Assign [.Name x q2] (.ListComp elt [⟨tg, iter, [c], 0⟩] scope q3) q) r } :=
  if hs : blkC p.N p.sc scope (ownOf p scope) = true ∧ notSet iter = true ∧ p.sc.names.lookup x = some .local ∧ swapB p.sc x scope q2.line q3.line = true then (match idxN p x, cI m p tg iter, cN (p.within scope) tg, cE m (p.within scope) elt, cT m (p.within scope) c with
    | some ⟨j, hj⟩, some ⟨ii, hi⟩, some ⟨g, hg⟩, some ⟨ce, he⟩, some ⟨ct, ht⟩ => if h : storeB p scope g = true ∧ inOwn (ownOf p scope) g = true then some ⟨_, s_setLcIf hj hs.2.2.1 hs.2.2.2 hi hs.1 hg h.1 h.2 he hs.2.1 ht⟩ else none
    | _, _, _, _, _ => none) else none
def asgGs (m : Nat) (p : Pl) (x : Str) (q2 : Pos) (q : Pos) (elt : Expr) (scope : Scope) (q3 : Pos) : (gs : List Comprehension) → Option { c : CS // SdS p (.Assign [.Name x q2] (.ListComp elt gs scope q3) q) c }
  | [⟨tg, iter, ifs, a⟩] => if ha : a = 0 then (match ifs with
      | [] => by subst ha; exact asgLc0 m p x q2 q elt tg iter scope q3
      | [c] => by subst ha; exact asgLc1 m p x q2 q elt tg iter c scope q3
      | _ => none) else none
  | _ => none
def asgName (m : Nat) (p : Pl) (x : Str) (q2 : Pos) (e : Expr) (q : Pos) : Option { c : CS // SdS p (.Assign [.Name x q2] e q) c } :=
  if hsw : swB p.sc e x q2.line = false then (match nameAt p x, cE m p e with
    | some ⟨j, hj⟩, some ⟨c, h⟩ => some ⟨_, s_setN hj h (fun env he => swB_ok hsw env he)⟩
    | _, _ => none)
  else (match e with
    | .ListComp elt gs scope q3 => asgGs m p x q2 q elt scope q3 gs
    | _ => none)
def nm? : (e : Expr) → Option { x : Str × Pos // e = .Name x.1 x.2 }
  | .Name x q => some ⟨(x, q), rfl⟩
  | _ => none
def asgPar (m : Nat) (p : Pl) (q q2 q3 : Pos) (k k2 : Nat) (e1 e2 a b : Expr) : Option { c : CS // SdS p (.Assign [.Tuple [e1, e2] k q2] (.Tuple [a, b] k2 q3) q) c } := match nm? e1, nm? e2 with
  | some ⟨x, hx⟩, some ⟨y, hy⟩ => (match idxN p x.1, idxN p y.1, cE m p a, cE m p b with
    | some ⟨j, hj⟩, some ⟨k', hk⟩, some ⟨ca, ha⟩, some ⟨cb, hb⟩ => if h : j ≠ k' ∧ p.sc.names.lookup x.1 = some .local ∧ p.sc.names.lookup y.1 = some .local ∧ notStar a = true ∧ notStar b = true ∧ swpS p.sc [.Name x.1 x.2, .Name y.1 y.2] [a, b] = some (some [x.1, y.1]) then
        some ⟨.par j k' ca cb, by subst hx hy; exact s_par hj hk h.1 h.2.1 h.2.2.1 h.2.2.2.1 h.2.2.2.2.1 ha hb (fun env he => swpS_ok h.2.2.2.2.2 env he)⟩ else none
    | _, _, _, _ => none)
  | _, _ => none
def asgTT (m : Nat) (p : Pl) (es vs : List Expr) (q q2 q3 : Pos) (k k2 : Nat) : Option { c : CS // SdS p (.Assign [.Tuple es k q2] (.Tuple vs k2 q3) q) c } :=
  if hw : swpS p.sc es vs = some none then (match namesAt p es, cE m p (.Tuple vs k2 q3) with
    | some ⟨is, hi⟩, some ⟨c, h⟩ => some ⟨_, s_setT hi h (fun env he => swpS_ok hw env he)⟩
    | _, _ => none)
  else (match es with
    | [e1, e2] => (match vs with
      | [a, b] => asgPar m p q q2 q3 k k2 e1 e2 a b
      | _ => none)
    | _ => none)
def notTup : Expr → Bool
  | .Tuple .. => false
  | _ => true
theorem sw_no {ts : Expr} {e : Expr} (h : notTup e = true) (env : Env) : swappedStores [ts] e env = pure none := by
  cases e <;> first | (cases h; done) | (cases ts <;> rfl)
def asgTup (m : Nat) (p : Pl) (es : List Expr) (k : Nat) (q2 : Pos) (e : Expr) (q : Pos) : Option { c : CS // SdS p (.Assign [.Tuple es k q2] e q) c } :=
  if hw : notTup e = true then (match namesAt p es, cE m p e with
    | some ⟨is, hi⟩, some ⟨c, h⟩ => some ⟨_, s_setT hi h (fun env _ => sw_no hw env)⟩
    | _, _ => none)
  else (match e with
    | .Tuple vs k2 q3 => asgTT m p es vs q q2 q3 k k2
    | _ => none)
def asgSub (m : Nat) (p : Pl) (o i : Expr) (q2 : Pos) (e : Expr) (q : Pos) : Option { c : CS // SdS p (.Assign [.Subscript o i q2] e q) c } :=
  if hn : notSlice i = true then (match cE m p o, cE m p i, cE m p e with
    | some ⟨co, ho⟩, some ⟨ci, hi⟩, some ⟨c, h⟩ => some ⟨_, s_sub2 hn ho hi h⟩
    | _, _, _ => none) else none
def cAsg (m : Nat) (p : Pl) (e : Expr) (q : Pos) : (t : Expr) → Option { c : CS // SdS p (.Assign [t] e q) c }
  | .Name x q2 => asgName m p x q2 e q
  | .Tuple es k q2 => asgTup m p es k q2 e q
  | .Subscript o i q2 => asgSub m p o i q2 e q
  | _ => none
def cAug (m : Nat) (p : Pl) (op : Operator) (e : Expr) (q : Pos) : (t : Expr) → Option { c : CS // SdS p (.AugAssign t op e q) c }
  | .Name x q2 => (match bopOf op, nameAt p x, cE m p e with
      | some ⟨f, hf⟩, some ⟨j, hj⟩, some ⟨c, h⟩ => some ⟨.aug j f c, by subst hf; exact s_aug hj h⟩
      | _, _, _ => none)
  | .Subscript o i q2 => if hn : notSlice i = true then (match bopOf op, cE m p o, cE m p i, cE m p e with
      | some ⟨f, hf⟩, some ⟨co, ho⟩, some ⟨ci, hi⟩, some ⟨c, h⟩ => some ⟨.augS co ci f c, by subst hf; exact s_augS hn ho hi h⟩
      | _, _, _, _ => none) else none
  | _ => none
mutual
def cS (m : Nat) : Nat → (p : Pl) → (s : Stmt) → Option { c : CS // SdS p s c }
  | 0, _, _ => none
  | n + 1, p, s => match s with
    | .Pass q => some ⟨.pass, s_pass⟩
    | .Break q => some ⟨.brk, s_brk⟩
    | .Continue q => some ⟨.cont, s_cont⟩
    | .Return r q => (match r with
      | some e => (match cE m p e with
        | some ⟨c, h⟩ => some ⟨_, s_ret h⟩
        | none => none)
      | none => none)
    | .Expr e q => if hn : notComp e = true then (match cE m p e with
      | some ⟨c, h⟩ => some ⟨_, s_ex hn h⟩
      | none => none) else none
    | .If t a b q => (match cT m p t, cSs m n p a, cSs m n p b with
      | some ⟨ct, ht⟩, some ⟨ca, ha⟩, some ⟨cb, hb⟩ => some ⟨_, s_if ht ha hb⟩
      | _, _, _ => none)
    | .For tg iter b oe q => (match oe with
      | [] => if hs : notSet iter = true then (match cI m p tg iter, cN p tg, cSs m n p b with
        | some ⟨ii, hi⟩, some ⟨g, hg⟩, some ⟨cb, hb⟩ => (match varOf m p iter ii with
          | some hv => some ⟨_, s_for hs hi hv.down hg hb⟩
          | none => none)
        | _, _, _ => none) else none
      | _ => none)
    | .Raise e1 e2 q => some ⟨_, s_raise⟩
    | .While t b oe q => (match oe with
      | [] => (match cT m p t, cSs m n p b with
        | some ⟨ct, ht⟩, some ⟨cb, hb⟩ => some ⟨_, s_while ht hb⟩
        | _, _ => none)
      | _ => none)
    | .AugAssign t op e q => cAug m p op e q t
    | .Assign ts e q => (match ts with
      | [t] => cAsg m p e q t
      | _ => none)
    | _ => none
def cSs (m : Nat) : Nat → (p : Pl) → (s : List Stmt) → Option { c : CSs // SdSs p s c }
  | 0, _, _ => none
  | n + 1, p, [] => some ⟨.nil, ss_nil⟩
  | n + 1, p, s :: ss => (match cS m n p s, cSs m n p ss with
    | some ⟨c, h⟩, some ⟨cs, hs⟩ => some ⟨_, ss_cons h hs⟩
    | _, _ => none)
end

/-! ### whole defs -/
/-- a def: its name, its names by slot, how many of them are parameters, its body -/
structure Fn where
  name : Str
  N : List Str
  ps : Nat
  body : CSs
def startE (n : Nat) (ds : List D) : En := ds.map some ++ List.replicate (n - ds.length) none
mutual
/-- no number of the store from n on -/
def below (n : Nat) : D → Prop
  | .tup ds => belows n ds
  | .fix ds => belows n ds
  | .ref i => i < n
  | _ => True
def belows (n : Nat) : List D → Prop
  | [] => True
  | d :: ds => below n d ∧ belows n ds
end
def Ob.below (n : Nat) : Ob → Prop
  | .lst ds => belows n ds
  | .dic ks => belows n (ks.map (·.2))
  | .frd ks => belows n (ks.map (·.2))
/-- what a call made is out of reach behind it -/
def Safe (S : Sto) (d : D) (S' : Sto) : Prop := below S.length d ∧ S.length ≤ S'.length ∧ ∀ (i : Nat) o, i < S.length → S'[i]? = some o → S[i]? = some o ∨ o.below S.length
noncomputable def gc (S : Sto) (d : D) (S' : Sto) : Res D := open Classical in if Safe S d S' then .ok d (S'.take S.length) else .ok d S'
/-- a body's run -/
noncomputable def runB (C : Orc) (f : Fn) (ds : List D) (S : Sto) : Res D := (evSs C f.body (startE f.N.length ds) S).bind fun fl S' => match fl with
  | .nx _ => .ok .non S'
  | .rt d => .ok d S'
  | _ => .bad
noncomputable def callF (C : Orc) (f : Fn) (ds : List D) (S : Sto) : Res D := if ds.length = f.ps then (runB C f ds S).bind fun d S' => gc S d S' else .bad
/-- the defs, calls at most k deep -/
noncomputable def orc (T : List Fn) : Nat → Orc
  | 0, _, _, _ => .bad
  | k + 1, f, ds, S => match T[f]? with
    | some fn => callF (orc T k) fn ds S
    | none => .bad

section
variable {K : Fg} {μ μ' : List Addr} {H H' : Hp} {S S' : Sto}
mutual
theorem below_rp : ∀ (d : D) (v : V), Rp K μ H d v → below μ.length d
  | .non, _, _ => trivial
  | .bl _, _, _ => trivial
  | .int _, _, _ => trivial
  | .str _, _, _ => trivial
  | .tup ds, _, ⟨_, vs, _, _, h, _⟩ => belows_rp ds vs h
  | .fix ds, _, ⟨_, vs, _, _, h, _⟩ => belows_rp ds vs h
  | .ref i, _, ⟨_, _, h⟩ => (List.getElem?_eq_some_iff.mp h).1
theorem belows_rp : ∀ (ds : List D) (vs : List V), RpA K μ H ds vs → belows μ.length ds
  | [], _, _ => trivial
  | d :: ds, _, ⟨v, r, _, h1, h2⟩ => ⟨below_rp d v h1, belows_rp ds r h2⟩
end
mutual
theorem rp_below {n : Nat} (hn : n ≤ μ.length) : ∀ (d : D) (v : V), below n d → Rp K μ H d v → Rp K (μ.take n) H d v
  | .non, _, _, h => h
  | .bl _, _, _, h => h
  | .int _, _, _, h => h
  | .str _, _, _, h => h
  | .tup ds, _, b, ⟨a, vs, h1, h2, h3, h4⟩ => ⟨a, vs, h1, h2, rps_below hn ds vs b h3, h4⟩
  | .fix ds, _, b, ⟨a, vs, h1, h2, h3, h4⟩ => ⟨a, vs, h1, h2, rps_below hn ds vs b h3, h4⟩
  | .ref i, _, b, ⟨a, h1, h2⟩ => ⟨a, h1, by
    rw [List.getElem?_take_of_lt b]
    exact h2⟩
theorem rps_below {n : Nat} (hn : n ≤ μ.length) : ∀ (ds : List D) (vs : List V), belows n ds → RpA K μ H ds vs → RpA K (μ.take n) H ds vs
  | [], _, _, h => h
  | d :: ds, _, b, ⟨v, r, h1, h2, h3⟩ => ⟨v, r, h1, rp_below hn d v b.1 h2, rps_below hn ds r b.2 h3⟩
end
theorem RpK.below : ∀ {ks : List (Key × D)} {vs : List (Key × V)}, RpK K μ H ks vs → belows μ.length (ks.map (·.2))
  | [], _, _ => trivial
  | kd :: r, _, ⟨v, t, _, h2, h3⟩ => ⟨below_rp kd.2 v h2, h3.below⟩
theorem RpK.take {n : Nat} (hn : n ≤ μ.length) : ∀ {ks : List (Key × D)} {vs : List (Key × V)}, belows n (ks.map (·.2)) → RpK K μ H ks vs → RpK K (μ.take n) H ks vs
  | [], _, _, h => h
  | kd :: r, _, b, ⟨v, t, h1, h2, h3⟩ => ⟨v, t, h1, rp_below hn kd.2 v b.1 h2, RpK.take hn b.2 h3⟩
theorem gc_ok (hs : StOk K μ H S) (e : Ext K μ H μ' H') (hs' : StOk K μ' H' S') {d : D} {v : V} (r : Rp K μ' H' d v) {Q : V → Hp → Prop} (h : Po K μ H (gc S d S') fun d _ μ' H' => ∀ v, Rp K μ' H' d v → Q v H') : Q v H' := by
  unfold gc at h
  split at h
  · rename_i sf
    obtain ⟨b, l, old⟩ := sf
    obtain ⟨l', rfl, n'⟩ := e.pre
    have et : (μ ++ l').take S.length = μ := by rw [← hs.len, List.take_left' rfl]
    refine h μ H' ⟨⟨[], by simp, fun a z => nomatch z⟩, e.alive, e.fr, e.tup, e.fix, e.frd⟩ ⟨by rw [List.length_take, hs.len]; omega, hs.nd, fun i o a e1 e2 => ?_⟩ v ?_
    · have hi : i < S.length := by rw [← hs.len]; exact (List.getElem?_eq_some_iff.mp e2).1
      rw [List.getElem?_take_of_lt hi] at e1
      have bo : o.below S.length := by
        rcases old i o hi e1 with q | q
        · have := hs.ob i o a q e2
          cases o with
          | dic ks =>
            obtain ⟨vs, _, k, _⟩ := this
            rw [← hs.len]
            exact k.below
          | frd ks =>
            obtain ⟨vs, _, k, _⟩ := this
            rw [← hs.len]
            exact k.below
          | lst ds =>
            obtain ⟨vs, _, k, _⟩ := this
            rw [← hs.len]
            exact belows_rp ds vs k
        · exact q
      have k := hs'.ob i o a e1 (by rw [List.getElem?_append_left (by rw [hs.len]; exact hi)]; exact e2)
      cases o with
      | dic ks =>
        obtain ⟨vs, k1, k2, k3, k4⟩ := k
        refine ⟨vs, k1, ?_, k3, k4⟩
        have := RpK.take (n := S.length) (by rw [List.length_append, hs.len]; omega) bo k2
        rw [et] at this
        exact this
      | frd ks =>
        obtain ⟨vs, k1, k2, k3, k4⟩ := k
        refine ⟨vs, k1, ?_, k3, k4⟩
        have := RpK.take (n := S.length) (by rw [List.length_append, hs.len]; omega) bo k2
        rw [et] at this
        exact this
      | lst ds =>
        obtain ⟨vs, k1, k2, k3⟩ := k
        refine ⟨vs, k1, ?_, k3⟩
        have := rps_below (n := S.length) (by rw [List.length_append, hs.len]; omega) ds vs bo k2
        rw [et] at this
        exact this
    · have := rp_below (n := S.length) (by rw [List.length_append, hs.len]; omega) d v b r
      rw [et] at this
      exact this
  · exact h μ' H' e hs' v r
theorem start_ok {N : List Str} {ds : List D} {vs : List V} (r : RpA K μ H ds vs) : EnvOk K μ H (startE N.length ds) (L2.start N vs) := by
  unfold startE L2.start
  have hl := r.length
  refine ⟨by simp only [List.length_append, List.length_map, List.length_replicate]; omega, fun i d q => ?_⟩
  by_cases hi : i < ds.length
  · rw [List.getElem?_append_left (by rw [List.length_map]; exact hi), List.getElem?_map] at q
    cases e : ds[i]? with
    | none => rw [e] at q; cases q
    | some d' =>
      rw [e] at q
      cases q
      obtain ⟨v, e1, r1⟩ := r.get e
      refine ⟨v, ?_, r1⟩
      rw [List.getElem?_append_left (by rw [List.length_map]; omega), List.getElem?_map, e1]
      rfl
  · rw [List.getElem?_append_right (by rw [List.length_map]; omega), List.getElem?_replicate] at q
    split at q <;> cases q
end
/-- what a def keeps, from its body -/
theorem fn_ok {P : Program} {w : World} {K : Fg} {mg : Str → Option Value} {base : Heap} {C : Orc} {p : Pl} {fn : Fn} {i k : Nat} {x qual : Str} {params : Arguments} {body : List Stmt} {scope : Scope} {f : Addr} {fd : FuncData} (F : FunD K x qual params body scope [] [] f fd) (ps : List Str)
    (Sc : FnScope fn.N ps scope) (hps : ps.length = fn.ps) (hN : p.N = fn.N) (hsc : p.sc = scope) (hb : SdSs p body fn.body) (hC : ∀ ds S, C i ds S = .bad → False → False)
    (blt : ∀ x, x ∈ p.B → mg x = none)
    (glb : ∀ x g, (x, g) ∈ p.G → GvOk K mg x g)
    (fns : ∀ (j : Nat) y, p.T[j]? = some y → ∃ g gd ps, mg y = some (.ref g) ∧ FnG P w K mg base CX0 k g gd ps (spC K C j) ∧ PySem.W.keepIn K (.ref g) = true ∧ Binds K gd ps [])
    (hk : 190 ≤ k ∧ k ≤ 300) : FnG P w K mg base CX0 (k + 1) f fd ps (fun vs H Q _ => ∃ μ ds S, StOk K μ H S ∧ RpA K μ H ds vs ∧ Po K μ H (callF C fn ds S) fun d _ μ' H' => ∀ v, Rp K μ' H' d v → Q v H') := by
  refine F.okG Sc (fun vs H Q E h => ?_) (fun cdv A outer s H vs Q E hr gu h => ?_)
  · obtain ⟨μ, ds, S, _, r, h⟩ := h
    unfold callF at h
    split at h
    · rename_i hl
      rw [← r.length, hl, hps]
    · exact h.elim
  · obtain ⟨μ, ds, S, hs, r, h⟩ := h
    unfold callF at h
    split at h
    · rename_i hl
      generalize hX : cxOf CX0 P w K mg base fn.N qual scope f cdv A outer s H E = X
      have gd : Good X.nox p C := by
        subst hX
        refine ⟨rfl, gu, Sc.nd, ?_, PassesOwn.never, hN.symm, hsc.symm, blt, glb, fun j y hy => ?_⟩
        · have := hr.units
          have h2 := hr.un
          show (A.deeper _).units + 3100 < cLine
          omega
        · obtain ⟨g, gd, ps, h1, h2, h3, h4⟩ := fns j y hy
          exact ⟨g, gd, ps, k, h1, h2, hr, h3, h4⟩
      have hfn : X.nox.fn = (fun _ => true) := by subst hX; rfl
      have hK : X.nox.K = K := by subst hX; rfl
      refine ⟨_, (hb X.nox C gd hfn).nox, ?_⟩
      rw [hK]
      refine ⟨μ, startE fn.N.length ds, S, start_ok r, hs, ?_⟩
      have h : Po K μ H ((runB C fn ds S).bind fun d S' => gc S d S') _ := h
      unfold runB at h
      generalize evSs C fn.body (startE fn.N.length ds) S = rr at h
      cases rr with
      | ok fl S' =>
        intro μ' H' e s'
        cases fl with
        | nx ρ => exact fun σ he => gc_ok hs e s' (d := .non) (v := .non) rfl h
        | rt d => exact fun v rv => gc_ok hs e s' rv h
        | bk ρ => exact (h : False).elim
        | ct ρ => exact (h : False).elim
      | exc c fs S' => exact h.elim
      | bad => exact h.elim
    · exact h.elim
end PQ

/-! A whole program. -/
namespace PQ
open PySem PySem.Spec PyProof.Rows L2
/-- a def of the program as it stands behind the top -/
structure DefOk (K : Fg) (mg : Str → Option Value) (T B : List Str) (G : List (Str × Gv)) (fn : Fn) : Prop where
  ex : ∃ (f : Addr) (fd : FuncData) (qual : Str) (ps : List Str) (params : Arguments) (body : List Stmt) (scope : Scope), mg fn.name = some (.ref f) ∧ FunD K fn.name qual params body scope [] [] f fd ∧ FnScope fn.N ps scope ∧ ps.length = fn.ps ∧
    SdSs ⟨T, B, fn.N, scope, G⟩ body fn.body ∧ ∀ (s : Shared) (us : List Value), us.length = ps.length → BindsTo s fd ⟨us, []⟩ (ps.zip us)
theorem binds_of {K : Fg} {fd : FuncData} {ps : List Str} (h : ∀ (s : Shared) (us : List Value), us.length = ps.length → BindsTo s fd ⟨us, []⟩ (ps.zip us)) : Binds K fd ps [] := fun s us _ hl => by
  rw [List.append_nil] at hl ⊢
  exact h s us hl
theorem all_ok {P : Program} {w : World} {K : Fg} {mg : Str → Option Value} {base : Heap} {T : List Fn} {names B : List Str} {Gs : List (Str × Gv)} (hn : T.map (·.name) = names) (hB : ∀ x ∈ B, mg x = none) (hG : ∀ x g, (x, g) ∈ Gs → GvOk K mg x g) (hT : ∀ fn ∈ T, DefOk K mg names B Gs fn) :
    ∀ (k : Nat), k + 190 ≤ 300 → ∀ (i : Nat) fn, T[i]? = some fn → ∃ f fd ps, mg fn.name = some (.ref f) ∧ FnG P w K mg base CX0 (k + 190) f fd ps (spC K (orc T k) i) ∧ PySem.W.keepIn K (.ref f) = true ∧ Binds K fd ps []
  | 0, _, i, fn, h => by
    obtain ⟨f, fd, qual, ps, params, body, scope, h1, h2, h3, h4, h5, h6⟩ := (hT fn (List.mem_of_getElem? h)).ex
    refine ⟨f, fd, ps, h1, ⟨fun vs H Q E z => ?_, fun A outer s H args us vs Q E hr e0 hb r z => ?_⟩, h2.kp, binds_of h6⟩
    · obtain ⟨μ, ds, S, _, _, z⟩ := z
      exact z.elim
    · obtain ⟨μ, ds, S, _, _, z⟩ := z
      exact z.elim
  | k + 1, hk, i, fn, h => by
    obtain ⟨f, fd, qual, ps, params, body, scope, h1, h2, h3, h4, h5, h6⟩ := (hT fn (List.mem_of_getElem? h)).ex
    exact ⟨f, fd, ps, h1, step k hk i fn h f fd qual ps params body scope h2 h3 h4 h5 (all_ok hn hB hG hT k (by omega)), h2.kp, binds_of h6⟩
where
  step (k : Nat) (hk : k + 1 + 190 ≤ 300) (i : Nat) (fn : Fn) (h : T[i]? = some fn) (f : Addr) (fd : FuncData) (qual : Str) (ps : List Str) (params : Arguments) (body : List Stmt) (scope : Scope) (h2 : FunD K fn.name qual params body scope [] [] f fd) (h3 : FnScope fn.N ps scope) (h4 : ps.length = fn.ps)
      (h5 : SdSs ⟨names, B, fn.N, scope, Gs⟩ body fn.body) (ih : ∀ (i : Nat) fn, T[i]? = some fn → ∃ f fd ps, mg fn.name = some (.ref f) ∧ FnG P w K mg base CX0 (k + 190) f fd ps (spC K (orc T k) i) ∧ PySem.W.keepIn K (.ref f) = true ∧ Binds K fd ps []) : FnG P w K mg base CX0 (k + 1 + 190) f fd ps (spC K (orc T (k + 1)) i) := by
    have F := fn_ok (P := P) (w := w) (mg := mg) (base := base) (C := orc T k) (p := ⟨names, B, fn.N, scope, Gs⟩) (fn := fn) (i := i) (k := k + 190) h2 ps h3 h4 rfl rfl h5 (fun _ _ _ z => z) hB hG (fun j y hy => by
      have hy : names[j]? = some y := hy
      rw [← hn, List.getElem?_map] at hy
      cases e : T[j]? with
      | none => rw [e] at hy; cases hy
      | some gn =>
        rw [e] at hy
        cases hy
        obtain ⟨g, gd, qs, k1, k2, k3, k4⟩ := ih j gn e
        exact ⟨g, gd, qs, k1, k2, k3, k4⟩) (by omega)
    refine F.imp fun vs H Q E z => ?_
    obtain ⟨μ, ds, S, s1, s2, s3⟩ := z
    refine ⟨μ, ds, S, s1, s2, ?_⟩
    have e : orc T (k + 1) i ds S = callF (orc T k) fn ds S := by
      show (match T[i]? with
        | some fn => callF (orc T k) fn ds S
        | none => Res.bad) = _
      rw [h]
    rw [e] at s3
    exact s3
/-- the law's def is called from outside: no repr is under way there -/
theorem law_callG {P : Program} {w : World} {K : Fg} {mg mb : Str → Option Value} {k : Nat} {fa a : Addr} {fd : FuncData} {x : Str} {sp : Sp} {s₁ : Shared} {vs : List Value} {ns : List Int} (KX : K.In s₁.heap) (gN : s₁.heap.Ns mainGlobals mg) (bN : s₁.heap.Ns builtinsNs mb) (bB : ∀ x : Str, x ≠ "__name__" → mb x = bootBuiltins x) (lim : s₁.heap.NoLimit) (hg : s₁.gens = #[])
    (ha : s₁.heap.get? a = some { cls := .type "list", data := .seq vs.toArray }) (hi : IntsAre vs ns) (hl : ns.length ≤ sizeLine) (hr : Room k callerA) (F : ∀ bh : Heap, K.In bh → bh.Ns mainGlobals mg → FnG P w K mg bh CX0 k fa fd [x] sp) (hb : ∀ (s : Shared) (u : Value), BindsTo s fd ⟨[u], []⟩ [(x, u)])
    (hsp : ∀ H : Hp, Only H → SqL K H a (ns.map V.int) → sp [.ref a] H (fun v _ => v = .bl true) fun _ _ _ => False) : codeAny (model P w) callerA (.call (.ref fa) ⟨[.ref a], []⟩) (fun r s' => r = .ok (.ret (.bool true)) ∧ OldK s₁.heap s'.heap ∧ s'.os = s₁.os ∧ AllBare s'.gens) s₁ := by
  have rv := vals_ints hi
  have core : ∀ H : Hp, Only H → SqL K H a (ns.map V.int) → HOk P w H s₁.heap → (∀ b, H b ≠ none → b = a) → (H a ≠ none → K.lookup a = none) → codeAny (model P w) callerA (.call (.ref fa) ⟨[.ref a], []⟩) (fun r s' => r = .ok (.ret (.bool true)) ∧ OldK s₁.heap s'.heap ∧ s'.os = s₁.os ∧ AllBare s'.gens) s₁ := by
    intro H hO hS hok hA hK
    have nd : ∀ {b : Addr} {o : Obj} {es : Array DictEntry} {ep : Nat}, s₁.heap.get? b = some o → o.data = .dict es ep → H b = none := fun {b o es ep} e d => by
      by_cases q : H b = none
      · exact q
      · obtain rfl := hA b q
        rw [ha] at e
        cases e
        exact absurd (show Data.seq vs.toArray _ = Data.dict es ep from d) (fun z => by cases z)
    have ns2 : ∀ {b : Addr} {m : Str → Option Value}, s₁.heap.Ns b m → (hidT s₁.heap H).Ns b m := fun {b m} ⟨o, es, ep, e, d, r⟩ => ⟨o, es, ep, hidT_get e (nd e d), d, r⟩
    have kin : K.In (hidT s₁.heap H) := fun b o e => hidT_get (KX b o e) (by
      by_cases q : H b = none
      · exact q
      · obtain rfl := hA b q
        rw [hK q] at e
        cases e)
    obtain ⟨mc, l1, l2⟩ := lim
    have e0 : Env0 P w K mg (hidT s₁.heap H) callerA [] s₁ H := ⟨rfl, ⟨kin, ns2 gN, ⟨mb, ns2 bN, bB⟩, ⟨mc, ns2 l1, l2⟩⟩, fun b o e => of_hidT e, Nat.le_of_eq (hidT_size _ _), trivial, fun b hb => absurd (show b ∈ ([] : List Addr) from hb) (by simp), hok, .of_eq hg⟩
    refine codeAny_mono ((F _ kin (ns2 gN)).go callerA [] s₁ H ⟨[.ref a], []⟩ [.ref a] [.ref a] _ _ ⟨hr, rfl⟩ e0 (hb s₁ (.ref a)) (.cons rfl .nil) (hsp H hO hS)) fun r s' h => ?_
    match r, h with
    | .error _, h => exact False.elim h
    | .ok .next, h => exact False.elim h
    | .ok .brk, h => exact False.elim h
    | .ok .cont, h => exact False.elim h
    | .ok (.ret u), h =>
      obtain ⟨v, H', os, bare, un, hok', r', q⟩ := h
      obtain rfl : v = .bl true := q
      obtain rfl : u = Value.bool true := r'
      refine ⟨rfl, OldK.of_keep fun b o e => ?_, os, bare⟩
      rcases hO b with z | ⟨ob, xs, z⟩
      · exact un.keep b o e z (fun z => absurd (show b ∈ ([] : List Addr) from z) (by simp)) (by simp)
      · obtain ⟨e1, _⟩ := hok b _ z
        obtain ⟨e2, _⟩ := hok' b _ (un.frzs b ob _ z)
        rw [e] at e1
        cases e1
        exact e2
  cases hk : K.lookup a with
  | some o =>
    have e := KX a o hk
    rw [ha] at e
    cases e
    exact core (fun _ => none) (fun _ => .inl rfl) (.inr ⟨_, vs.toArray, _, hk, rfl, rfl, rfl, by rw [List.size_toArray, hi.length]; exact hl, by simpa using rv⟩) (fun b u z => nomatch z) (fun b z => absurd rfl z) fun z => absurd rfl z
  | none =>
    have he : ∀ b, (if b = a then some (HO.frz { cls := .type "list", data := .seq vs.toArray } (.lst (ns.map V.int))) else none) ≠ none → b = a := fun b z => by
      by_cases hb : b = a
      · exact hb
      · exact absurd (if_neg hb) z
    refine core (fun b => if b = a then some (HO.frz { cls := .type "list", data := .seq vs.toArray } (.lst (ns.map V.int))) else none) (fun b => ?_) (.inl (.inr ⟨{ cls := .type "list", data := .seq vs.toArray }, if_pos rfl⟩)) (fun b u z => ?_) he fun _ => hk
    · by_cases hb : b = a
      · exact .inr ⟨_, _, if_pos hb⟩
      · exact .inl (if_neg hb)
    · obtain rfl := he b (fun q => by rw [show (if b = a then some (HO.frz { cls := .type "list", data := .seq vs.toArray } (.lst (ns.map V.int))) else none) = some u from z] at q; cases q)
      cases (if_pos rfl).symm.trans z
      exact ⟨ha, by rw [List.length_map]; exact hl, vs, _, rv, ha⟩
theorem walk_G {l : PySem.W.OpenLaw} {n k : Nat} {q : Program} {loose : List Str} {XP : (Str → Option Value) → Heap → Prop} {YP : World → Heap → Prop} {d : DefRec} {x : Str} (hn : l.most = some n) (hn2 : n ≤ sizeLine) (hdf : d.params.defaults = []) (hr : Room k callerA)
    (F : ∀ (w : World) (mg : Str → Option Value) (fa : Addr) (h : Heap), YP w h → h.Ns mainGlobals mg → mg d.name = some (.ref fa) → ∃ (K : Fg) (fd : FuncData) (sp : Sp), K.In h ∧ (∀ (s : Shared) (u : Value), BindsTo s fd ⟨[u], []⟩ [(x, u)]) ∧ (∀ (H : Hp) (a : Addr) (ns : List Int), ns.length ≤ n → Only H → SqL K H a (ns.map V.int) → sp [.ref a] H (fun v _ => v = .bl true) fun _ _ _ => False) ∧ ∀ bh : Heap, K.In bh → bh.Ns mainGlobals mg → FnG l.prog w K mg bh CX0 k fa fd [x] sp) :
    PySem.W.WalkO q loose XP YP l.row.toRowW d [] (fun f vs => PySem.call f vs) := by
  refine Att.attach_call hn hdf fun w s₀ s₁ mg mb fa o pm cd doc a vs ns G Y _ _ _ hm hobj hi hlen hg => ?_
  obtain ⟨K, fd, sp, KX, hb, hsp, hF⟩ := F w mg fa _ Y G.T.g hm
  exact law_callG KX G.T.g G.T.b G.T.builtins G.T.nolimit hg hobj hi (Nat.le_trans hlen hn2) hr hF hb fun H hO hS => hsp H a ns hlen hO hS
/-- a def, from the head's facts and the compiler's word -/
theorem def_ok {K : Fg} {h : Heap} {mg : Str → Option Value} {fn : List He.DefD} {fa : List He.Fa} {names B N ps : List Str} {Gs : List (Str × Gv)} {x : Str} {n : Nat} {body : CSs} (X : K.In h) (G : h.Ns mainGlobals mg) (c : He.SaysD fa fn K) (i : Nat) {st : Stmt} (hd : fn[i]? = some ⟨(x, none), x, x, defArgs st, defBody st, defScope st, [], []⟩) (j : Nat) (hj : fa[j]? = some (.glo x))
    (hc : (cSs 60 60 ⟨names, B, N, defScope st, Gs⟩ (defBody st)).map (·.val) = some body) (hs : FnScope N ps (defScope st)) (hp : ps.length = n)
    (hb : ∀ (kV doc pm : Value) (an : Option Addr) (cdv ct : Value) (us : List Value), us.length = ps.length → bindArgs (PySem.W.fnOf x x (defArgs st) (defBody st) (defScope st) .none kV doc pm an cdv ct) ⟨us, []⟩ = pure (ps.zip us)) : DefOk K mg names B Gs ⟨x, N, n, body⟩ := by
  obtain ⟨fd, F⟩ := c.def_ i (d := ⟨(x, none), x, x, defArgs st, defBody st, defScope st, [], []⟩) hd
  have hm := He.glo_ok X G (c.fact j (f := .glo x) hj)
  cases e : cSs 60 60 ⟨names, B, N, defScope st, Gs⟩ (defBody st) with
  | none => rw [e] at hc; cases hc
  | some r =>
    rw [e] at hc
    have hr : r.val = body := Option.some.inj hc
    exact ⟨_, fd, x, ps, _, _, _, hm, F, hs, hp, by
      rw [← hr]
      exact r.property, fun s us hl => FunD.bindsA F hb s us hl⟩
/-- the law's def: what the language says of it, for every script -/
theorem law_end {l : PySem.W.OpenLaw} {w : World} {K : Fg} {h : Heap} {mg : Str → Option Value} {T : List Fn} {names B : List Str} {Gs : List (Str × Gv)} {fa : Addr} {lawFn : Fn} {i k n : Nat} (KX : K.In h) (hn : T.map (·.name) = names) (hB : ∀ x ∈ B, mg x = none) (hG : ∀ x g, (x, g) ∈ Gs → GvOk K mg x g) (hT : ∀ fn ∈ T, DefOk K mg names B Gs fn)
    (hl : T[i]? = some lawFn) (hx : lawFn.N.take 1 = ([("script" : Str)] : List Str)) (hp : lawFn.ps = 1) (hmg : mg lawFn.name = some (.ref fa)) (hk : k + 1 + 190 ≤ 300) (hns : n ≤ sizeLine)
    (true_ : ∀ ns : List Int, ns.length ≤ n → ∃ S, orc T (k + 1) i [.fix (ns.map .int)] [] = .ok (.bl true) S) :
    ∃ (K : PySem.W.Frag) (fd : FuncData) (sp : Sp), K.In h ∧ (∀ (s : Shared) (u : Value), BindsTo s fd ⟨[u], []⟩ [(("script" : Str), u)]) ∧
        (∀ (H : Hp) (a : Addr) (ns : List Int), ns.length ≤ n → Only H → SqL K H a (ns.map V.int) → sp [.ref a] H (fun v _ => v = .bl true) fun _ _ _ => False) ∧
        ∀ base : Heap, K.In base → base.Ns mainGlobals mg → FnG l.prog w K mg base CX0 (k + 1 + 190) fa fd ([("script" : Str)] : List Str) sp := by
  obtain ⟨f, fd, qual, ps, params, body, scope, h1, h2, h3, h4, h5, h6⟩ := (hT lawFn (List.mem_of_getElem? hl)).ex
  have ef : fa = f := by
    rw [hmg] at h1
    cases h1
    rfl
  subst ef
  have eps : ps = ([("script" : Str)] : List Str) := by
    have := h3.pre
    rw [h4, hp, hx] at this
    exact this.symm
  subst eps
  refine ⟨K, fd, spC K (orc T (k + 1)) i, KX, fun s u => h6 s [u] rfl, fun H a ns hl' hO hS => ?_, fun base _ _ => all_ok.step hn hB hG 0 k hk i lawFn hl fa fd qual _ params body scope h2 h3 h4 h5 (all_ok hn hB hG hT k (by omega))⟩
  have hf : Fix K H a (ns.map V.int) := by
    rcases hS with (q | ⟨o, q⟩) | q
    · rcases hO a with z | ⟨o, xs, z⟩
      · rw [z] at q; cases q
      · rw [z] at q; cases q
    · exact .inl ⟨o, q⟩
    · exact .inr q
  have hr : ∀ ns : List Int, RpA K [] H (ns.map D.int) (ns.map V.int) := fun ns => by
    induction ns with
    | nil => exact rfl
    | cons x xs ih => exact .cons rfl ih
  obtain ⟨S, hS'⟩ := true_ ns hl'
  refine ⟨[], [.fix (ns.map .int)], [], ⟨rfl, List.nodup_nil, fun i o a e _ => by simp at e⟩, .cons ⟨a, _, rfl, hf, hr ns, by rw [List.length_map]; omega⟩ .nil, ?_⟩
  rw [hS']
  exact fun μ' H' _ _ v rv => rv
end PQ

/-! What a run says, by what is asked of its end. -/
namespace PQ
open PySem PySem.Spec PyProof.Rows L2
/-- it ends well, and then .. -/
def W {α : Type} (r : Res α) (Q : α → Sto → Prop) : Prop := ∃ a S, r = .ok a S ∧ Q a S
section
variable {α β : Type} {Q : α → Sto → Prop} {a : α} {S : Sto}
@[simp] theorem W_ok : W (.ok a S) Q = Q a S := propext ⟨fun ⟨_, _, e, h⟩ => by cases e; exact h, fun h => ⟨_, _, rfl, h⟩⟩
@[simp] theorem W_bad : W (.bad : Res α) Q = False := propext ⟨fun ⟨_, _, e, _⟩ => (nomatch e), False.elim⟩
@[simp] theorem W_exc {c : Str} {fs : List (Str × D)} : W (.exc c fs S : Res α) Q = False := propext ⟨fun ⟨_, _, e, _⟩ => (nomatch e), False.elim⟩
@[simp] theorem W_bind {r : Res β} {f : β → Sto → Res α} : W (r.bind f) Q = W r fun b S => W (f b S) Q := by
  cases r with
  | ok b S => simp [Res.bind]
  | exc c fs S => simp [Res.bind]
  | bad => simp [Res.bind]
@[simp] theorem W_ask {p : Prop} {r : Res α} : W (ask p r) Q = (p ∧ W r Q) := by
  unfold ask
  split <;> rename_i h
  · exact propext ⟨fun x => ⟨h, x⟩, fun x => x.2⟩
  · rw [W_bad]
    exact propext ⟨False.elim, fun x => h x.1⟩
@[simp] theorem may_some {f : β → Res α} {b : β} : may (some b) f = f b := rfl
@[simp] theorem may_none {f : β → Res α} : may none f = .bad := rfl
theorem W_mono {Q' : α → Sto → Prop} {r : Res α} (h : W r Q) (k : ∀ a S, Q a S → Q' a S) : W r Q' := by
  obtain ⟨a, S, e, h⟩ := h
  exact ⟨a, S, e, k _ _ h⟩
theorem W_ite {c : Prop} [Decidable c] {r s : Res α} (h1 : c → W r Q) (h2 : ¬c → W s Q) : W (if c then r else s) Q := by
  split
  · exact h1 ‹_›
  · exact h2 ‹_›
end
/-- a walk: each turn goes on -/
theorem loopS_w {C : Sto → Prop} {f : D → En → Sto → Res Fl} {Q : Fl → Sto → Prop} (I : List D → En → Sto → Prop)
    (h : ∀ d ds ρ S, I (d :: ds) ρ S → C S ∧ W (f d ρ S) fun fl S' => (∃ ρ', (fl = .nx ρ' ∨ fl = .ct ρ') ∧ I ds ρ' S'))
    (h0 : ∀ ρ S, I [] ρ S → C S ∧ Q (.nx ρ) S) : ∀ ds ρ S, I ds ρ S → W (loopS C f ds ρ S) Q
  | [], ρ, S, i => by
    rw [loopS, W_ask, W_ok]
    exact h0 ρ S i
  | d :: ds, ρ, S, i => by
    rw [loopS, W_ask, W_bind]
    obtain ⟨k1, k2⟩ := h d ds ρ S i
    refine ⟨k1, W_mono k2 fun fl S' ⟨ρ', e, k⟩ => ?_⟩
    rcases e with e | e <;> subst e <;> exact loopS_w I h h0 ds ρ' S' k
/-- a comprehension without a test: each item makes one -/
theorem loopQ_w {C : Sto → Prop} {f : D → Sto → Res (Option D)} {Q : List D → Sto → Prop} (I : List D → List D → Sto → Prop)
    (h : ∀ d ds r S, I (d :: ds) r S → C S ∧ W (f d S) fun o S' => I ds (r ++ o.toList) S')
    (h0 : ∀ r S, I [] r S → C S ∧ Q r S) (ds : List D) (S : Sto) (i : I ds [] S) : W (loopQ C f ds S) Q := by
  suffices ∀ (ds r : List D) S, I ds r S → W (loopQ C f ds S) fun x S => Q (r ++ x) S by
    have := this ds [] S i
    simpa using this
  intro ds
  induction ds with
  | nil =>
    intro r S i
    rw [loopQ, W_ask, W_ok, List.append_nil]
    exact h0 r S i
  | cons d ds ih =>
    intro r S i
    rw [loopQ, W_ask, W_bind]
    obtain ⟨k1, k2⟩ := h d ds r S i
    refine ⟨k1, W_mono k2 fun o S' k => ?_⟩
    rw [W_bind]
    refine W_mono (ih _ _ k) fun x S'' q => ?_
    rw [W_ok]
    cases o with
    | none => simpa using q
    | some o => simpa using q
/-- what a def hands back -/
theorem callF_w {C : Orc} {fn : Fn} {ds : List D} {S : Sto} {Q : D → Sto → Prop} (hl : ds.length = fn.ps) (h : W (runB C fn ds S) fun d S' => W (gc S d S') Q) : W (callF C fn ds S) Q := by
  unfold callF
  rw [if_pos hl, W_bind]
  exact h
@[simp] theorem gc_self {S : Sto} {d : D} : gc S d S = .ok d S := by
  unfold gc
  split <;> simp
theorem gc_same {S S' : Sto} {d : D} (h : S'.length = S.length) : gc S d S' = .ok d S' := by
  unfold gc
  split
  · rw [← h, List.take_length]
  · rfl
/-- what stands anew behind the old store, and is not handed back, is forgotten -/
theorem gc_app {S g : Sto} {d : D} (h : below S.length d) : gc S d (S ++ g) = .ok d S := by
  unfold gc
  rw [if_pos]
  · simp
  · refine ⟨h, by simp, fun i o hi e => .inl ?_⟩
    rw [← e, List.getElem?_append_left hi]
end PQ

/-! One step of a run, by its syntax. -/
namespace PQ
open PySem PySem.Spec PyProof.Rows L2
variable {C : Orc} {ρ : En} {S : Sto}
theorem w_var {i : Nat} {d : D} {Q : D → Sto → Prop} (k : ρ[i]? = some (some d))(h : Q d S) : W (evE C (.var i) ρ S) Q := by
  simpa [evE, k] using h
theorem w_lit {d : D} {Q : D → Sto → Prop} (h : Q d S) : W (evE C (.lit d) ρ S) Q := by
  simpa [evE] using h
theorem w_tup {es : CEs} {Q : D → Sto → Prop} (h : W (evEs C es ρ S) fun ds S1 => ds.length ≤ sizeLine ∧ Q (.tup ds) S1) : W (evE C (.tup es) ρ S) Q := by
  simpa [evE] using h
theorem w_alloc {q : CQ} {Q : D → Sto → Prop} (h : W (evQ C q ρ S) fun ds S1 => Q (.ref S1.length) (S1 ++ [.lst ds])) : W (evE C (.alloc q) ρ S) Q := by
  simpa [evE] using h
theorem w_bin {o : Bop} {a b : CE} {Q : D → Sto → Prop} (h : W (evE C a ρ S) fun x S1 => W (evE C b ρ S1) fun y S2 => W (binD o x y S2) Q) : W (evE C (.bin o a b) ρ S) Q := by
  simpa [evE] using h
theorem w_cmp {o : Cop} {a b : CE} {Q : D → Sto → Prop} (h : W (evE C a ρ S) fun x S1 => W (evE C b ρ S1) fun y S2 => W (cmpD o x y S2) Q) : W (evE C (.cmp o a b) ρ S) Q := by
  simpa [evE] using h
noncomputable def chnK (C : Orc) (p : Cop) (c : CE) (ρ : En) (y : D) (z : D) (S3 : Sto) : Res D := match z with
  | .bl true => (evE C c ρ S3).bind fun w S4 => cmpD p y w S4
  | .bl false => .ok (.bl false) S3
  | _ => .bad
theorem w_chn {o p : Cop} {a b c : CE} {Q : D → Sto → Prop} (h : W (evE C a ρ S) fun x S1 => W (evE C b ρ S1) fun y S2 => W (cmpD o x y S2) fun z S3 => W (chnK C p c ρ y z S3) Q) : W (evE C (.chn o p a b c) ρ S) Q := by
  have e : evE C (.chn o p a b c) ρ S = (evE C a ρ S).bind fun x S1 => (evE C b ρ S1).bind fun y S2 => (cmpD o x y S2).bind fun z S3 => chnK C p c ρ y z S3 := rfl
  rw [e]
  simpa only [W_bind] using h
theorem w_chnB {p : Cop} {c : CE} {y : D} {k : Bool} {Q : D → Sto → Prop} (h1 : k = true → W (evE C c ρ S) fun w S4 => W (cmpD p y w S4) Q) (h2 : k = false → Q (.bl false) S) : W (chnK C p c ρ y (.bl k) S) Q := by
  cases k
  · exact (W_ok (Q := Q)).symm ▸ h2 rfl
  · show W (Res.bind _ _) _
    rw [W_bind]
    exact h1 rfl
theorem w_isN {a : CE} {Q : D → Sto → Prop} (h : W (evE C a ρ S) fun x S1 => Q (.bl (isNon x)) S1) : W (evE C (.isN a) ρ S) Q := by
  simpa [evE] using h
theorem w_notN {a : CE} {Q : D → Sto → Prop} (h : W (evE C a ρ S) fun x S1 => Q (.bl (!isNon x)) S1) : W (evE C (.notN a) ρ S) Q := by
  simpa [evE] using h
theorem w_inr {a : CE} {r : CR} {Q : D → Sto → Prop} (h : W (evE C a ρ S) fun x S1 => W (evR C r ρ S1) fun v S2 => W (may (inD x v S2) fun b => .ok (.bl b) S2) Q) : W (evE C (.inr a r) ρ S) Q := by
  simpa [evE] using h
theorem w_notInr {a : CE} {r : CR} {Q : D → Sto → Prop} (h : W (evE C a ρ S) fun x S1 => W (evR C r ρ S1) fun v S2 => W (may (inD x v S2) fun b => .ok (.bl (!b)) S2) Q) : W (evE C (.notInr a r) ρ S) Q := by
  simpa [evE] using h
theorem w_and {a b : CE} {Q : D → Sto → Prop} (h : W (evE C a ρ S) fun x S1 => W (may (tru S1 x) fun k => if k = true then evE C b ρ S1 else .ok x S1) Q) : W (evE C (.and a b) ρ S) Q := by
  simpa [evE] using h
theorem w_or {a b : CE} {Q : D → Sto → Prop} (h : W (evE C a ρ S) fun x S1 => W (may (tru S1 x) fun k => if k = true then .ok x S1 else evE C b ρ S1) Q) : W (evE C (.or a b) ρ S) Q := by
  simpa [evE] using h
theorem w_not {a : CE} {Q : D → Sto → Prop} (h : W (evE C a ρ S) fun x S1 => W (may (tru S1 x) fun k => .ok (.bl (!k)) S1) Q) : W (evE C (.not a) ρ S) Q := by
  simpa [evE] using h
theorem w_ife {t : CT} {a b : CE} {Q : D → Sto → Prop} (h : W (evT C t ρ S) fun k S1 => W (if k = true then evE C a ρ S1 else evE C b ρ S1) Q) : W (evE C (.ife t a b) ρ S) Q := by
  simpa [evE] using h
theorem w_idx {a b : CE} {Q : D → Sto → Prop} (h : W (evE C a ρ S) fun x S1 => W (evE C b ρ S1) fun y S2 => W (idxD x y S2) Q) : W (evE C (.idx a b) ρ S) Q := by
  simpa [evE] using h
theorem w_slc {a : CE} {lo hi : CO} {Q : D → Sto → Prop} (h : W (evE C a ρ S) fun x S1 => W (evO C lo ρ S1) fun l S2 => W (evO C hi ρ S2) fun u S3 => W (slcD x l u S3) Q) : W (evE C (.slc a lo hi) ρ S) Q := by
  simpa [evE] using h
theorem w_call {f : Nat} {es : CEs} {Q : D → Sto → Prop} (h : W (evEs C es ρ S) fun ds S1 => W (C f ds S1) Q) : W (evE C (.call f es) ρ S) Q := by
  simpa [evE] using h
theorem w_fn1 {f : F1} {a : CE} {Q : D → Sto → Prop} (h : W (evE C a ρ S) fun x S1 => W (fn1D f x S1) Q) : W (evE C (.fn1 f a) ρ S) Q := by
  simpa [evE] using h
theorem w_fn2 {f : F2} {a b : CE} {Q : D → Sto → Prop} (h : W (evE C a ρ S) fun x S1 => W (evE C b ρ S1) fun y S2 => W (fn2D f x y S2) Q) : W (evE C (.fn2 f a b) ρ S) Q := by
  simpa [evE] using h
theorem w_agg {f : Ag} {r : CR} {Q : D → Sto → Prop} (h : W (evR C r ρ S) fun v S1 => W (aggD f v S1) Q) : W (evE C (.agg f r) ρ S) Q := by
  simpa [evE] using h
theorem w_isi {a : CE} {t : Ty} {Q : D → Sto → Prop} (h : W (evE C a ρ S) fun x S1 => W (may (tyB t S1 x) fun b => .ok (.bl b) S1) Q) : W (evE C (.isi a t) ρ S) Q := by
  simpa [evE] using h
theorem w_app {l x : CE} {Q : D → Sto → Prop} (h : W (evE C l ρ S) fun o S1 => W (withL S1 o fun _ _ => (evE C x ρ S1).bind fun v S2 => appD o v S2) Q) : W (evE C (.app l x) ρ S) Q := by
  simpa [evE] using h
theorem w_ext {l : CE} {r : CR} {Q : D → Sto → Prop} (h : W (evE C l ρ S) fun o S1 => W (withL S1 o fun _ _ => (evR C r ρ S1).bind fun v S2 => extD o v S2) Q) : W (evE C (.ext l r) ρ S) Q := by
  simpa [evE] using h
theorem w_pop {l : CE} {Q : D → Sto → Prop} (h : W (evE C l ρ S) fun o S1 => W (popD o S1) Q) : W (evE C (.pop l) ρ S) Q := by
  simpa [evE] using h
theorem w_popAt {l i : CE} {Q : D → Sto → Prop} (h : W (evE C l ρ S) fun o S1 => W (withL S1 o fun _ _ => (evE C i ρ S1).bind fun v S2 => popAtD o v S2) Q) : W (evE C (.popAt l i) ρ S) Q := by
  simpa [evE] using h
theorem w_join {s : Str} {r : CR} {Q : D → Sto → Prop} (h : W (evR C r ρ S) fun v S1 => W (may (sqOf S1 v) fun ds => may (strsOf ds) fun ys => ask ((ys.map (·.length)).sum + ys.length * s.length ≤ 16777216) (.ok (.str (Txt.join s ys)) S1)) Q) : W (evE C (.join s r) ρ S) Q := by
  simpa [evE] using h
noncomputable def tixK (C : Orc) (b : CE) (ρ : En) (x : D) (S1 : Sto) : Res D := match x with
  | .tup ds => (evE C b ρ S1).bind fun y S2 => tixD ds y S2
  | .ref j => withL S1 (.ref j) fun _ _ => (evE C b ρ S1).bind fun y S2 => may (ixD (.ref j) y S2) fun n => .ok (.int (n : Nat)) S2
  | _ => .bad
theorem w_ins {l i x : CE} {Q : D → Sto → Prop} (h : W (evE C l ρ S) fun o S1 => W (withL S1 o fun _ _ => (evE C i ρ S1).bind fun y S2 => (evE C x ρ S2).bind fun v S3 => insD o y v S3) Q) : W (evE C (.ins l i x) ρ S) Q := by
  simpa [evE] using h
theorem w_tix {a b : CE} {Q : D → Sto → Prop} (h : W (evE C a ρ S) fun x S1 => W (tixK C b ρ x S1) Q) : W (evE C (.tix a b) ρ S) Q := by
  have e : evE C (.tix a b) ρ S = (evE C a ρ S).bind fun x S1 => tixK C b ρ x S1 := by
    rw [evE]
    rfl
  rw [e, W_bind]
  exact h
theorem v_tixT {b : CE} {ds : List D} {Q : D → Sto → Prop} (h : W (evE C b ρ S) fun y S2 => W (tixD ds y S2) Q) : W (tixK C b ρ (.tup ds) S) Q := by
  show W (Res.bind _ _) _
  rw [W_bind]
  exact h
theorem v_tixR {b : CE} {j : Nat} {ds : List D} {Q : D → Sto → Prop} (k : S[j]? = some (.lst ds)) (h : W (evE C b ρ S) fun y S2 => W (may (ixD (.ref j) y S2) fun n => .ok (.int (n : Nat)) S2) Q) : W (tixK C b ρ (.ref j) S) Q := by
  have e : tixK C b ρ (.ref j) S = (evE C b ρ S).bind fun y S2 => may (ixD (.ref j) y S2) fun n => .ok (.int (n : Nat)) S2 := by
    unfold tixK
    simp only [withL, k]
  rw [e, W_bind]
  exact h
theorem w_neg {a : CE} {Q : D → Sto → Prop} (h : W (evE C a ρ S) fun x S1 => ∃ i, x = .int i ∧ Q (.int (-i)) S1) : W (evE C (.neg a) ρ S) Q := by
  simp only [evE, W_bind]
  refine W_mono h fun x S1 ⟨i, e, k⟩ => ?_
  subst e
  simpa using k
theorem w_oN {Q : Option Int → Sto → Prop} (h : Q none S) : W (evO C (.none) ρ S) Q := by
  simpa [evO] using h
theorem w_oS {a : CE} {Q : Option Int → Sto → Prop} (h : W (evE C a ρ S) fun x S1 => ∃ i, x = .int i ∧ Q (some i) S1) : W (evO C (.some a) ρ S) Q := by
  simp only [evO, W_bind]
  refine W_mono h fun x S1 ⟨i, e, k⟩ => ?_
  subst e
  simpa using k
theorem w_nil {Q : List D → Sto → Prop} (h : Q [] S) : W (evEs C (.nil) ρ S) Q := by
  simpa [evEs] using h
theorem w_cons {a : CE} {r : CEs} {Q : List D → Sto → Prop} (h : W (evE C a ρ S) fun d S1 => W (evEs C r ρ S1) fun ds S2 => Q (d :: ds) S2) : W (evEs C (.cons a r) ρ S) Q := by
  simpa [evEs] using h
theorem w_disp {es : CEs} {Q : List D → Sto → Prop} (h : W (evEs C es ρ S) fun ds S1 => ds.length ≤ sizeLine ∧ Q ds S1) : W (evQ C (.disp es) ρ S) Q := by
  simpa [evQ] using h
theorem w_comp {own : List Nat} {g : CN} {it : CI} {elt : CE} {Q : List D → Sto → Prop} (h : W (evI C it ρ S) fun t S1 => t.items.length ≤ sizeLine ∧ W (loopQ t.still (fun d S2 => may (bindN g d (wipeE ρ own) S2) fun ρ' => (evE C elt ρ' S2).bind fun x S3 => .ok (some x) S3) t.items S1) Q) : W (evQ C (.comp own g it elt) ρ S) Q := by
  simpa [evQ] using h
theorem w_compIf {own : List Nat} {g : CN} {it : CI} {c : CT} {elt : CE} {Q : List D → Sto → Prop} (h : W (evI C it ρ S) fun t S1 => t.items.length ≤ sizeLine ∧ W (loopQ t.still (fun d S2 => may (bindN g d (wipeE ρ own) S2) fun ρ' => (evT C c ρ' S2).bind fun k S3 => if k = true then (evE C elt ρ' S3).bind fun x S4 => .ok (some x) S4 else .ok none S3) t.items S1) Q) : W (evQ C (.compIf own g it c elt) ρ S) Q := by
  simpa [evQ] using h
theorem w_cat {a b : CR} {Q : List D → Sto → Prop} (h : W (evR C a ρ S) fun v S1 => W (evR C b ρ S1) fun w S2 => W (may (trOf S2 v) fun x => may (trOf S2 w) fun y => ask (x.length + y.length ≤ sizeLine) (.ok (x ++ y) S2)) Q) : W (evQ C (.cat a b) ρ S) Q := by
  simpa [evQ] using h
theorem w_sorted {r : CR} {Q : List D → Sto → Prop} (h : W (evR C r ρ S) fun v S1 => W (may (soOf S1 v) fun ds => sortD S1 ds) Q) : W (evQ C (.sorted r) ρ S) Q := by
  simpa [evQ] using h
theorem w_list {r : CR} {Q : List D → Sto → Prop} (h : W (evR C r ρ S) fun v S1 => W (may (lstOf S1 v) fun ds => .ok ds S1) Q) : W (evQ C (.list r) ρ S) Q := by
  simpa [evQ] using h
theorem w_rev {r : CR} {Q : List D → Sto → Prop} (h : W (evR C r ρ S) fun v S1 => W (may (lsOf S1 v) fun ds => .ok ds.reverse S1) Q) : W (evQ C (.rev r) ρ S) Q := by
  simpa [evQ] using h
theorem w_listRg {a b : CE} {Q : List D → Sto → Prop} (h : W (evE C a ρ S) fun x S1 => W (evE C b ρ S1) fun y S2 => ∃ i j, x = .int i ∧ y = .int j ∧ RgOk i j ∧ Q (rgD i j) S2) : W (evQ C (.listRg a b) ρ S) Q := by
  simp only [evQ, W_bind]
  refine W_mono h fun x S1 h => W_mono h fun y S2 ⟨i, j, e1, e2, k⟩ => ?_
  subst e1 e2
  simpa using k
theorem w_q {c : CQ} {Q : RV → Sto → Prop} (h : W (evQ C c ρ S) fun ds S1 => Q (.own ds) S1) : W (evR C (.q c) ρ S) Q := by
  simpa [evR] using h
theorem w_e {c : CE} {Q : RV → Sto → Prop} (h : W (evE C c ρ S) fun d S1 => Q (.val d) S1) : W (evR C (.e c) ρ S) Q := by
  simpa [evR] using h
theorem w_ir {c : CR} {Q : Itv → Sto → Prop} (h : W (evR C c ρ S) fun v S1 => W (may (itOf v S1) fun t => .ok t S1) Q) : W (evI C (.r c) ρ S) Q := by
  simpa [evI] using h
theorem w_rg {a b : CE} {Q : Itv → Sto → Prop} (h : W (evE C a ρ S) fun x S1 => W (evE C b ρ S1) fun y S2 => ∃ i j, x = .int i ∧ y = .int j ∧ (bd62 i ∧ bd62 j) ∧ Q ⟨rgD i j, none⟩ S2) : W (evI C (.rg a b) ρ S) Q := by
  simp only [evI, W_bind]
  refine W_mono h fun x S1 h => W_mono h fun y S2 ⟨i, j, e1, e2, k⟩ => ?_
  subst e1 e2
  simpa using k
theorem w_rgd {a b : CE} {Q : Itv → Sto → Prop} (h : W (evE C a ρ S) fun x S1 => W (evE C b ρ S1) fun y S2 => ∃ i j, x = .int i ∧ y = .int j ∧ (bd62 i ∧ bd62 j) ∧ Q ⟨rgdD i j, none⟩ S2) : W (evI C (.rgd a b) ρ S) Q := by
  simp only [evI, W_bind]
  refine W_mono h fun x S1 h => W_mono h fun y S2 ⟨i, j, e1, e2, k⟩ => ?_
  subst e1 e2
  simpa using k
theorem w_tv {e : CE} {Q : Bool → Sto → Prop} (h : W (evE C e ρ S) fun x S1 => W (may (tru S1 x) fun k => .ok k S1) Q) : W (evT C (.v e) ρ S) Q := by
  simpa [evT] using h
theorem w_tand {a b : CT} {Q : Bool → Sto → Prop} (h : W (evT C a ρ S) fun k S1 => W (if k = true then evT C b ρ S1 else .ok false S1) Q) : W (evT C (.and a b) ρ S) Q := by
  simpa [evT] using h
theorem w_tor {a b : CT} {Q : Bool → Sto → Prop} (h : W (evT C a ρ S) fun k S1 => W (if k = true then .ok true S1 else evT C b ρ S1) Q) : W (evT C (.or a b) ρ S) Q := by
  simpa [evT] using h
theorem w_tnot {a : CT} {Q : Bool → Sto → Prop} (h : W (evT C a ρ S) fun k S1 => Q (!k) S1) : W (evT C (.not a) ρ S) Q := by
  simpa [evT] using h
theorem w_set {i : Nat} {e : CE} {Q : Fl → Sto → Prop} (h : W (evE C e ρ S) fun d S1 => Q (.nx (ρ.set i (some d))) S1) : W (evS C (.set (.nm i) e) ρ S) Q := by
  simpa [evS, bindN] using h
theorem w_setT {is : List Nat} {e : CE} {Q : Fl → Sto → Prop} (h : W (evE C e ρ S) fun d S1 => W (may (bindN (.tup is) d ρ S1) fun ρ' => .ok (.nx ρ') S1) Q) : W (evS C (.set (.tup is) e) ρ S) Q := by
  simpa [evS] using h
theorem w_par {i j : Nat} {a b : CE} {Q : Fl → Sto → Prop} (h : W (evE C a ρ S) fun x S1 => W (evE C b ρ S1) fun y S2 => Q (.nx ((ρ.set i (some x)).set j (some y))) S2) : W (evS C (.par i j a b) ρ S) Q := by
  simpa [evS] using h
theorem w_sub {o i e : CE} {Q : Fl → Sto → Prop} (h : W (evE C e ρ S) fun d S1 => W (evE C o ρ S1) fun x S2 => W (evE C i ρ S2) fun y S3 => W (setD x y d S3) fun _ S4 => Q (.nx ρ) S4) : W (evS C (.sub o i e) ρ S) Q := by
  simpa [evS] using h
theorem w_aug {i : Nat} {p : Bop} {e : CE} {d : D} {Q : Fl → Sto → Prop} (k : ρ[i]? = some (some d))(h : W (evE C e ρ S) fun y S1 => W (augD p d y S1) fun z S2 => Q (.nx (ρ.set i (some z))) S2) : W (evS C (.aug i p e) ρ S) Q := by
  simpa [evS, k] using h
def augK (C : Orc) (ρ : En) (p : Bop) (e : CE) (x y : D) (S2 : Sto) (Q : Fl → Sto → Prop) : Prop := W (getD x y S2) fun v S3 => W (evE C e ρ S3) fun w S4 => W (augD p v w S4) fun z S5 => W (setD x y z S5) fun _ S6 => Q (.nx ρ) S6
theorem w_augS {o i e : CE} {p : Bop} {Q : Fl → Sto → Prop} (h : W (evE C o ρ S) fun x S1 => W (evE C i ρ S1) fun y S2 => augK C ρ p e x y S2 Q) : W (evS C (.augS o i p e) ρ S) Q := by
  simp only [evS, W_bind, W_ok]
  exact h
theorem w_augK {e : CE} {p : Bop} {Q : Fl → Sto → Prop} {a : Nat} {ds : List D} {j : Int} {v : D} (k1 : S[a]? = some (.lst ds)) (k2 : atI ds j = some v) (h : W (evE C e ρ S) fun w S4 => W (augD p v w S4) fun z S5 => W (setD (.ref a) (.int j) z S5) fun _ S6 => Q (.nx ρ) S6) : augK C ρ p e (.ref a) (.int j) S Q := by
  unfold augK
  simpa [getD, idxD, k1, k2] using h
/-- the same of a dict -/
theorem w_augD {e : CE} {p : Bop} {Q : Fl → Sto → Prop} {a : Nat} {ks : List (Key × D)} {x v : D} {k : Key} (k1 : S[a]? = some (.dic ks)) (k2 : keyOf x = some k) (k3 : gD ks k = some v) (h : W (evE C e ρ S) fun w S4 => W (augD p v w S4) fun z S5 => W (setD (.ref a) x z S5) fun _ S6 => Q (.nx ρ) S6) : augK C ρ p e (.ref a) x S Q := by
  unfold augK
  cases x <;> first | (cases k2; done) | (cases k2; simpa [getD, idxD, k1, k3] using h)
theorem w_raise {Q : Fl → Sto → Prop} (h : False) : W (evS C .raise ρ S) Q := h.elim
theorem w_ex {e : CE} {Q : Fl → Sto → Prop} (h : W (evE C e ρ S) fun _ S1 => Q (.nx ρ) S1) : W (evS C (.ex e) ρ S) Q := by
  simpa [evS] using h
theorem w_ret {e : CE} {Q : Fl → Sto → Prop} (h : W (evE C e ρ S) fun d S1 => Q (.rt d) S1) : W (evS C (.ret e) ρ S) Q := by
  simpa [evS] using h
theorem w_ite {t : CT} {a b : CSs} {Q : Fl → Sto → Prop} (h : W (evT C t ρ S) fun k S1 => W (if k = true then evSs C a ρ S1 else evSs C b ρ S1) Q) : W (evS C (.ite t a b) ρ S) Q := by
  simpa [evS] using h
theorem w_for {g : CN} {it : CI} {b : CSs} {Q : Fl → Sto → Prop} (h : W (evI C it ρ S) fun t S1 => W (loopS t.still (fun d ρ1 S2 => may (bindN g d ρ1 S2) fun ρ2 => evSs C b ρ2 S2) t.items ρ S1) Q) : W (evS C (.for g it b) ρ S) Q := by
  have hd : dcAt it ρ S = none := by
    cases hd : dcAt it ρ S with
    | none => rfl
    | some q =>
      obtain ⟨a, ks⟩ := q
      obtain ⟨i, rfl, ei, es⟩ := dcAt_some hd
      obtain ⟨t, S1, e, _⟩ := h
      simp [evI, evR, evE, ei, es, may, itOf, sqOf, lsOf, Res.bind] at e
  simp only [evS, hd, W_bind]
  exact h
/-- a loop over a dict by its name -/
theorem w_forD {g : CN} {i a : Nat} {ks : List (Key × D)} {b : CSs} {Q : Fl → Sto → Prop} (ei : ρ[i]? = some (some (.ref a))) (es : S[a]? = some (.dic ks)) (h : W (loopS (fun S2 => S2[a]? = some (.frd ks)) (fun d ρ1 S2 => may (bindN g d ρ1 S2) fun ρ2 => evSs C b ρ2 S2) (ks.map fun p => keyD p.1) ρ (S.set a (.frd ks))) fun fl S3 => S3[a]? = some (.frd ks) ∧ Q fl (S3.set a (.dic ks))) : W (evS C (.for g (.r (.e (.var i))) b) ρ S) Q := by
  have hd : dcAt (.r (.e (.var i))) ρ S = some (a, ks) := by simp [dcAt, ei, es]
  simp only [evS, hd, W_bind]
  refine W_mono h fun fl S3 q => ?_
  rw [PQ.ask, if_pos q.1]
  exact ⟨_, _, rfl, q.2⟩
theorem w_while {t : CT} {b : CSs} {Q : Fl → Sto → Prop} (h : W (whileS (evT C t) (evSs C b) turns ρ S) Q) : W (evS C (.while t b) ρ S) Q := by
  simpa [evS] using h
theorem w_brk {Q : Fl → Sto → Prop} (h : Q (.bk ρ) S) : W (evS C (.brk) ρ S) Q := by
  simpa [evS] using h
theorem w_cont {Q : Fl → Sto → Prop} (h : Q (.ct ρ) S) : W (evS C (.cont) ρ S) Q := by
  simpa [evS] using h
theorem w_pass {Q : Fl → Sto → Prop} (h : Q (.nx ρ) S) : W (evS C (.pass) ρ S) Q := by
  simpa [evS] using h
theorem w_snil {Q : Fl → Sto → Prop} (h : Q (.nx ρ) S) : W (evSs C (.nil) ρ S) Q := by
  simpa [evSs] using h
noncomputable def seqK (C : Orc) (r : CSs) (fl : Fl) (S1 : Sto) : Res Fl := match fl with
  | .nx ρ' => evSs C r ρ' S1
  | f => .ok f S1
theorem w_scons {s : CS} {r : CSs} {Q : Fl → Sto → Prop} (h : W (evS C s ρ S) fun fl S1 => W (seqK C r fl S1) Q) : W (evSs C (.cons s r) ρ S) Q := by
  have e : evSs C (.cons s r) ρ S = (evS C s ρ S).bind fun fl S1 => seqK C r fl S1 := rfl
  rw [e, W_bind]
  exact h
theorem w_nx {r : CSs} {Q : Fl → Sto → Prop} (h : W (evSs C r ρ S) Q) : W (seqK C r (.nx ρ) S) Q := h
theorem w_rt {r : CSs} {d : D} {Q : Fl → Sto → Prop} (h : Q (.rt d) S) : W (seqK C r (.rt d) S) Q := w_mk h where
  w_mk {fl : Fl} (h : Q fl S) : W (.ok fl S) Q := (W_ok (Q := Q)).symm ▸ h
theorem w_bk {r : CSs} {Q : Fl → Sto → Prop} (h : Q (.bk ρ) S) : W (seqK C r (.bk ρ) S) Q := (W_ok (Q := Q)).symm ▸ h
theorem w_ct {r : CSs} {Q : Fl → Sto → Prop} (h : Q (.ct ρ) S) : W (seqK C r (.ct ρ) S) Q := (W_ok (Q := Q)).symm ▸ h
theorem v_add {i j : Int} {Q : D → Sto → Prop} (h : Q (.int (i + j)) S) : W (binD .add (.int i) (.int j) S) Q := by
  simpa [binD] using h
theorem v_sub {i j : Int} {Q : D → Sto → Prop} (h : Q (.int (i - j)) S) : W (binD .sub (.int i) (.int j) S) Q := by
  simpa [binD] using h
theorem v_band {i j : Int} {Q : D → Sto → Prop} (h : Q (.int (Builtin.bitAnd i j)) S) : W (binD .band (.int i) (.int j) S) Q := by
  simpa [binD] using h
theorem v_bor {i j : Int} {Q : D → Sto → Prop} (h : Q (.int (Builtin.bitOr i j)) S) : W (binD .bor (.int i) (.int j) S) Q := by
  simpa [binD] using h
theorem v_bxor {i j : Int} {Q : D → Sto → Prop} (h : Q (.int (Builtin.bitXor i j)) S) : W (binD .bxor (.int i) (.int j) S) Q := by
  simpa [binD] using h
theorem v_mul {i j : Int} {Q : D → Sto → Prop} (k : IntMulOk i j) (h : Q (.int (i * j)) S) : W (binD .mul (.int i) (.int j) S) Q := by
  simpa [binD, k] using h
theorem v_fdiv {i j : Int} {Q : D → Sto → Prop} (k : FDivOk i j) (h : Q (.int (i.fdiv j)) S) : W (binD .fdiv (.int i) (.int j) S) Q := by
  simpa [binD, k] using h
theorem v_mod {i j : Int} {Q : D → Sto → Prop} (k : j ≠ 0) (h : Q (.int (i.fmod j)) S) : W (binD .mod (.int i) (.int j) S) Q := by
  simpa [binD, k] using h
theorem v_pow {i j : Int} {Q : D → Sto → Prop} (k : CPow i j) (h : Q (.int (i ^ j.toNat)) S) : W (binD .pow (.int i) (.int j) S) Q := by
  simpa [binD, k] using h
theorem v_shl {i j : Int} {Q : D → Sto → Prop} (k : CPow i j) (h : Q (.int (i * 2 ^ j.toNat)) S) : W (binD .shl (.int i) (.int j) S) Q := by
  simpa [binD, k] using h
theorem v_shr {i j : Int} {Q : D → Sto → Prop} (k : 0 ≤ j) (h : Q (.int (i / 2 ^ j.toNat)) S) : W (binD .shr (.int i) (.int j) S) Q := by
  simpa [binD, k] using h
theorem v_addT {a b : List D} {Q : D → Sto → Prop} (k : a.length + b.length ≤ sizeLine) (h : Q (.tup (a ++ b)) S) : W (binD .add (.tup a) (.tup b) S) Q := by
  simpa [binD, k] using h
theorem v_addS {a b : Str} {Q : D → Sto → Prop} (k : a.length + b.length ≤ sizeLine) (h : Q (.str (a ++ b)) S) : W (binD .add (.str a) (.str b) S) Q := by
  simpa [binD, k] using h
theorem v_addL {i j : Nat} {a b : List D} {Q : D → Sto → Prop} (k1 : S[i]? = some (.lst a)) (k2 : S[j]? = some (.lst b)) (k : a.length + b.length ≤ sizeLine) (h : Q (.ref S.length) (S ++ [.lst (a ++ b)])) : W (binD .add (.ref i) (.ref j) S) Q := by
  simpa [binD, k, k1, k2] using h
theorem v_augAdd {i j : Int} {Q : D → Sto → Prop} (h : Q (.int (i + j)) S) : W (augD .add (.int i) (.int j) S) Q := by
  simpa [augD] using h
theorem v_augSub {i j : Int} {Q : D → Sto → Prop} (h : Q (.int (i - j)) S) : W (augD .sub (.int i) (.int j) S) Q := by
  simpa [augD] using h
theorem v_ordD {o : Cop} {x y : D} {p q : PyData} {Q : D → Sto → Prop} (hx : toP S x = some p) (hy : toP S y = some q) (hc : cmpOk p q = true) (h : Q (.bl (ordP o p q)) S) : W (ordD o x y S) Q := by
  unfold ordD
  rw [hx, hy]
  simpa [hc] using h
theorem v_lt {i j : Int} {Q : D → Sto → Prop} (h : Q (.bl (decide (i < j))) S) : W (cmpD .lt (.int i) (.int j) S) Q := by
  simpa [cmpD, cmpI] using h
theorem v_le {i j : Int} {Q : D → Sto → Prop} (h : Q (.bl (decide (i ≤ j))) S) : W (cmpD .le (.int i) (.int j) S) Q := by
  simpa [cmpD, cmpI] using h
theorem v_gt {i j : Int} {Q : D → Sto → Prop} (h : Q (.bl (decide (j < i))) S) : W (cmpD .gt (.int i) (.int j) S) Q := by
  simpa [cmpD, cmpI] using h
theorem v_ge {i j : Int} {Q : D → Sto → Prop} (h : Q (.bl (decide (j ≤ i))) S) : W (cmpD .ge (.int i) (.int j) S) Q := by
  simpa [cmpD, cmpI] using h
theorem v_eq {i j : Int} {Q : D → Sto → Prop} (h : Q (.bl (decide (i = j))) S) : W (cmpD .eq (.int i) (.int j) S) Q := by
  simpa [cmpD, dEq, scalD, eqSc] using h
theorem v_ne {i j : Int} {Q : D → Sto → Prop} (h : Q (.bl (!decide (i = j))) S) : W (cmpD .ne (.int i) (.int j) S) Q := by
  simpa [cmpD, dEq, scalD, eqSc] using h
theorem v_eqS {i j : Str} {Q : D → Sto → Prop} (h : Q (.bl (decide (i = j))) S) : W (cmpD .eq (.str i) (.str j) S) Q := by
  simpa [cmpD, dEq, scalD, eqSc] using h
theorem v_neS {i j : Str} {Q : D → Sto → Prop} (h : Q (.bl (!decide (i = j))) S) : W (cmpD .ne (.str i) (.str j) S) Q := by
  simpa [cmpD, dEq, scalD, eqSc] using h
theorem v_eqB {i j : Bool} {Q : D → Sto → Prop} (h : Q (.bl (decide (i = j))) S) : W (cmpD .eq (.bl i) (.bl j) S) Q := by
  simpa [cmpD, dEq, scalD, eqSc] using h
theorem v_intI {i : Int} {Q : D → Sto → Prop} (h : Q (.int i) S) : W (fn1D .int (.int i) S) Q := by
  simpa [fn1D] using h
theorem v_intB {b : Bool} {Q : D → Sto → Prop} (h : Q (.int (if b = true then 1 else 0)) S) : W (fn1D .int (.bl b) S) Q := by
  simpa [fn1D] using h
theorem v_abs {i : Int} {Q : D → Sto → Prop} (h : Q (.int (if i < 0 then -i else i)) S) : W (fn1D .abs (.int i) S) Q := by
  simpa [fn1D] using h
theorem v_str {i : Int} {Q : D → Sto → Prop} (k : i.natAbs.log2 < 1920) (h : Q (.str (toString i)) S) : W (fn1D .str (.int i) S) Q := by
  simpa [fn1D, k] using h
theorem v_repr {x : D} {p : PyData} {Q : D → Sto → Prop} (k : toP S x = some p) (h1 : p.showable = true) (h2 : p.hasDict = false) (h3 : p.shown.length ≤ sizeLine) (h4 : p.depth ≤ 1000) (h : Q (.str p.shown) S) : W (fn1D .repr x S) Q := by
  have e : fn1D .repr x S = may (toP S x) fun p => if p.showable = true ∧ p.hasDict = false ∧ p.shown.length ≤ sizeLine ∧ p.depth ≤ 1000 then .ok (.str p.shown) S else .bad := by cases x <;> rfl
  rw [e, k, may_some, if_pos ⟨h1, h2, h3, h4⟩, W_ok]
  exact h
theorem v_gcd {i j : Int} {Q : D → Sto → Prop} (h : Q (.int ((Nat.gcd i.natAbs j.natAbs : Nat) : Int)) S) : W (fn2D .gcd (.int i) (.int j) S) Q := by
  simpa [fn2D] using h
theorem v_min2 {i j : Int} {Q : D → Sto → Prop} (h : Q (.int (if j < i then j else i)) S) : W (fn2D .min (.int i) (.int j) S) Q := by
  simpa [fn2D] using h
theorem v_max2 {i j : Int} {Q : D → Sto → Prop} (h : Q (.int (if j > i then j else i)) S) : W (fn2D .max (.int i) (.int j) S) Q := by
  simpa [fn2D] using h
theorem v_idx {a : Nat} {ds : List D} {i : Int} {d : D} {Q : D → Sto → Prop} (k1 : S[a]? = some (.lst ds)) (k2 : atI ds i = some d) (h : Q d S) : W (idxD (.ref a) (.int i) S) Q := by
  simpa [idxD, k1, k2] using h
theorem v_idxT {ds : List D} {i : Int} {d : D} {Q : D → Sto → Prop} (k2 : atI ds i = some d) (h : Q d S) : W (idxD (.tup ds) (.int i) S) Q := by
  simpa [idxD, k2] using h
theorem v_idxF {ds : List D} {i : Int} {d : D} {Q : D → Sto → Prop} (k2 : atI ds i = some d) (h : Q d S) : W (idxD (.fix ds) (.int i) S) Q := by
  simpa [idxD, k2] using h
theorem v_slc {a : Nat} {ds : List D} {lo hi : Option Int} {Q : D → Sto → Prop} (k1 : S[a]? = some (.lst ds)) (h : Q (.ref S.length) (S ++ [.lst (cutD ds lo hi)])) : W (slcD (.ref a) lo hi S) Q := by
  simpa [slcD, k1] using h
theorem v_slcT {ds : List D} {lo hi : Option Int} {Q : D → Sto → Prop} (h : Q (.tup (cutD ds lo hi)) S) : W (slcD (.tup ds) lo hi S) Q := by
  simpa [slcD] using h
theorem v_app {a : Nat} {ds : List D} {v : D} {Q : D → Sto → Prop} (k1 : S[a]? = some (.lst ds)) (k2 : ds.length < sizeLine) (h : Q .non (S.set a (.lst (ds ++ [v])))) : W (appD (.ref a) v S) Q := by
  simpa [appD, withL, k1, k2] using h
theorem v_len {v : RV} {ds : List D} {Q : D → Sto → Prop} (k : sqOf S v = some ds) (h : Q (.int ds.length) S) : W (aggD .len v S) Q := by
  have e : aggD .len v S = .ok (.int ds.length) S := by
    cases v with
    | own xs =>
      have e : aggD .len (.own xs) S = .ok (.int xs.length) S := rfl
      cases k
      exact e
    | val d =>
      cases d with
      | str z => simp [sqOf, lsOf] at k
      | non => simp [sqOf, lsOf] at k
      | bl z => simp [sqOf, lsOf] at k
      | int z => simp [sqOf, lsOf] at k
      | tup z =>
        have e : aggD .len (.val (.tup z)) S = .ok (.int z.length) S := rfl
        cases k
        exact e
      | fix z =>
        have e : aggD .len (.val (.fix z)) S = .ok (.int z.length) S := rfl
        cases k
        exact e
      | ref z =>
        have e : aggD .len (.val (.ref z)) S = may (lenOf S (.val (.ref z))) fun n => .ok (.int n) S := rfl
        unfold lenOf at e
        rw [e, k]
        rfl
  rw [e, W_ok]
  exact h
theorem v_tuple {v : RV} {ds : List D} {Q : D → Sto → Prop} (k : sqOf S v = some ds) (h : Q (.tup ds) S) : W (aggD .tuple v S) Q := by
  simpa [aggD, k] using h
theorem v_sum {v : RV} {ds : List D} {ns : List Int} {Q : D → Sto → Prop} (k : lsOf S v = some ds) (k2 : intsOf ds = some ns) (h : Q (.int ns.sum) S) : W (aggD .sum v S) Q := by
  simpa [aggD, k, k2] using h
theorem v_all {v : RV} {ds : List D} {bs : List Bool} {Q : D → Sto → Prop} (k : lsOf S v = some ds) (k2 : boolsOf ds = some bs) (h : Q (.bl (bs.all id)) S) : W (aggD .all v S) Q := by
  simpa [aggD, k, k2] using h
theorem v_any {v : RV} {ds : List D} {bs : List Bool} {Q : D → Sto → Prop} (k : lsOf S v = some ds) (k2 : boolsOf ds = some bs) (h : Q (.bl (bs.any id)) S) : W (aggD .any v S) Q := by
  simpa [aggD, k, k2] using h
theorem v_max {v : RV} {ds : List D} {ns : List Int} {m : Int} {Q : D → Sto → Prop} (k : lsOf S v = some ds) (k2 : intsOf ds = some ns) (k3 : greatest ns = some m) (h : Q (.int m) S) : W (aggD .max v S) Q := by
  simpa [aggD, k, k2, k3] using h
theorem v_min {v : RV} {ds : List D} {ns : List Int} {m : Int} {Q : D → Sto → Prop} (k : lsOf S v = some ds) (k2 : intsOf ds = some ns) (k3 : least ns = some m) (h : Q (.int m) S) : W (aggD .min v S) Q := by
  simpa [aggD, k, k2, k3] using h
theorem v_set {a : Nat} {ds : List D} {i : Int} {j : Nat} {v : D} {Q : Unit → Sto → Prop} (k1 : S[a]? = some (.lst ds)) (k2 : ixN ds.length i = some j) (h : Q () (S.set a (.lst (ds.set j v)))) : W (setD (.ref a) (.int i) v S) Q := by
  simpa [setD, isDic, withL, k1, k2] using h
theorem v_addB {i : Int} {b : Bool} {Q : D → Sto → Prop} (h : Q (.int (i + if b = true then 1 else 0)) S) : W (binD .add (.int i) (.bl b) S) Q := by
  simpa [binD] using h
theorem v_mulS {a : Str} {k : Int} {Q : D → Sto → Prop} (z : MulOk a k) (h : Q (.str (Txt.mul a k)) S) : W (binD .mul (.str a) (.int k) S) Q := by
  simpa [binD, z] using h
theorem w_dnew {Q : D → Sto → Prop} (h : Q (.ref S.length) (S ++ [.dic []])) : W (evE C .dnew ρ S) Q := by
  simpa [evE] using h
theorem w_dget {a k x : CE} {Q : D → Sto → Prop} (h : W (evE C a ρ S) fun o S1 => W (withR S1 o fun _ _ => (evE C k ρ S1).bind fun y S2 => (evE C x ρ S2).bind fun z S3 => dgetD o y z S3) Q) : W (evE C (.dget a k x) ρ S) Q := by
  simpa [evE] using h
theorem v_dget {a : Nat} {ks : List (Key × D)} {x y : D} {k : Key} {Q : D → Sto → Prop} (k1 : S[a]? = some (.dic ks)) (k2 : keyOf x = some k) (h : Q ((gD ks k).getD y) S) : W (dgetD (.ref a) x y S) Q := by
  simpa [dgetD, withR, k1, k2] using h
theorem v_dgetF {a : Nat} {ks : List (Key × D)} {x y : D} {k : Key} {Q : D → Sto → Prop} (k1 : S[a]? = some (.frd ks)) (k2 : keyOf x = some k) (h : Q ((gD ks k).getD y) S) : W (dgetD (.ref a) x y S) Q := by
  simpa [dgetD, withR, k1, k2] using h
/-- d[k] while d is walked -/
theorem v_idxF_ {a : Nat} {ks : List (Key × D)} {x d : D} {k : Key} {Q : D → Sto → Prop} (k1 : S[a]? = some (.frd ks)) (k2 : keyOf x = some k) (k3 : gD ks k = some d) (h : Q d S) : W (idxD (.ref a) x S) Q := by
  cases x <;> first | (cases k2; done) | (cases k2; simpa [idxD, k1, k3, may] using h)
theorem v_setK {a : Nat} {ks : List (Key × D)} {x v : D} {k : Key} {Q : Unit → Sto → Prop} (k1 : S[a]? = some (.dic ks)) (k2 : keyOf x = some k) (k3 : ks.length < sizeLine) (h : Q () (S.set a (.dic (pD ks k v)))) : W (setD (.ref a) x v S) Q := by
  simpa [setD, isDic, withD, k1, k2, k3] using h
theorem v_idxK {a : Nat} {ks : List (Key × D)} {x d : D} {k : Key} {Q : D → Sto → Prop} (k1 : S[a]? = some (.dic ks)) (k2 : keyOf x = some k) (k3 : gD ks k = some d) (h : Q d S) : W (idxD (.ref a) x S) Q := by
  cases x <;> first | (cases k2; done) | (cases k2; simpa [idxD, k1, k3] using h)
theorem v_lenD {a : Nat} {ks : List (Key × D)} {Q : D → Sto → Prop} (k1 : S[a]? = some (.dic ks)) (h : Q (.int ks.length) S) : W (aggD .len (.val (.ref a)) S) Q := by
  have e : aggD .len (.val (.ref a)) S = may (lenOf S (.val (.ref a))) fun n => .ok (.int n) S := rfl
  have e2 : lenOf S (.val (.ref a)) = some ks.length := by simp [lenOf, sqOf, lsOf, dicOf, k1]
  rw [e, e2, may_some, W_ok]
  exact h
theorem inD_sign {c : Nat} {z : Str} : inD (.str ⟨#[c]⟩) (.val (.str z)) S = some (decide (c ∈ z.cps.toList)) := rfl
theorem inD_dic {a : Nat} {ks : List (Key × D)} {x : D} {k : Key} (k1 : S[a]? = some (.dic ks)) (k2 : keyOf x = some k) : inD x (.val (.ref a)) S = some (gD ks k).isSome := by
  cases x <;> simp [inD, signIn, sqOf, lsOf, dicOf, k1, k2]
section
variable {α β : Type} {Q : α → Sto → Prop}
theorem w_may {o : Option β} {f : β → Res α} {b : β} (k : o = some b) (h : W (f b) Q) : W (may o f) Q := by
  rw [k, may_some]
  exact h
theorem w_ask {p : Prop} {r : Res α} (k : p) (h : W r Q) : W (ask p r) Q := by
  rw [W_ask]
  exact ⟨k, h⟩
theorem w_ok {a : α} (h : Q a S) : W (.ok a S) Q := by
  rw [W_ok]
  exact h
theorem w_bind {r : Res β} {f : β → Sto → Res α} (h : W r fun b S => W (f b S) Q) : W (r.bind f) Q := by
  rw [W_bind]
  exact h
theorem w_withL {a : Nat} {ds : List D} {f : Nat → List D → Res α} (k : S[a]? = some (.lst ds)) (h : W (f a ds) Q) : W (withL S (.ref a) f) Q := by
  simpa [withL, k] using h
theorem w_withR {a : Nat} {ks : List (Key × D)} {f : Nat → List (Key × D) → Res α} (k : S[a]? = some (.dic ks)) (h : W (f a ks) Q) : W (withR S (.ref a) f) Q := by
  simpa [withR, k] using h
theorem w_withRf {a : Nat} {ks : List (Key × D)} {f : Nat → List (Key × D) → Res α} (k : S[a]? = some (.frd ks)) (h : W (f a ks) Q) : W (withR S (.ref a) f) Q := by
  simpa [withR, k] using h
theorem w_withD {a : Nat} {ks : List (Key × D)} {f : Nat → List (Key × D) → Res α} (k : S[a]? = some (.dic ks)) (h : W (f a ks) Q) : W (withD S (.ref a) f) Q := by
  simpa [withD, k] using h
theorem w_if {k : Bool} {A B : Res α} (h1 : k = true → W A Q) (h2 : k = false → W B Q) : W (if k = true then A else B) Q := by
  cases k
  · exact h2 rfl
  · exact h1 rfl
theorem w_ifd {p : Prop} {_ : Decidable p} {A B : Res α} (h1 : p → W A Q) (h2 : ¬p → W B Q) : W (if decide p = true then A else B) Q := w_if (fun h => h1 (of_decide_eq_true h)) fun h => h2 (of_decide_eq_false h)
theorem w_if_T {k : Bool} {A B : Res α} (hk : k = true) (h : W A Q) : W (if k = true then A else B) Q := by
  subst hk
  exact h
theorem w_if_F {k : Bool} {A B : Res α} (hk : k = false) (h : W B Q) : W (if k = true then A else B) Q := by
  subst hk
  exact h
theorem w_if_t {A B : Res α} (h : W A Q) : W (if true = true then A else B) Q := h
theorem w_if_f {A B : Res α} (h : W B Q) : W (if false = true then A else B) Q := h
theorem w_if_nt {A B : Res α} (h : W B Q) : W (if (!true) = true then A else B) Q := h
theorem w_if_nf {A B : Res α} (h : W A Q) : W (if (!false) = true then A else B) Q := h
theorem w_tru_b {b : Bool} {f : Bool → Res α} (h : W (f b) Q) : W (may (tru S (.bl b)) f) Q := h
theorem w_tru_i {i : Int} {f : Bool → Res α} (h : W (f (i != 0)) Q) : W (may (tru S (.int i)) f) Q := h
theorem w_tru_t {ds : List D} {f : Bool → Res α} (h : W (f (!ds.isEmpty)) Q) : W (may (tru S (.tup ds)) f) Q := h
theorem w_tru_r {i : Nat} {ds : List D} {f : Bool → Res α} (k : S[i]? = some (.lst ds)) (h : W (f (!ds.isEmpty)) Q) : W (may (tru S (.ref i)) f) Q := by
  simpa [tru, k] using h
end
/-- a body's end -/
noncomputable def retK (fl : Fl) (S : Sto) : Res D := match fl with
  | .nx _ => .ok .non S
  | .rt d => .ok d S
  | _ => .bad
theorem r_nx {Q : D → Sto → Prop} (h : Q .non S) : W (retK (.nx ρ) S) Q := (W_ok (Q := Q)).symm ▸ h
theorem r_rt {d : D} {Q : D → Sto → Prop} (h : Q d S) : W (retK (.rt d) S) Q := (W_ok (Q := Q)).symm ▸ h
/-- what a def hands back, its names laid out -/
theorem def_w {fn : Fn} {ds : List D} {ρ : En} {Q : D → Sto → Prop} (hl : ds.length = fn.ps) (hN : startE fn.N.length ds = ρ) (h : W (evSs C fn.body ρ S) fun fl S1 => W (retK fl S1) fun d S' => W (gc S d S') Q) : W (callF C fn ds S) Q := by
  subst hN
  refine callF_w hl ?_
  have e : runB C fn ds S = (evSs C fn.body (startE fn.N.length ds) S).bind fun fl S' => retK fl S' := rfl
  rw [e, W_bind]
  exact h
theorem orc_w {T : List Fn} {k f : Nat} {fn : Fn} {ds : List D} {ρ : En} {Q : D → Sto → Prop} (hf : T[f]? = some fn) (hl : ds.length = fn.ps) (hN : startE fn.N.length ds = ρ) (h : W (evSs (orc T k) fn.body ρ S) fun fl S1 => W (retK fl S1) fun d S' => W (gc S d S') Q) : W (orc T (k + 1) f ds S) Q := by
  have e : orc T (k + 1) f ds S = callF (orc T k) fn ds S := by
    show (match T[f]? with
      | some fn => callF (orc T k) fn ds S
      | none => Res.bad) = _
    rw [hf]
  rw [e]
  exact def_w hl hN h
theorem g_self {d : D} {Q : D → Sto → Prop} (h : Q d S) : W (gc S d S) Q := by
  rw [gc_self, W_ok]
  exact h
end PQ

namespace PQ
open PySem PySem.Spec PyProof.Rows L2
local macro_rules
  | `(tactic| mul_fits) => `(tactic| (repeat (first
    | (with_reducible refine PQ.w_scons ?_)
    | ((with_reducible apply PQ.w_var); (focus (exact rfl)))
    | (with_reducible refine PQ.w_bin ?_)
    | (with_reducible refine PQ.w_call ?_)
    | (with_reducible refine PQ.w_cons ?_)
    | (with_reducible refine PQ.w_nil ?_)
    | (with_reducible refine PQ.w_lit ?_)
    | (with_reducible refine PQ.w_cmp ?_)
    | (with_reducible refine PQ.w_idx ?_)
    | (with_reducible refine PQ.w_set ?_)
    | (with_reducible refine PQ.w_ret ?_)
    | (with_reducible refine PQ.w_ite ?_)
    | (with_reducible refine PQ.w_tv ?_)
    | (with_reducible refine PQ.w_tnot ?_)
    | (with_reducible refine PQ.w_nx ?_)
    | (with_reducible refine PQ.w_rt ?_)
    | (with_reducible refine PQ.w_if_t ?_)
    | (with_reducible refine PQ.w_if_f ?_)
    | (with_reducible refine PQ.w_if_nt ?_)
    | (with_reducible refine PQ.w_if_nf ?_)
    | (with_reducible refine PQ.w_tru_b ?_)
    | (with_reducible refine PQ.w_tru_i ?_)
    | (with_reducible refine PQ.w_tru_t ?_)
    | (with_reducible refine PQ.w_ok ?_)
    | (with_reducible refine PQ.w_snil ?_)
    | (with_reducible refine PQ.w_ex ?_)
    | (with_reducible refine PQ.w_agg ?_)
    | (with_reducible refine PQ.w_fn1 ?_)
    | (with_reducible refine PQ.w_fn2 ?_)
    | (with_reducible refine PQ.w_tup ?_)
    | (with_reducible refine PQ.w_alloc ?_)
    | (with_reducible refine PQ.w_disp ?_)
    | (with_reducible refine PQ.w_e ?_)
    | (with_reducible refine PQ.w_q ?_)
    | (with_reducible refine PQ.w_ir ?_)
    | (with_reducible refine PQ.w_for ?_)
    | (with_reducible refine PQ.w_comp ?_)
    | (with_reducible refine PQ.w_compIf ?_)
    | (with_reducible refine PQ.w_and ?_)
    | (with_reducible refine PQ.w_or ?_)
    | (with_reducible refine PQ.w_not ?_)
    | (with_reducible refine PQ.w_ife ?_)
    | (with_reducible refine PQ.w_slc ?_)
    | (with_reducible refine PQ.w_oN ?_)
    | (with_reducible refine PQ.w_isi ?_)
    | (with_reducible refine PQ.w_app ?_)
    | (with_reducible refine PQ.w_ext ?_)
    | (with_reducible refine PQ.w_pop ?_)
    | (with_reducible refine PQ.w_popAt ?_)
    | (with_reducible refine PQ.w_isN ?_)
    | (with_reducible refine PQ.w_notN ?_)
    | (with_reducible refine PQ.w_inr ?_)
    | (with_reducible refine PQ.w_notInr ?_)
    | (with_reducible refine PQ.w_chn ?_)
    | (with_reducible refine PQ.w_tand ?_)
    | (with_reducible refine PQ.w_tor ?_)
    | (with_reducible refine PQ.w_cat ?_)
    | (with_reducible refine PQ.w_sorted ?_)
    | (with_reducible refine PQ.w_list ?_)
    | (with_reducible refine PQ.w_rev ?_)
    | (with_reducible refine PQ.w_setT ?_)
    | (with_reducible refine PQ.w_par ?_)
    | (with_reducible refine PQ.w_sub ?_)
    | (with_reducible refine PQ.w_bk ?_)
    | (with_reducible refine PQ.w_ct ?_)
    | (with_reducible refine PQ.w_brk ?_)
    | (with_reducible refine PQ.w_cont ?_)
    | (with_reducible refine PQ.w_pass ?_)
    | (with_reducible refine PQ.v_add ?_)
    | (with_reducible refine PQ.v_sub ?_)
    | (with_reducible refine PQ.v_band ?_)
    | (with_reducible refine PQ.v_bor ?_)
    | (with_reducible refine PQ.v_bxor ?_)
    | (with_reducible refine PQ.v_augAdd ?_)
    | (with_reducible refine PQ.v_augSub ?_)
    | (with_reducible refine PQ.v_lt ?_)
    | (with_reducible refine PQ.v_le ?_)
    | (with_reducible refine PQ.v_gt ?_)
    | (with_reducible refine PQ.v_ge ?_)
    | (with_reducible refine PQ.v_eq ?_)
    | (with_reducible refine PQ.v_ne ?_)
    | (with_reducible refine PQ.v_eqS ?_)
    | (with_reducible refine PQ.v_neS ?_)
    | (with_reducible refine PQ.v_eqB ?_)
    | (with_reducible refine PQ.v_intI ?_)
    | (with_reducible refine PQ.v_intB ?_)
    | (with_reducible refine PQ.v_abs ?_)
    | (with_reducible refine PQ.v_gcd ?_)
    | (with_reducible refine PQ.v_min2 ?_)
    | (with_reducible refine PQ.v_max2 ?_)
    | (with_reducible refine PQ.v_slcT ?_)
    | (with_reducible refine PQ.w_bind ?_)
    | (with_reducible refine PQ.r_nx ?_)
    | (with_reducible refine PQ.r_rt ?_)
    | (with_reducible refine PQ.g_self ?_)
    | ((with_reducible apply PQ.w_aug); (focus (exact rfl)))
    | (with_reducible refine PQ.w_neg ?_)
    | (with_reducible refine PQ.w_oS ?_)
    | (with_reducible refine PQ.w_listRg ?_)
    | (with_reducible refine PQ.w_rg ?_)
    | (with_reducible refine PQ.w_augS ?_)
    | ((with_reducible apply PQ.v_mul); (focus (first | assumption | exact .of_left (by decide +kernel) | exact .of_right (by decide +kernel))))
    | ((with_reducible apply PQ.v_fdiv); (focus (first | assumption | exact ⟨by omega, PyProof.noPylong_small (by omega)⟩)))
    | ((with_reducible apply PQ.v_mod); (focus (first | assumption | omega)))
    | ((with_reducible apply PQ.v_pow); (focus (first | assumption | (unfold CPow; decide +kernel) | (unfold CPow; omega))))
    | ((with_reducible apply PQ.v_shl); (focus (first | assumption | (unfold CPow; decide +kernel) | (unfold CPow; omega))))
    | ((with_reducible apply PQ.v_shr); (focus (first | assumption | omega)))
    | ((with_reducible apply PQ.v_idx); (focus (first | exact rfl | assumption)); (focus (first | exact rfl | assumption)))
    | ((with_reducible apply PQ.v_idxT); (focus (first | exact rfl | assumption)))
    | ((with_reducible apply PQ.v_idxF); (focus (first | exact rfl | assumption)))
    | ((with_reducible apply PQ.v_len); (focus (first | exact rfl | assumption)))
    | ((with_reducible apply PQ.v_tuple); (focus (first | exact rfl | assumption)))
    | ((with_reducible apply PQ.v_sum); (focus (first | exact rfl | assumption)); (focus (first | exact rfl | assumption)))
    | ((with_reducible apply PQ.v_all); (focus (first | exact rfl | assumption)); (focus (first | exact rfl | assumption)))
    | ((with_reducible apply PQ.v_any); (focus (first | exact rfl | assumption)); (focus (first | exact rfl | assumption)))
    | ((with_reducible apply PQ.v_slc); (focus (first | exact rfl | assumption)))
    | ((with_reducible apply PQ.v_set); (focus (first | exact rfl | assumption)); (focus (first | exact rfl | assumption)))
    | ((with_reducible apply PQ.w_withL); (focus (first | exact rfl | assumption)))
    | ((with_reducible apply PQ.v_app); (focus (first | exact rfl | assumption)); (focus (first | assumption | exact Nat.lt_of_lt_of_le (Nat.lt_succ_self _) (Nat.le_of_ble_eq_true rfl) | omega)))
    | ((with_reducible apply PQ.v_addT); (focus (first | assumption | exact Nat.le_of_ble_eq_true rfl | omega)))
    | ((with_reducible apply PQ.v_addS); (focus (first | assumption | exact Nat.le_of_ble_eq_true rfl | omega)))
    | ((with_reducible apply PQ.v_addL); (focus (first | exact rfl | assumption)); (focus (first | exact rfl | assumption)); (focus (first | assumption | exact Nat.le_of_ble_eq_true rfl | omega)))
    | ((with_reducible apply PQ.w_tru_r); (focus (first | exact rfl | assumption)))
    | ((with_reducible apply PQ.w_if_T); (focus (exact rfl)))
    | ((with_reducible apply PQ.w_if_F); (focus (exact rfl)))
    | ((with_reducible apply PQ.w_may); (focus (exact rfl)))
    | ((with_reducible refine ⟨_, rfl, ?_⟩))
    | ((with_reducible apply PQ.w_augK); (focus (first | exact rfl | assumption)); (focus (first | exact rfl | assumption)))
    | ((with_reducible refine ⟨_, _, rfl, rfl, ?_, ?_⟩); (focus (first | assumption | (unfold bd62; omega) | (unfold RgOk; omega))))
    | ((with_reducible refine ⟨?_, ?_⟩); (focus (first | assumption | exact Nat.le_of_ble_eq_true rfl | omega))))))
/-! ### the draws: every law has them -/
/-- .. from the place where the number is read -/
def bDraw2 : CSs := (.cons (.augS (.var 0) (.lit (.int 1)) .add (.lit (.int 1)))
  (.cons (.ite (.v (.cmp .ge (.var 3) (.bin .mul (.lit (.int 2)) (.bin .pow (.lit (.int 10)) (.lit (.int 18))))))
  (.cons (.set (.nm 2) (.bin .mod (.fn1 .int (.bin .fdiv (.var 3) (.lit (.int 2)))) (.bin .shl (.lit (.int 1)) (.lit (.int 6000)))))
  (.cons (.sub (.var 0) (.lit (.int 2)) (.bin .fdiv (.var 2) (.var 1)))
  (.cons (.ret (.bin .mod (.fn1 .int (.var 2)) (.var 1)))
  .nil)))
  .nil)
  (.cons (.sub (.var 0) (.lit (.int 3)) (.bin .mod (.fn1 .int (.bin .add (.bin .add (.bin .add (.bin .mul (.idx (.var 0) (.lit (.int 3))) (.lit (.int 48271))) (.bin .mul (.bin .mod (.fn1 .int (.var 3)) (.lit (.int 2147483629))) (.lit (.int 16807)))) (.bin .mul (.idx (.var 0) (.lit (.int 1))) (.lit (.int 69621)))) (.lit (.int 11)))) (.lit (.int 2147483647))))
  (.cons (.ret (.bin .mod (.fn1 .int (.bin .fdiv (.idx (.var 0) (.lit (.int 3))) (.lit (.int 16)))) (.var 1)))
  .nil))))
def bDraw : CSs := (.cons (.ite (.v (.cmp .gt (.idx (.var 0) (.lit (.int 2))) (.lit (.int 0))))
  (.cons (.set (.nm 2) (.idx (.var 0) (.lit (.int 2))))
  (.cons (.sub (.var 0) (.lit (.int 2)) (.bin .fdiv (.var 2) (.var 1)))
  (.cons (.ret (.bin .mod (.fn1 .int (.var 2)) (.var 1)))
  .nil)))
  .nil)
  (.cons (.set (.nm 3) (.lit (.int 0)))
  (.cons (.ite (.v (.cmp .lt (.idx (.var 0) (.lit (.int 1))) (.agg .len (.e (.idx (.var 0) (.lit (.int 0)))))))
  (.cons (.set (.nm 4) (.idx (.idx (.var 0) (.lit (.int 0))) (.idx (.var 0) (.lit (.int 1)))))
  (.cons (.set (.nm 3) (.bin .add (.bin .mul (.lit (.int 2)) (.fn1 .abs (.var 4))) (.fn1 .int (.cmp .lt (.var 4) (.lit (.int 0))))))
  .nil))
  .nil)
  bDraw2)))
/-- the store of a law: the script's ints, the place and the two seeds of the draws; then the law's own -/
structure DS where
  cells : List Int
  p : Int
  r : Int
  s : Int
  p0 : 0 ≤ p
def DS.st (d : DS) (R : Sto) : Sto := .lst (d.cells.map .int) :: .lst [.ref 0, .int d.p, .int d.r, .int d.s] :: R
theorem draw_w {C : Orc} {x : Str} {N : List Str} {d : DS} {R : Sto} {m : Int} {Q : D → Sto → Prop} (hN : N.length = 5) (h1 : 0 < m) (h2 : m < 1073741824) (h : ∀ (y : Int) (d' : DS), 0 ≤ y → y < m → Q (.int y) (d'.st R)) :
    W (callF C ⟨x, N, 2, bDraw⟩ [.ref 1, .int m] (d.st R)) Q := by
  have fd : ∀ i, FDivOk i m := fun i => ⟨by omega, PyProof.noPylong_small (by omega)⟩
  have fd2 : ∀ i, FDivOk i 2 := fun i => ⟨by omega, PyProof.noPylong_small (by omega)⟩
  have fd16 : ∀ i, FDivOk i 16 := fun i => ⟨by omega, PyProof.noPylong_small (by omega)⟩
  have q1 : ∀ i : Int, 0 ≤ i.fmod m := fun i => Int.fmod_nonneg_of_pos i h1
  have q2 : ∀ i : Int, i.fmod m < m := fun i => Int.fmod_lt_of_pos i h1
  have m1 : ∀ i, IntMulOk 2 i := fun i => .of_left (by decide +kernel)
  have m2 : ∀ i, IntMulOk i 48271 := fun i => .of_right (by decide +kernel)
  have m3 : ∀ i, IntMulOk i 16807 := fun i => .of_right (by decide +kernel)
  have m4 : ∀ i, IntMulOk i 69621 := fun i => .of_right (by decide +kernel)
  have c1 : CPow 10 18 := by unfold CPow; decide +kernel
  have c2 : CPow 1 6000 := by unfold CPow; decide +kernel
  have hm : m ≠ 0 := by omega
  have hs : (1 * 2 ^ Int.toNat 6000 : Int) ≠ 0 := by
    rw [Int.one_mul]
    exact Int.ne_of_gt (Int.pow_pos (by decide))
  obtain ⟨cells, p, r, s, p0⟩ := d
  refine def_w (ρ := [some (.ref 1), some (.int m), none, none, none]) rfl (by rw [hN]; rfl) ?_
  simp only [bDraw, DS.st]
  mul_fits
  refine w_ifd (fun k => ?_) fun k => ?_
  · mul_fits
    rw [gc_same (by simp)]
    mul_fits
    exact h _ ⟨cells, p, _, s, p0⟩ (q1 _) (q2 _)
  have tail : ∀ (z : Int) (o : Option D), W (evSs C bDraw2 [some (.ref 1), some (.int m), none, some (.int z), o] (.lst (cells.map .int) :: .lst [.ref 0, .int p, .int r, .int s] :: R)) fun fl S' => W (retK fl S') fun d S'' => W (gc (.lst (cells.map .int) :: .lst [.ref 0, .int p, .int r, .int s] :: R) d S'') Q := by
    intro z o
    simp only [bDraw2]
    mul_fits
    refine w_ifd (fun k => ?_) fun k => ?_
    · mul_fits
      rw [gc_same (by simp)]
      mul_fits
      exact h _ ⟨cells, p + 1, _, s, by omega⟩ (q1 _) (q2 _)
    · mul_fits
      rw [gc_same (by simp)]
      mul_fits
      exact h _ ⟨cells, p + 1, r, _, by omega⟩ (q1 _) (q2 _)
  mul_fits
  refine w_ifd (fun k => ?_) fun k => ?_
  · have hl : p.toNat < cells.length := by rw [List.length_map] at k; omega
    have hc : atI (List.map D.int cells) p = some (.int (cells[p.toNat])) := by
      unfold atI ixN
      rw [if_pos p0, if_pos k]
      simp [hl]
    mul_fits
    exact tail _ _
  · mul_fits
    exact tail _ _
theorem gc_out {S S' : Sto} {d : D} (h : ¬below S.length d) : gc S d S' = .ok d S' := by
  unfold gc
  rw [if_neg fun z => h z.1]
def bBegin : CSs := (.cons (.ret (.alloc (.disp (.cons (.alloc (.comp [1] (.nm 1) (.r (.e (.var 0))) (.fn1 .int (.var 1)))) (.cons (.lit (.int 0)) (.cons (.lit (.int 0)) (.cons (.lit (.int 5)) .nil)))))))
  .nil)
theorem begin_w {C : Orc} {x : Str} {N : List Str} {ns : List Int} {Q : D → Sto → Prop} (hN : N.length = 2) (hl : ns.length ≤ 63) (h : Q (.ref 1) (DS.st ⟨ns, 0, 0, 5, by decide⟩ [])) : W (callF C ⟨x, N, 1, bBegin⟩ [.fix (ns.map .int)] []) Q := by
  refine def_w (ρ := [some (.fix (ns.map .int)), none]) rfl (by rw [hN]; rfl) ?_
  simp only [bBegin]
  mul_fits
  refine ⟨by rw [List.length_map]; exact Nat.le_trans hl (Nat.le_of_ble_eq_true rfl), ?_⟩
  refine loopQ_w (fun ds r S => S = [] ∧ r ++ ds = ns.map .int) (fun d ds r S i => ⟨trivial, ?_⟩) (fun r S i => ⟨trivial, ?_⟩) _ _ ⟨rfl, rfl⟩
  · obtain ⟨rfl, i⟩ := i
    have : d ∈ ns.map D.int := by rw [← i]; simp
    obtain ⟨j, _, rfl⟩ := List.mem_map.mp this
    mul_fits
    exact ⟨rfl, by rw [← i]; simp⟩
  · obtain ⟨rfl, i⟩ := i
    rw [List.append_nil] at i
    subst i
    mul_fits
    rw [gc_out (by simp [below])]
    mul_fits
    exact h
end PQ

/-! The head's facts, with the module's values. -/
namespace PQ
open PySem PySem.Spec PyProof.Rows L2
mutual
def dB (K : PySem.W.Frag) : D → Value → Bool
  | .non, .none => true
  | .bl b, .bool c => b == c
  | .int i, .int j _ => decide (i = j)
  | .str x, .str y _ => decide (x = y)
  | .tup ds, .ref a => (match K.lookup a with
    | some ⟨.type c, none, .seq its _, _⟩ => decide (c = "tuple") && (decide (its.size ≤ sizeLine) && (decide (ds.length ≤ sizeLine) && dsB K ds its.toList))
    | _ => false)
  | _, _ => false
def dsB (K : PySem.W.Frag) : List D → List Value → Bool
  | [], [] => true
  | d :: ds, u :: us => dB K d u && dsB K ds us
  | _, _ => false
end
mutual
theorem dB_ok {K : PySem.W.Frag} : ∀ (d : D) (u : Value), dB K d u = true → ∃ v, RelV v u ∧ ∀ μ H, Rp K μ H d v
  | .non, .none, _ => ⟨.non, rfl, fun _ _ => rfl⟩
  | .bl b, .bool c, h => ⟨.bl b, by
    have : b = c := by simpa [dB] using h
    subst this
    rfl, fun _ _ => rfl⟩
  | .int i, .int j t, h => ⟨.int i, ⟨t, by
    have : i = j := by simpa [dB] using h
    rw [this]⟩, fun _ _ => rfl⟩
  | .str x, .str y t, h => ⟨.str x, ⟨t, by
    have : x = y := by simpa [dB] using h
    rw [this]⟩, fun _ _ => rfl⟩
  | .tup ds, .ref a, h => by
    unfold dB at h
    split at h
    · rename_i c its n sl e
      obtain ⟨h1, h⟩ := Bool.and_eq_true_iff.mp h
      obtain ⟨h2, h⟩ := Bool.and_eq_true_iff.mp h
      obtain ⟨h3, h⟩ := Bool.and_eq_true_iff.mp h
      obtain ⟨vs, q1, q2⟩ := dsB_ok ds its.toList h
      exact ⟨.ref a, rfl, fun μ H => ⟨a, vs, rfl, .inr ⟨_, its, n, e, congrArg Value.type (of_decide_eq_true h1), rfl, rfl, of_decide_eq_true h2, q1⟩, q2 μ H, of_decide_eq_true h3⟩⟩
    · cases h
theorem dsB_ok {K : PySem.W.Frag} : ∀ (ds : List D) (us : List Value), dsB K ds us = true → ∃ vs, Vals vs us ∧ ∀ μ H, RpA K μ H ds vs
  | [], [], _ => ⟨[], .nil, fun _ _ => rfl⟩
  | d :: ds, u :: us, h => by
    obtain ⟨h1, h2⟩ := Bool.and_eq_true_iff.mp h
    obtain ⟨v, a1, a2⟩ := dB_ok d u h1
    obtain ⟨vs, b1, b2⟩ := dsB_ok ds us h2
    exact ⟨v :: vs, .cons a1 b1, fun μ H => .cons (a2 μ H) (b2 μ H)⟩
end
def gB (K : PySem.W.Frag) (q : Str × Gv) : Bool := match q.2 with
  | .con d => (match PySem.W.nsIn K mainGlobals q.1 with
    | some (some u) => dB K d u
    | _ => false)
  | .fn id => He.eqO (PySem.W.nsIn K mainGlobals q.1) (some (some (.builtin id)))
theorem gB_ok {K : PySem.W.Frag} {h : Heap} {mg : Str → Option Value} (X : K.In h) (G : h.Ns mainGlobals mg) {Gs : List (Str × Gv)} (c : Gs.all (gB K) = true) : ∀ x g, (x, g) ∈ Gs → GvOk K mg x g := fun x g hx => by
  have c1 := List.all_eq_true.mp c _ hx
  cases g with
  | con d =>
    have c1 : (match PySem.W.nsIn K mainGlobals x with
      | some (some u) => dB K d u
      | _ => false) = true := c1
    split at c1
    · rename_i u e
      obtain ⟨v, h1, h2⟩ := dB_ok d u c1
      exact ⟨v, u, PySem.W.mg_of X G e, h1, h2⟩
    · cases c1
  | fn id => exact PySem.W.mg_of X G (He.eqO_ok c1)
def obP (n : Nat) (fa : List He.Fa) (fn : List He.DefD) (Gs : List (Str × Gv)) (g : Addr → Option Obj) : He.AlD × Bool := (He.obsDG n fa fn g, Gs.all (gB (He.frG g (He.asD g n))))
def hookP (n : Nat) (fa : List He.Fa) (fn : List He.DefD) (Gs : List (Str × Gv)) : PySem.W.Hook where
  α := He.AlD × Bool
  obs := fun s => obP n fa fn Gs s.heap.get?
  val := fun _ => (He.valD fn, true)
  says := fun _ h => ∃ K : PySem.W.Frag, K.In h ∧ He.SaysD fa fn K ∧ Gs.all (gB K) = true
  of := fun _ _ e => ⟨_, He.frG_in, congrArg (fun z : He.AlD × Bool => z.1) e, congrArg (fun z : He.AlD × Bool => z.2) e⟩
  keeps := fun _ _ _ ⟨K, hK, c⟩ k => ⟨K, PySem.W.Frag.In.keeps hK k, c⟩
theorem obP_eq {n : Nat} {fa : List He.Fa} {fn : List He.DefD} {Gs : List (Str × Gv)} {g : Addr → Option Obj} {s : Shared} (h : ∀ a, g a = s.heap.get? a) : obP n fa fn Gs g = (hookP n fa fn Gs).obs s := by
  have e : g = s.heap.get? := funext h
  rw [e] <;> rfl
end PQ

namespace PQ
open PySem PySem.Spec PyProof.Rows L2
theorem le64 {n : Nat} (h : n ≤ 64) : n ≤ sizeLine := Nat.le_trans h (Nat.le_of_ble_eq_true rfl)
end PQ

/-! Helps that more than one law asks for. -/
namespace PQ
open PySem PySem.Spec PyProof.Rows L2
theorem while_w {C : Orc} {t : CT} {b : CSs} {Q : Fl → Sto → Prop} (I : Nat → En → Sto → Prop)
    (h : ∀ n ρ S, I n ρ S → W (evT C t ρ S) fun c S1 => (c = true → ∃ m, n = m + 1 ∧ W (evSs C b ρ S1) fun fl S2 => ∃ ρ', (fl = .nx ρ' ∨ fl = .ct ρ') ∧ I m ρ' S2) ∧ (c = false → Q (.nx ρ) S1)) : ∀ (n fuel : Nat) ρ S, n < fuel → I n ρ S → W (whileS (evT C t) (evSs C b) fuel ρ S) Q
  | n, 0, _, _, hf, _ => by omega
  | n, fuel + 1, ρ, S, hf, hi => by
    rw [whileS, W_bind]
    refine W_mono (h n ρ S hi) fun c S1 hc => ?_
    cases c with
    | false =>
      rw [if_neg (by decide), W_ok]
      exact hc.2 rfl
    | true =>
      obtain ⟨m, rfl, hb⟩ := hc.1 rfl
      rw [if_pos rfl, W_bind]
      refine W_mono hb fun fl S2 ⟨ρ', e, k⟩ => ?_
      rcases e with e | e <;> subst e <;> exact while_w I h m fuel ρ' S2 (by omega) k
theorem get_end (S : Sto) (o : Ob) : (S ++ [o])[S.length]? = some o := by simp
theorem set_end (S : Sto) (o p : Ob) : (S ++ [o]).set S.length p = S ++ [p] := by simp
theorem get_pre {S R : Sto} {a : Nat} {o : Ob} (h : S[a]? = some o) : (S ++ R)[a]? = some o := by
  rw [List.getElem?_append_left (List.getElem?_eq_some_iff.mp h).1]
  exact h
theorem ints_map (ns : List Int) : intsOf (ns.map D.int) = some ns := by
  induction ns with
  | nil => rfl
  | cons x xs ih => simp [intsOf, ih]
theorem at_last (l : List D) (d : D) : atI (l ++ [d]) (-1) = some d := by
  unfold atI ixN
  rw [if_neg (by omega), if_pos (by simp; omega)]
  have e : ((-1 : Int) + ((l ++ [d]).length : Int)).toNat = l.length := by simp; omega
  rw [e]
  simp
theorem sum_nn : ∀ ns : List Int, (∀ n ∈ ns, 0 ≤ n) → 0 ≤ ns.sum
  | [], _ => by simp
  | n :: ns, h => by
    have := h n (by simp)
    have := sum_nn ns fun x hx => h x (by simp [hx])
    rw [List.sum_cons]
    omega
theorem rgD_get {i j : Int} {d : D} (h : d ∈ rgD i j) : ∃ x, d = .int x ∧ i ≤ x ∧ x < j := by
  obtain ⟨q, hq, rfl⟩ := List.mem_map.mp h
  rw [List.mem_range] at hq
  exact ⟨_, rfl, by omega, by omega⟩
def Grown (S S' : Sto) : Prop := ∃ g, S' = S ++ g
theorem bools_map (bs : List Bool) : boolsOf (bs.map D.bl) = some bs := by
  induction bs with
  | nil => rfl
  | cons x xs ih => simp [boolsOf, ih]
theorem le_size {n : Nat} (h : n ≤ 100000) : n ≤ sizeLine := Nat.le_trans h (Nat.le_of_ble_eq_true rfl)
theorem gc_st {d d' : DS} {R g : Sto} {e : D} {Q : D → Sto → Prop} (h1 : below (R.length + 2) e → Q e (d'.st R)) (h2 : Q e (d'.st (R ++ g))) : W (gc (d.st R) e (d'.st (R ++ g))) Q := by
  unfold gc
  split
  · rename_i sf
    rw [W_ok]
    have : (d'.st (R ++ g)).take (d.st R).length = d'.st R := by
      show List.take (R.length + 2) (_ :: _ :: (R ++ g)) = _
      rw [List.take_succ_cons, List.take_succ_cons, List.take_left' rfl]
      rfl
    rw [this]
    exact h1 sf.1
  · rw [W_ok]
    exact h2
theorem st_len {d : DS} {R : Sto} : (d.st R).length = R.length + 2 := rfl
theorem st_app {d : DS} {R g : Sto} : d.st R ++ g = d.st (R ++ g) := rfl
theorem st_get {d : DS} {R : Sto} {b : Nat} : (d.st R)[b + 2]? = R[b]? := rfl
theorem w_es {C : Orc} {es : CEs} {ρ : En} {S S1 : Sto} {ds : List D} {Q : List D → Sto → Prop} (he : evEs C es ρ S = .ok ds S1) (h : Q ds S1) : W (evEs C es ρ S) Q := by
  rw [he, W_ok]
  exact h
def Good1 (fl : Fl) (S : Sto) : Prop := W (retK fl S) fun d S' => W (gc [] d S') fun e _ => e = .bl true
theorem good1 {S : Sto} : Good1 (.rt (.bl true)) S := by
  refine r_rt ?_
  rw [show S = [] ++ S from rfl, gc_app (by simp [below])]
  exact w_ok rfl
theorem st_end {d : DS} {R : Sto} {o : Ob} : (d.st (R ++ [o]))[R.length + 2]? = some o := by rw [st_get]; exact get_end R o
theorem fdiv_small {c : Int} (h0 : c ≠ 0) (h : c.natAbs < 2 ^ 8000) (n : Int) : FDivOk n c := ⟨h0, PyProof.noPylong_of_log2 (by
  have h1 : c.natAbs ≠ 0 := by omega
  have := (Nat.log2_lt h1).mpr h
  omega)⟩
theorem mul_bd {a b : Int} {m n : Nat} (ha : a.natAbs < 2 ^ m) (hb : b.natAbs < 2 ^ n) : (a * b).natAbs < 2 ^ (m + n) := by
  rw [Int.natAbs_mul, Nat.pow_add]
  exact Nat.mul_lt_mul_of_lt_of_le ha (Nat.le_of_lt hb) (Nat.two_pow_pos _)
theorem bd_mono {a : Int} {m n : Nat} (h : a.natAbs < 2 ^ m) (hmn : m ≤ n) : a.natAbs < 2 ^ n := Nat.lt_of_lt_of_le h (Nat.pow_le_pow_right (by decide) hmn)
theorem add_bd {a b : Int} {m : Nat} (ha : a.natAbs < 2 ^ m) (hb : b.natAbs < 2 ^ m) : (a + b).natAbs < 2 ^ (m + 1) := by
  rw [Nat.pow_succ]
  omega
theorem sub_bd {a b : Int} {m : Nat} (ha : a.natAbs < 2 ^ m) (hb : b.natAbs < 2 ^ m) : (a - b).natAbs < 2 ^ (m + 1) := by
  rw [Nat.pow_succ]
  omega
theorem mul_okb {a b : Int} {m n : Nat} (ha : a.natAbs < 2 ^ m) (hb : b.natAbs < 2 ^ n) (h : m + n ≤ 134217728) : IntMulOk a b := (mulx_ok ha hb h).ok
section
variable {S : Sto} {Q : D → Sto → Prop}
theorem v_idxS {z : Str} {i : Int} {c : Nat} (k : z.length ≤ sizeLine) (k2 : atI z.cps.toList i = some c) (h : Q (.str ⟨#[c]⟩) S) : W (idxD (.str z) (.int i) S) Q := by
  simpa [idxD, k, k2] using h
theorem v_mulL {i : Nat} {n : Int} {a : List D} (k1 : S[i]? = some (.lst a)) (k2 : -(2 ^ 63) ≤ n ∧ n < 2 ^ 63 ∧ a.length * n.toNat ≤ sizeLine) (h : Q (.ref S.length) (S ++ [.lst (List.replicate n.toNat a).flatten])) : W (binD .mul (.ref i) (.int n) S) Q := by
  simp only [binD, k1, W_ask, W_ok]
  exact ⟨k2, h⟩
theorem v_ext {a : Nat} {ds es : List D} {r : RV} (k1 : S[a]? = some (.lst ds)) (k2 : trOf S r = some es) (k3 : ds.length + es.length ≤ sizeLine) (h : Q .non (S.set a (.lst (ds ++ es)))) : W (extD (.ref a) r S) Q := by
  simp only [extD, withL, k1, k2, may_some, if_pos k3, W_ok]
  exact h
theorem v_pop {a : Nat} {ds : List D} {d : D} (k1 : S[a]? = some (.lst ds)) (k2 : ds[ds.length - 1]? = some d) (h : Q d (S.set a (.lst ds.dropLast))) : W (popD (.ref a) S) Q := by
  simp only [popD, withL, k1, k2, may_some, W_ok]
  exact h
theorem v_popAt {a : Nat} {ds : List D} {i : Int} {k : Nat} {d : D} (k1 : S[a]? = some (.lst ds)) (k0 : -(2 ^ 63) ≤ i ∧ i < 2 ^ 63) (k2 : seqIndex? i ds.length = some k) (k3 : ds[k]? = some d) (h : Q d (S.set a (.lst (ds.eraseIdx k)))) : W (popAtD (.ref a) (.int i) S) Q := by
  simp only [popAtD, withL, k1, if_pos k0, k2, k3, may_some, W_ok]
  exact h
end
end PQ

/-! A walk that may go back early. -/
namespace PQ
open PySem PySem.Spec PyProof.Rows L2
theorem loopS_r {C : Sto → Prop} {f : D → En → Sto → Res Fl} {Q : Fl → Sto → Prop} (I : List D → En → Sto → Prop)
    (h : ∀ d ds ρ S, I (d :: ds) ρ S → C S ∧ W (f d ρ S) fun fl S' => match fl with
      | .nx ρ' => I ds ρ' S'
      | .ct ρ' => I ds ρ' S'
      | .bk ρ' => Q (.nx ρ') S'
      | .rt x => Q (.rt x) S')
    (h0 : ∀ ρ S, I [] ρ S → C S ∧ Q (.nx ρ) S) : ∀ ds ρ S, I ds ρ S → W (loopS C f ds ρ S) Q
  | [], ρ, S, i => by
    rw [loopS, W_ask, W_ok]
    exact h0 ρ S i
  | d :: ds, ρ, S, i => by
    rw [loopS, W_ask, W_bind]
    obtain ⟨k1, k2⟩ := h d ds ρ S i
    refine ⟨k1, W_mono k2 fun fl S' k => ?_⟩
    cases fl with
    | nx ρ' => exact loopS_r I h h0 ds ρ' S' k
    | ct ρ' => exact loopS_r I h h0 ds ρ' S' k
    | bk ρ' => exact (W_ok (Q := Q)).symm ▸ k
    | rt x => exact (W_ok (Q := Q)).symm ▸ k
end PQ

/-! Numbers and tuples alone; more helps. -/
namespace PQ
open PySem PySem.Spec PyProof.Rows L2
theorem v_lenS {S : Sto} {z : Str} {Q : D → Sto → Prop} (k : z.length ≤ sizeLine) (h : Q (.int z.length) S) : W (aggD .len (.val (.str z)) S) Q := by
  have e : aggD .len (.val (.str z)) S = .ok (.int z.length) S := by
    show (if z.length ≤ sizeLine then _ else _) = _
    rw [if_pos k]
  rw [e, W_ok]
  exact h
theorem rgD0 (n : Nat) : rgD 0 (n : Int) = (List.range n).map fun (k : Nat) => D.int (k : Int) := by simp [rgD]
abbrev natD (n : Nat) : D := .int (n : Int)
theorem at_map {α : Type} (f : α → D) (l : List α) (k : Nat) (h : k < l.length) : atI (l.map f) (k : Int) = some (f l[k]) := by
  unfold atI ixN
  rw [if_pos (by omega), if_pos (by simp; omega)]
  simp [h]
def gI (l : List Int) (k : Nat) : Int := l.getD k 0
theorem at_ints (l : List Int) (k : Nat) (h : k < l.length) : atI (l.map D.int) (k : Int) = some (.int (gI l k)) := by
  rw [at_map _ _ _ h]
  simp [gI, h]
theorem ix_nat {n k : Nat} (h : k < n) : ixN n (k : Int) = some k := by
  unfold ixN
  rw [if_pos (by omega), if_pos (by omega)]
  simp
theorem at_nat (l : List D) (k : Nat) (h : k < l.length) : atI l (k : Int) = some l[k] := by
  unfold atI
  rw [ix_nat h]
  simp [h]
theorem get_mid (S R : Sto) (o : Ob) : (S ++ [o] ++ R)[S.length]? = some o := by simp
theorem set_mid (S R : Sto) (o p : Ob) : (S ++ [o] ++ R).set S.length p = S ++ [p] ++ R := by
  rw [List.set_append_left _ _ (by simp), set_end]
theorem get_far {S R : Sto} {o p : Ob} {b : Nat} {q : Ob} (h : S.length < b) (e : (S ++ [o] ++ R)[b]? = some q) : (S ++ [p] ++ R)[b]? = some q := by
  rw [List.getElem?_append_right (by simp; omega)] at e ⊢
  simpa using e
/-- numbers and tuples of such -/
inductive It : D → Prop
  | int (i : Int) : It (.int i)
  | tup (ds : List D) (h : ∀ d ∈ ds, It d) : It (.tup ds)
theorem belows_iff {n : Nat} : ∀ {ds : List D}, belows n ds ↔ ∀ d ∈ ds, below n d
  | [] => by simp [belows]
  | d :: ds => by simp [belows, belows_iff (ds := ds)]
theorem it_below {n : Nat} {d : D} (h : It d) : below n d := by
  induction h with
  | int i => simp [PQ.below]
  | tup ds h ih =>
    show belows n ds
    exact belows_iff.mpr ih
theorem it_ints (l : List Int) : It (.tup (l.map D.int)) := .tup _ fun d hd => by
  obtain ⟨i, _, rfl⟩ := List.mem_map.mp hd
  exact .int i
end PQ

/-! Walks over rows of things of one kind. -/
namespace PQ
open PySem PySem.Spec PyProof.Rows L2
def All2 {α β : Type} (P : α → β → Prop) : List α → List β → Prop
  | [], [] => True
  | a :: as, b :: bs => P a b ∧ All2 P as bs
  | _, _ => False
section
variable {α β : Type} {P : α → β → Prop}
theorem All2.len : ∀ {l : List α} {m : List β}, All2 P l m → m.length = l.length
  | [], [], _ => rfl
  | _ :: as, _ :: bs, h => by rw [List.length_cons, List.length_cons, All2.len h.2]
  | [], _ :: _, h => h.elim
  | _ :: _, [], h => h.elim
theorem All2.imp {P' : α → β → Prop} (k : ∀ a b, P a b → P' a b) : ∀ {l : List α} {m : List β}, All2 P l m → All2 P' l m
  | [], [], _ => trivial
  | _ :: as, _ :: bs, h => ⟨k _ _ h.1, All2.imp k h.2⟩
  | [], _ :: _, h => h.elim
  | _ :: _, [], h => h.elim
theorem All2.mem : ∀ {l : List α} {m : List β}, All2 P l m → ∀ b ∈ m, ∃ a ∈ l, P a b
  | [], [], _, _, hb => nomatch hb
  | a :: as, b :: bs, h, x, hx => by
    rcases List.mem_cons.mp hx with rfl | hx
    · exact ⟨a, List.mem_cons_self, h.1⟩
    · obtain ⟨y, h1, h2⟩ := All2.mem h.2 x hx
      exact ⟨y, List.mem_cons_of_mem _ h1, h2⟩
  | [], _ :: _, h, _, _ => h.elim
  | _ :: _, [], h, _, _ => h.elim
theorem All2.map {γ : Type} {f : α → γ} {g : β → γ} : ∀ {l : List α} {m : List β}, All2 (fun a b => g b = f a) l m → m.map g = l.map f
  | [], [], _ => rfl
  | _ :: as, _ :: bs, h => by rw [List.map_cons, List.map_cons, h.1, All2.map h.2]
  | [], _ :: _, h => h.elim
  | _ :: _, [], h => h.elim
variable {C : Sto → Prop} {f : D → Sto → Res (Option D)} {Q : List D → Sto → Prop}
theorem loopQ_e (enc : α → D) (e : β → D) (P : α → β → Prop) (I : Sto → Prop) (l : List α) (h : ∀ x ∈ l, ∀ S, I S → C S ∧ W (f (enc x) S) fun o S' => ∃ y, o = some (e y) ∧ I S' ∧ P x y) (q : ∀ ys S, All2 P l ys → I S → C S ∧ Q (ys.map e) S) (S : Sto) (i : I S) : W (loopQ C f (l.map enc) S) Q := by
  induction l generalizing S Q with
  | nil =>
    rw [List.map_nil, loopQ, W_ask, W_ok]
    exact q [] S trivial i
  | cons x l ih =>
    rw [List.map_cons, loopQ, W_ask, W_bind]
    obtain ⟨k1, k2⟩ := h x List.mem_cons_self S i
    refine ⟨k1, W_mono k2 fun o S' ⟨y, eo, i', p⟩ => ?_⟩
    subst eo
    rw [W_bind]
    refine ih (fun z hz => h z (List.mem_cons_of_mem _ hz)) (Q := fun r S2 => W (.ok (e y :: r) S2) Q) (fun ys S2 a i2 => ?_) S' i'
    obtain ⟨c1, c2⟩ := q (y :: ys) S2 ⟨p, a⟩ i2
    exact ⟨c1, (W_ok (Q := Q)).symm ▸ c2⟩
theorem loopQ_m (enc : α → D) (g : α → D) (I : Sto → Prop) (l : List α) (h : ∀ x ∈ l, ∀ S, I S → C S ∧ W (f (enc x) S) fun o S' => o = some (g x) ∧ I S') (q : ∀ S, I S → C S ∧ Q (l.map g) S) (S : Sto) (i : I S) : W (loopQ C f (l.map enc) S) Q := by
  refine loopQ_e enc (fun d : D => d) (fun a b => b = g a) I l (fun x hx S i => ⟨(h x hx S i).1, W_mono (h x hx S i).2 fun o S' ⟨e1, e2⟩ => ⟨g x, e1, e2, rfl⟩⟩) (fun ys S a i => ?_) S i
  have := All2.map (f := g) (g := fun d : D => d) a
  rw [this]
  exact q S i
theorem loopQ_f (enc : α → D) (p : α → Bool) (g : α → D) (I : Sto → Prop) (l : List α) (h : ∀ x ∈ l, ∀ S, I S → C S ∧ W (f (enc x) S) fun o S' => o = (if p x = true then some (g x) else none) ∧ I S') (q : ∀ S, I S → C S ∧ Q ((l.filter p).map g) S) (S : Sto) (i : I S) : W (loopQ C f (l.map enc) S) Q := by
  induction l generalizing S Q with
  | nil =>
    rw [List.map_nil, loopQ, W_ask, W_ok]
    exact q S i
  | cons x l ih =>
    rw [List.map_cons, loopQ, W_ask, W_bind]
    obtain ⟨k1, k2⟩ := h x List.mem_cons_self S i
    refine ⟨k1, W_mono k2 fun o S' ⟨eo, i'⟩ => ?_⟩
    subst eo
    rw [W_bind]
    refine ih (fun z hz => h z (List.mem_cons_of_mem _ hz)) (Q := fun r S2 => W (.ok (match (if p x = true then some (g x) else none) with | some y => y :: r | none => r) S2) Q) (fun S2 i2 => ?_) S' i'
    obtain ⟨c1, c2⟩ := q S2 i2
    refine ⟨c1, (W_ok (Q := Q)).symm ▸ ?_⟩
    rw [List.filter_cons] at c2
    by_cases hp : p x = true
    · rw [if_pos hp] at c2 ⊢
      exact c2
    · rw [if_neg hp] at c2 ⊢
      exact c2
end
section
variable {α : Type} {C : Sto → Prop} {f : D → En → Sto → Res Fl} {Q : Fl → Sto → Prop}
theorem loopS_e (enc : α → D) (I : List α → En → Sto → Prop)
    (h : ∀ x r ρ S, I (x :: r) ρ S → C S ∧ W (f (enc x) ρ S) fun fl S' => ∃ ρ', (fl = .nx ρ' ∨ fl = .ct ρ') ∧ I r ρ' S')
    (h0 : ∀ ρ S, I [] ρ S → C S ∧ Q (.nx ρ) S) (l : List α) (ρ : En) (S : Sto) (i : I l ρ S) : W (loopS C f (l.map enc) ρ S) Q := by
  refine loopS_w (fun ds ρ S => ∃ r : List α, ds = r.map enc ∧ I r ρ S) ?_ ?_ _ _ _ ⟨l, rfl, i⟩
  · rintro d ds ρ S ⟨r, e, i⟩
    cases r with
    | nil => exact absurd e (by simp)
    | cons x r =>
    rw [List.map_cons, List.cons.injEq] at e
    obtain ⟨rfl, rfl⟩ := e
    obtain ⟨c, w⟩ := h x r ρ S i
    exact ⟨c, W_mono w fun fl S' ⟨ρ', e, i'⟩ => ⟨ρ', e, r, rfl, i'⟩⟩
  · rintro ρ S ⟨r, e, i⟩
    cases r with
    | cons x r => exact absurd e (by simp)
    | nil => exact h0 ρ S i
/-- a walk that may go back early -/
theorem loopS_re (enc : α → D) (I : List α → En → Sto → Prop)
    (h : ∀ x r ρ S, I (x :: r) ρ S → C S ∧ W (f (enc x) ρ S) fun fl S' => match fl with
      | .nx ρ' => I r ρ' S'
      | .ct ρ' => I r ρ' S'
      | .bk ρ' => Q (.nx ρ') S'
      | .rt x => Q (.rt x) S')
    (h0 : ∀ ρ S, I [] ρ S → C S ∧ Q (.nx ρ) S) (l : List α) (ρ : En) (S : Sto) (i : I l ρ S) : W (loopS C f (l.map enc) ρ S) Q := by
  refine loopS_r (fun ds ρ S => ∃ r : List α, ds = r.map enc ∧ I r ρ S) ?_ ?_ _ _ _ ⟨l, rfl, i⟩
  · rintro d ds ρ S ⟨r, e, i⟩
    cases r with
    | nil => exact absurd e (by simp)
    | cons x r =>
    rw [List.map_cons, List.cons.injEq] at e
    obtain ⟨rfl, rfl⟩ := e
    obtain ⟨c, w⟩ := h x r ρ S i
    refine ⟨c, W_mono w fun fl S' k => ?_⟩
    cases fl with
    | nx ρ' => exact ⟨r, rfl, k⟩
    | ct ρ' => exact ⟨r, rfl, k⟩
    | bk ρ' => exact k
    | rt x => exact k
  · rintro ρ S ⟨r, e, i⟩
    cases r with
    | cons x r => exact absurd e (by simp)
    | nil => exact h0 ρ S i
end
theorem rgD_nat (i j : Nat) (h : i ≤ j) : rgD (i : Int) (j : Int) = (List.range' i (j - i)).map natD := by
  have e : ((j : Int) - (i : Int)).toNat = j - i := by omega
  unfold rgD
  rw [e, List.range'_eq_map_range, List.map_map]
  exact List.map_congr_left fun k _ => by simp [natD]
theorem rgdD_nat (n : Nat) : rgdD ((n : Int) - 1) (-1) = (List.range n).reverse.map natD := by
  have e : ((n : Int) - 1 - -1).toNat = n := by omega
  unfold rgdD
  rw [e]
  refine List.ext_getElem (by simp) fun k h1 h2 => ?_
  simp only [List.length_map, List.length_range] at h1
  simp only [List.getElem_map, List.getElem_range, List.getElem_reverse, List.length_range, natD]
  congr 1
  omega
/-- no number of the store in it -/
theorem below_mono {m n : Nat} (h : m ≤ n) : ∀ d, below m d → below n d
  | .non, _ => trivial
  | .bl _, _ => trivial
  | .int _, _ => trivial
  | .str _, _ => trivial
  | .tup ds, k => all ds k
  | .fix ds, k => all ds k
  | .ref i, k => Nat.lt_of_lt_of_le (show i < m from k) h
where
  all : ∀ ds, belows m ds → belows n ds
    | [], _ => trivial
    | d :: ds, k => ⟨below_mono h d k.1, all ds k.2⟩
abbrev Pd (d : D) : Prop := below 0 d
theorem Pd.b {d : D} (h : Pd d) (n : Nat) : below n d := below_mono (Nat.zero_le n) d h
theorem pd_tup {l : List D} : Pd (.tup l) ↔ ∀ d ∈ l, Pd d := belows_iff
theorem pd_map {α : Type} {l : List α} {f : α → D} (h : ∀ x ∈ l, Pd (f x)) : Pd (.tup (l.map f)) := pd_tup.mpr fun d hd => by
  obtain ⟨x, hx, rfl⟩ := List.mem_map.mp hd
  exact h x hx
end PQ

/-! Lists of the store, walked or asked. -/
namespace PQ
open PySem PySem.Spec PyProof.Rows L2
section
variable {α : Type} {S : Sto} {a : Nat} {ds : List D}
theorem ls_lst (k : S[a]? = some (.lst ds)) : lsOf S (.val (.ref a)) = some ds := by simp only [lsOf, k]
theorem sq_lst (k : S[a]? = some (.lst ds)) : sqOf S (.val (.ref a)) = some ds := ls_lst k
theorem tr_lst (k : S[a]? = some (.lst ds)) : trOf S (.val (.ref a)) = some ds := by simp only [trOf, k]
theorem lst_lst (k : S[a]? = some (.lst ds)) : lstOf S (.val (.ref a)) = some ds := sq_lst k
theorem it_lst (k : S[a]? = some (.lst ds)) : itOf (.val (.ref a)) S = some ⟨ds, some a⟩ := by simp only [itOf, sq_lst k, Option.map_some]
theorem w_mayI {f : Itv → Res α} {Q : α → Sto → Prop} (k : S[a]? = some (.lst ds)) (h : W (f ⟨ds, some a⟩) Q) : W (may (itOf (.val (.ref a)) S) f) Q := w_may (it_lst k) h
theorem w_mayL {f : List D → Res α} {Q : α → Sto → Prop} (k : S[a]? = some (.lst ds)) (h : W (f ds) Q) : W (may (lsOf S (.val (.ref a))) f) Q := w_may (ls_lst k) h
theorem w_mayS {f : List D → Res α} {Q : α → Sto → Prop} (k : S[a]? = some (.lst ds)) (h : W (f ds) Q) : W (may (sqOf S (.val (.ref a))) f) Q := w_may (sq_lst k) h
theorem w_mayT {f : List D → Res α} {Q : α → Sto → Prop} (k : S[a]? = some (.lst ds)) (h : W (f ds) Q) : W (may (trOf S (.val (.ref a))) f) Q := w_may (tr_lst k) h
theorem w_mayO {f : List D → Res α} {Q : α → Sto → Prop} (k : S[a]? = some (.lst ds)) (h : W (f ds) Q) : W (may (lstOf S (.val (.ref a))) f) Q := w_may (lst_lst k) h
theorem so_lst (k : S[a]? = some (.lst ds)) : soOf S (.val (.ref a)) = some ds := by simp only [soOf, ls_lst k]
theorem so_own : soOf S (.own ds) = some ds := rfl
theorem w_mayV {f : List D → Res α} {Q : α → Sto → Prop} (k : S[a]? = some (.lst ds)) (h : W (f ds) Q) : W (may (soOf S (.val (.ref a))) f) Q := w_may (so_lst k) h
theorem strKeys_of : ∀ {ks : List (Key × D)} {xs : List Str}, ks.map (·.1) = xs.map Sum.inr → strKeys ks = some (xs.map D.str)
  | [], [], _ => rfl
  | (k, d) :: ks, x :: xs, h => by
    rw [List.map_cons, List.map_cons] at h
    injection h with h1 h2
    have h1 : k = .inr x := h1
    subst h1
    show (strKeys ks).map (D.str x :: ·) = _
    rw [strKeys_of h2]
    rfl
  | [], _ :: _, h => nomatch h
  | _ :: _, [], h => nomatch h
theorem so_dic {ks : List (Key × D)} {xs : List Str} (k : S[a]? = some (.dic ks)) (e : ks.map (·.1) = xs.map Sum.inr) : soOf S (.val (.ref a)) = some (xs.map D.str) := by
  simp only [soOf, lsOf, dicOf, k]
  exact strKeys_of e
theorem toPs_strs' (xs : List Str) : toPs S (xs.map D.str) = some (xs.map PyData.str) := toPs_strs xs
theorem v_sortS {xs : List Str} {Q : List D → Sto → Prop} (h : Q ((xs.mergeSort (PySem.W.dataLe false PyData.str)).map D.str) S) : W (sortD S (xs.map D.str)) Q := by
  have e1' : (xs.map D.str).mergeSort (PySem.W.dataLe false fun d => (toP S d).getD .none) = (xs.mergeSort (PySem.W.dataLe false PyData.str)).map D.str :=
    (List.map_mergeSort (r := PySem.W.dataLe false PyData.str) (s := PySem.W.dataLe false fun d : D => (toP S d).getD .none) (f := D.str) (l := xs) (fun a _ b _ => rfl)).symm
  unfold sortD
  rw [toPs_strs]
  simp only []
  rw [W_ask, e1']
  refine ⟨⟨.of fun _ _ => by simp [PySem.W.alike], .others fun b => ⟨fun h => PyData.noConfusion h, fun _ h => PyData.noConfusion h⟩, fun p hp => ?_⟩, by simpa using h⟩
  obtain ⟨b, _, rfl⟩ := List.mem_map.mp hp
  simp [PyData.depth]
theorem v_insD {i : Int} {v : D} {Q : D → Sto → Prop} (k : S[a]? = some (.lst ds)) (h0 : 0 ≤ i) (h1 : i < 2 ^ 63) (hl : ds.length < sizeLine) (h : Q .non (S.set a (.lst (ds.take i.toNat ++ [v] ++ ds.drop i.toNat)))) : W (insD (.ref a) (.int i) v S) Q := by
  have h2 : i < 9223372036854775808 := by omega
  simpa [insD, withL, k, h0, h2, hl] using h
theorem v_lenR {Q : D → Sto → Prop} (k : S[a]? = some (.lst ds)) (h : Q (.int ds.length) S) : W (aggD .len (.val (.ref a)) S) Q := v_len (sq_lst k) h
theorem v_tupleR {Q : D → Sto → Prop} (k : S[a]? = some (.lst ds)) (h : Q (.tup ds) S) : W (aggD .tuple (.val (.ref a)) S) Q := v_tuple (sq_lst k) h
end
end PQ

/-! Walks over numbers in a row, by the number; a walk over what is written out. -/
namespace PQ
open PySem PySem.Spec PyProof.Rows L2
section
variable {C : Sto → Prop} {f : D → En → Sto → Res Fl} {Q : Fl → Sto → Prop}
theorem loop_rg {a n : Nat} (I : Nat → En → Sto → Prop)
    (h : ∀ c ρ S, a ≤ c → c < a + n → I c ρ S → C S ∧ W (f (natD c) ρ S) fun fl S' => ∃ ρ', (fl = .nx ρ' ∨ fl = .ct ρ') ∧ I (c + 1) ρ' S')
    (h0 : ∀ ρ S, I (a + n) ρ S → C S ∧ Q (.nx ρ) S) (ρ : En) (S : Sto) (i : I a ρ S) : W (loopS C f ((List.range' a n).map natD) ρ S) Q := by
  induction n generalizing a ρ S with
  | zero =>
    show W (loopS C f [] ρ S) Q
    rw [loopS, W_ask, W_ok]
    exact h0 ρ S i
  | succ n ih =>
    rw [show List.range' a (n + 1) = a :: List.range' (a + 1) n from rfl, List.map_cons, loopS, W_ask, W_bind]
    obtain ⟨k1, k2⟩ := h a ρ S (Nat.le_refl _) (by omega) i
    refine ⟨k1, W_mono k2 fun fl S' ⟨ρ', e, k⟩ => ?_⟩
    have := ih (a := a + 1) (fun c ρ S h1 h2 => h c ρ S (by omega) (by omega)) (fun ρ S j => h0 ρ S (by rwa [show a + (n + 1) = a + 1 + n from by omega])) ρ' S' k
    rcases e with e | e <;> subst e <;> exact this
/-- .. that may go back early -/
theorem loop_rgr {a n : Nat} (I : Nat → En → Sto → Prop)
    (h : ∀ c ρ S, a ≤ c → c < a + n → I c ρ S → C S ∧ W (f (natD c) ρ S) fun fl S' => match fl with
      | .nx ρ' => I (c + 1) ρ' S'
      | .ct ρ' => I (c + 1) ρ' S'
      | .bk ρ' => Q (.nx ρ') S'
      | .rt x => Q (.rt x) S')
    (h0 : ∀ ρ S, I (a + n) ρ S → C S ∧ Q (.nx ρ) S) (ρ : En) (S : Sto) (i : I a ρ S) : W (loopS C f ((List.range' a n).map natD) ρ S) Q := by
  induction n generalizing a ρ S with
  | zero =>
    show W (loopS C f [] ρ S) Q
    rw [loopS, W_ask, W_ok]
    exact h0 ρ S i
  | succ n ih =>
    rw [show List.range' a (n + 1) = a :: List.range' (a + 1) n from rfl, List.map_cons, loopS, W_ask, W_bind]
    obtain ⟨k1, k2⟩ := h a ρ S (Nat.le_refl _) (by omega) i
    have := fun ρ' S' k => ih (a := a + 1) (fun c ρ S h1 h2 => h c ρ S (by omega) (by omega)) (fun ρ S j => h0 ρ S (by rwa [show a + (n + 1) = a + 1 + n from by omega])) ρ' S' k
    refine ⟨k1, W_mono k2 fun fl S' k => ?_⟩
    cases fl with
    | nx ρ' => exact this ρ' S' k
    | ct ρ' => exact this ρ' S' k
    | bk ρ' => exact (W_ok (Q := Q)).symm ▸ k
    | rt x => exact (W_ok (Q := Q)).symm ▸ k
/-- one turn of a walk written out -/
theorem ls_cons {d : D} {ds : List D} {ρ : En} {S : Sto} (hC : C S) (h : W (f d ρ S) fun fl S' => ∃ ρ', (fl = .nx ρ' ∨ fl = .ct ρ') ∧ W (loopS C f ds ρ' S') Q) : W (loopS C f (d :: ds) ρ S) Q := by
  rw [loopS, W_ask, W_bind]
  refine ⟨hC, W_mono h fun fl S' ⟨ρ', e, k⟩ => ?_⟩
  rcases e with e | e <;> subst e <;> exact k
theorem ls_nil {ρ : En} {S : Sto} (hC : C S) (h : Q (.nx ρ) S) : W (loopS C f [] ρ S) Q := by
  rw [loopS, W_ask, W_ok]
  exact ⟨hC, h⟩
end
section
variable {C : Sto → Prop} {f : D → Sto → Res (Option D)} {Q : List D → Sto → Prop}
/-- a comprehension over numbers in a row, its items by the number -/
theorem loopq_rg {a n : Nat} (g : Nat → D) (I : Nat → Sto → Prop)
    (h : ∀ c S, a ≤ c → c < a + n → I c S → C S ∧ W (f (natD c) S) fun o S' => o = some (g c) ∧ I (c + 1) S')
    (h0 : ∀ S, I (a + n) S → C S ∧ Q ((List.range' a n).map g) S) (S : Sto) (i : I a S) : W (loopQ C f ((List.range' a n).map natD) S) Q := by
  induction n generalizing a S Q with
  | zero =>
    show W (loopQ C f [] S) Q
    rw [loopQ, W_ask, W_ok]
    exact h0 S i
  | succ n ih =>
    rw [show List.range' a (n + 1) = a :: List.range' (a + 1) n from rfl, List.map_cons, loopQ, W_ask, W_bind]
    obtain ⟨k1, k2⟩ := h a S (Nat.le_refl _) (by omega) i
    refine ⟨k1, W_mono k2 fun o S' ⟨eo, k⟩ => ?_⟩
    subst eo
    rw [W_bind]
    refine ih (a := a + 1) (Q := fun r S2 => W (.ok (g a :: r) S2) Q) (fun c S h1 h2 => h c S (by omega) (by omega)) (fun S j => ?_) S' k
    obtain ⟨c1, c2⟩ := h0 S (by rwa [show a + (n + 1) = a + 1 + n from by omega])
    exact ⟨c1, (W_ok (Q := Q)).symm ▸ c2⟩
end
end PQ

namespace K16
open PySem PySem.Spec PyProof.Rows L2 PQ
abbrev P : Program := PySem.Challenge.pw_everygrown_k16_growing_and_useful
def top (i : Nat) : Stmt := P.main.body.getD i (.Pass ⟨0, 0, 0, 0⟩)
def names : List Str := ((["arity_in", "arity_of", "reached_from", "growing_names", "growing_rules", "growing_part", "useful_names", "useful_rules", "_law_begin", "_law_draw", "_law_pick", "_law_rare", "_law_shuffled", "_law_some", "_law_ties", "_law_marks", "_law_rule", "_law_rules", "_law_parts", "_law_flat", "_law_joined", "_law_least", "_law_build", "_law_names_along", "_law_reached", "_law_ids", "_law_wild", "_law_ladder", "_law_ruled", "_law_same"] : List Str) ++ (["_law_used", "_law_due", "_law_told", "_law_is_seen", "law"] : List Str))
def B : List Str := ["len", "range", "tuple", "int", "sorted", "isinstance", "list", "sum", "max", "all", "str", "abs", "repr"]
def Gs : List (Str × Gv) := []

/-! ### the defs, in the small language -/
def b_arity_in_1 : CSs := (.cons (.ite (.v (.cmp .eq (.var 2) (.var 1))) (.cons (.ret (.var 3)) .nil) .nil) .nil)
def b_arity_in_2 : CSs := (.cons (.ret (.lit .non)) .nil)
def b_arity_in : CSs := (.cons (.for (.tup [ 2 , 3 ]) (.r (.e (.var 0))) b_arity_in_1) b_arity_in_2)
def b_arity_of_1 : CSs := (.cons (.ret (.var 2)) .nil)
def b_arity_of : CSs := (.cons (.set (.nm 2) (.call 0 (.cons (.idx (.var 0) (.lit (.int 1))) (.cons (.var 1) .nil)))) (.cons (.ite (.v (.isN (.var 2))) (.cons .raise .nil) .nil) b_arity_of_1))
def b_reached_from_3 : CSs := (.cons (.sub (.var 2) (.idx (.var 5) (.lit (.int 0))) (.lit (.bl true))) .nil)
def b_reached_from_2 : CSs := (.cons (.ite (.v (.inr (.idx (.var 4) (.lit (.int 0))) (.e (.var 2)))) (.cons (.for (.nm 5) (.r (.e (.idx (.var 4) (.lit (.int 3))))) b_reached_from_3) .nil) .nil) .nil)
def b_reached_from_1 : CSs := (.cons (.for (.nm 4) (.r (.e (.idx (.var 0) (.lit (.int 2))))) b_reached_from_2) .nil)
def b_reached_from_4 : CSs := (.cons (.ret (.agg .tuple (.q (.sorted (.e (.var 2)))))) .nil)
def b_reached_from : CSs := (.cons (.ex (.call 1 (.cons (.var 0) (.cons (.var 1) .nil)))) (.cons (.set (.nm 2) .dnew) (.cons (.sub (.var 2) (.var 1) (.lit (.bl true))) (.cons (.for (.nm 3) (.rg (.lit (.int 0)) (.agg .len (.e (.idx (.var 0) (.lit (.int 1)))))) b_reached_from_1) b_reached_from_4))))
def b_growing_names_2 : CSs := (.cons (.ite (.v (.agg .all (.q (.comp [ 4 ] (.nm 4) (.r (.e (.idx (.var 3) (.lit (.int 3))))) (.inr (.idx (.var 4) (.lit (.int 0))) (.e (.var 1))))))) (.cons (.sub (.var 1) (.idx (.var 3) (.lit (.int 0))) (.lit (.bl true))) .nil) .nil) .nil)
def b_growing_names_1 : CSs := (.cons (.for (.nm 3) (.r (.e (.idx (.var 0) (.lit (.int 2))))) b_growing_names_2) .nil)
def b_growing_names_3 : CSs := (.cons (.ret (.agg .tuple (.q (.sorted (.e (.var 1)))))) .nil)
def b_growing_names : CSs := (.cons (.set (.nm 1) .dnew) (.cons (.for (.nm 2) (.rg (.lit (.int 0)) (.agg .len (.e (.idx (.var 0) (.lit (.int 1)))))) b_growing_names_1) b_growing_names_3))
def b_growing_rules_1 : CSs := (.cons (.ite (.v (.agg .all (.q (.comp [ 4 ] (.nm 4) (.r (.e (.idx (.idx (.idx (.var 0) (.lit (.int 2))) (.var 3)) (.lit (.int 3))))) (.inr (.idx (.var 4) (.lit (.int 0))) (.e (.var 1))))))) (.cons (.ex (.app (.var 2) (.var 3))) .nil) .nil) .nil)
def b_growing_rules_2 : CSs := (.cons (.ret (.var 2)) .nil)
def b_growing_rules : CSs := (.cons (.set (.nm 1) (.call 3 (.cons (.var 0) .nil))) (.cons (.set (.nm 2) (.alloc (.disp .nil))) (.cons (.for (.nm 3) (.rg (.lit (.int 0)) (.agg .len (.e (.idx (.var 0) (.lit (.int 2)))))) b_growing_rules_1) b_growing_rules_2)))
def b_growing_part : CSs := (.cons (.set (.nm 1) (.call 4 (.cons (.var 0) .nil))) (.cons (.ret (.tup (.cons (.tup (.cons (.idx (.var 0) (.lit (.int 0))) (.cons (.idx (.var 0) (.lit (.int 1))) (.cons (.agg .tuple (.q (.comp [ 2 ] (.nm 2) (.r (.e (.var 1))) (.idx (.idx (.var 0) (.lit (.int 2))) (.var 2))))) .nil)))) (.cons (.agg .tuple (.e (.var 1))) .nil)))) .nil))
def b_useful_names_1 : CSs := (.cons (.ret (.call 2 (.cons (.idx (.call 5 (.cons (.var 0) .nil)) (.lit (.int 0))) (.cons (.idx (.var 0) (.lit (.int 0))) .nil)))) .nil)
def b_useful_names : CSs := (.cons (.ite (.v (.notInr (.idx (.var 0) (.lit (.int 0))) (.e (.call 3 (.cons (.var 0) .nil))))) (.cons (.ret (.tup .nil)) .nil) .nil) b_useful_names_1)
def b_useful_rules : CSs := (.cons (.set (.nm 1) (.call 6 (.cons (.var 0) .nil))) (.cons (.ret (.agg .tuple (.q (.compIf [ 2 ] (.nm 2) (.r (.e (.call 4 (.cons (.var 0) .nil)))) (.v (.inr (.idx (.idx (.idx (.var 0) (.lit (.int 2))) (.var 2)) (.lit (.int 0))) (.e (.var 1)))) (.var 2))))) .nil))
def b__law_begin : CSs := (.cons (.ret (.alloc (.disp (.cons (.alloc (.comp [ 1 ] (.nm 1) (.r (.e (.var 0))) (.fn1 .int (.var 1)))) (.cons (.lit (.int 0)) (.cons (.lit (.int 0)) (.cons (.lit (.int 5)) .nil))))))) .nil)
def b__law_draw_3 : CSs := (.cons (.sub (.var 0) (.lit (.int 3)) (.bin .mod (.fn1 .int (.bin .add (.bin .add (.bin .add (.bin .mul (.idx (.var 0) (.lit (.int 3))) (.lit (.int 48271))) (.bin .mul (.bin .mod (.fn1 .int (.var 3)) (.lit (.int 2147483629))) (.lit (.int 16807)))) (.bin .mul (.idx (.var 0) (.lit (.int 1))) (.lit (.int 69621)))) (.lit (.int 11)))) (.lit (.int 2147483647)))) (.cons (.ret (.bin .mod (.fn1 .int (.bin .fdiv (.idx (.var 0) (.lit (.int 3))) (.lit (.int 16)))) (.var 1))) .nil))
def b__law_draw_2 : CSs := (.cons (.augS (.var 0) (.lit (.int 1)) .add (.lit (.int 1))) (.cons (.ite (.v (.cmp .ge (.var 3) (.bin .mul (.lit (.int 2)) (.bin .pow (.lit (.int 10)) (.lit (.int 18)))))) (.cons (.set (.nm 2) (.bin .mod (.fn1 .int (.bin .fdiv (.var 3) (.lit (.int 2)))) (.bin .shl (.lit (.int 1)) (.lit (.int 6000))))) (.cons (.sub (.var 0) (.lit (.int 2)) (.bin .fdiv (.var 2) (.var 1))) (.cons (.ret (.bin .mod (.fn1 .int (.var 2)) (.var 1))) .nil))) .nil) b__law_draw_3))
def b__law_draw_1 : CSs := (.cons (.set (.nm 3) (.lit (.int 0))) (.cons (.ite (.v (.cmp .lt (.idx (.var 0) (.lit (.int 1))) (.agg .len (.e (.idx (.var 0) (.lit (.int 0))))))) (.cons (.set (.nm 4) (.idx (.idx (.var 0) (.lit (.int 0))) (.idx (.var 0) (.lit (.int 1))))) (.cons (.set (.nm 3) (.bin .add (.bin .mul (.lit (.int 2)) (.fn1 .abs (.var 4))) (.fn1 .int (.cmp .lt (.var 4) (.lit (.int 0)))))) .nil)) .nil) b__law_draw_2))
def b__law_draw : CSs := (.cons (.ite (.v (.cmp .gt (.idx (.var 0) (.lit (.int 2))) (.lit (.int 0)))) (.cons (.set (.nm 2) (.idx (.var 0) (.lit (.int 2)))) (.cons (.sub (.var 0) (.lit (.int 2)) (.bin .fdiv (.var 2) (.var 1))) (.cons (.ret (.bin .mod (.fn1 .int (.var 2)) (.var 1))) .nil))) .nil) b__law_draw_1)
def b__law_pick : CSs := (.cons (.ret (.idx (.var 1) (.call 9 (.cons (.var 0) (.cons (.agg .len (.e (.var 1))) .nil))))) .nil)
def b__law_rare : CSs := (.cons (.ret (.cmp .eq (.call 9 (.cons (.var 0) (.cons (.var 1) .nil))) (.bin .fdiv (.var 1) (.lit (.int 2))))) .nil)
def b__law_shuffled_1 : CSs := (.cons (.ex (.app (.var 3) (.popAt (.var 2) (.call 9 (.cons (.var 0) (.cons (.agg .len (.e (.var 2))) .nil)))))) .nil)
def b__law_shuffled_2 : CSs := (.cons (.ret (.var 3)) .nil)
def b__law_shuffled : CSs := (.cons (.set (.nm 2) (.alloc (.list (.e (.var 1))))) (.cons (.set (.nm 3) (.alloc (.disp .nil))) (.cons (.for (.nm 4) (.rg (.lit (.int 0)) (.agg .len (.e (.var 2)))) b__law_shuffled_1) b__law_shuffled_2)))
def b__law_some : CSs := (.cons (.ret (.slc (.call 12 (.cons (.var 0) (.cons (.var 1) .nil))) .none (.some (.var 2)))) .nil)
def b__law_ties_1 : CSs := (.cons (.set (.nm 6) (.alloc (.sorted (.e (.call 13 (.cons (.var 0) (.cons (.alloc (.listRg (.lit (.int 0)) (.var 1))) (.cons (.lit (.int 2)) .nil)))))))) (.cons (.ex (.app (.var 4) (.tup (.cons (.idx (.var 6) (.lit (.int 0))) (.cons (.idx (.var 6) (.lit (.int 1))) (.cons (.call 10 (.cons (.var 0) (.cons (.var 3) .nil))) .nil)))))) .nil))
def b__law_ties_2 : CSs := (.cons (.ret (.agg .tuple (.q (.sorted (.e (.var 4)))))) .nil)
def b__law_ties : CSs := (.cons (.set (.nm 4) (.alloc (.disp .nil))) (.cons (.ite (.v (.cmp .ge (.var 1) (.lit (.int 2)))) (.cons (.for (.nm 5) (.rg (.lit (.int 0)) (.var 2)) b__law_ties_1) .nil) .nil) b__law_ties_2))
def b__law_marks : CSs := (.cons (.ret (.join "" (.q (.comp [ 3 ] (.nm 3) (.rg (.lit (.int 0)) (.var 1)) (.call 10 (.cons (.var 0) (.cons (.var 2) .nil))))))) .nil)
def b__law_rule : CSs := (.cons (.set (.nm 7) (.agg .max (.q (.cat (.q (.disp (.cons (.var 3) .nil))) (.q (.comp [ 10 ] (.nm 10) (.r (.e (.var 2))) (.bin .sub (.idx (.var 10) (.lit (.int 1))) (.idx (.var 1) (.lit (.int 1)))))))))) (.cons (.set (.nm 8) (.bin .add (.idx (.var 1) (.lit (.int 1))) (.var 7))) (.cons (.set (.nm 9) (.agg .tuple (.q (.comp [ 10 ] (.nm 10) (.r (.e (.var 2))) (.tup (.cons (.idx (.var 10) (.lit (.int 0))) (.cons (.agg .tuple (.e (.call 13 (.cons (.var 0) (.cons (.alloc (.listRg (.lit (.int 0)) (.var 8))) (.cons (.idx (.var 10) (.lit (.int 1))) .nil)))))) .nil))))))) (.cons (.ret (.tup (.cons (.idx (.var 1) (.lit (.int 0))) (.cons (.call 15 (.cons (.var 0) (.cons (.var 7) (.cons (.var 5) .nil)))) (.cons (.call 14 (.cons (.var 0) (.cons (.var 8) (.cons (.var 4) (.cons (.var 6) .nil))))) (.cons (.var 9) .nil)))))) .nil))))
def b__law_rules : CSs := (.cons (.ret (.alloc (.compIf [ 2 ] (.nm 2) (.rg (.lit (.int 0)) (.agg .len (.e (.idx (.var 0) (.lit (.int 2)))))) (.v (.cmp .eq (.idx (.idx (.idx (.var 0) (.lit (.int 2))) (.var 2)) (.lit (.int 0))) (.var 1))) (.var 2)))) .nil)
def b__law_parts_1 : CSs := (.cons (.ret (.ife (.v (.isi (.idx (.var 0) (.lit (.int 0))) .str)) (.alloc (.list (.e (.slc (.var 0) (.some (.lit (.int 1))) .none)))) (.alloc (.list (.e (.idx (.var 0) (.neg (.lit (.int 1))))))))) .nil)
def b__law_parts : CSs := (.cons (.ite (.or (.v (.isN (.var 0))) (.v (.inr (.idx (.var 0) (.lit (.int 0))) (.e (.tup (.cons (.lit (.str "least")) (.cons (.lit (.str "rest")) .nil))))))) (.cons (.ret (.alloc (.disp .nil))) .nil) .nil) b__law_parts_1)
def b__law_flat_3 : CSs := (.cons (.ex (.ext (.var 3) (.q (.comp [ 7 ] (.nm 7) (.r (.q (.rev (.e (.call 18 (.cons (.var 5) .nil)))))) (.tup (.cons (.var 7) (.cons (.agg .len (.e (.var 1))) .nil))))))) (.cons (.ex (.app (.var 1) (.var 5))) (.cons (.ex (.app (.var 2) (.alloc (.disp .nil)))) .nil)))
def b__law_flat_2 : CSs := (.cons (.set (.tup [ 5 , 6 ]) (.pop (.var 3))) (.cons (.ite (.v (.cmp .ge (.var 6) (.lit (.int 0)))) (.cons (.ex (.app (.idx (.var 2) (.var 6)) (.agg .len (.e (.var 1))))) .nil) .nil) b__law_flat_3))
def b__law_flat_1 : CSs := (.cons (.ite (.v (.cmp .eq (.agg .len (.e (.var 3))) (.lit (.int 0)))) (.cons (.ret (.alloc (.disp (.cons (.var 1) (.cons (.var 2) .nil))))) .nil) .nil) b__law_flat_2)
def b__law_flat_4 : CSs := (.cons (.ret (.alloc (.disp (.cons (.var 1) (.cons (.var 2) .nil))))) .nil)
def b__law_flat : CSs := (.cons (.set (.tup [ 1 , 2 ]) (.tup (.cons (.alloc (.disp .nil)) (.cons (.alloc (.disp .nil)) .nil)))) (.cons (.set (.nm 3) (.alloc (.disp (.cons (.tup (.cons (.var 0) (.cons (.neg (.lit (.int 1))) .nil))) .nil)))) (.cons (.for (.nm 4) (.rg (.lit (.int 0)) (.lit (.int 5000))) b__law_flat_1) b__law_flat_4)))
def b__law_joined_1 : CSs := (.cons (.set (.tup [ 3 , 4 ]) (.idx (.var 0) (.bin .sub (.bin .sub (.agg .len (.e (.var 0))) (.lit (.int 1))) (.var 2)))) (.cons (.set (.nm 5) (.alloc (.comp [ 6 ] (.nm 6) (.rg (.lit (.int 0)) (.var 4)) (.pop (.var 1))))) (.cons (.ex (.app (.var 1) (.tup (.cons (.var 3) (.cons (.agg .tuple (.e (.var 5))) .nil))))) .nil)))
def b__law_joined_2 : CSs := (.cons (.ret (.idx (.var 1) (.lit (.int 0)))) .nil)
def b__law_joined : CSs := (.cons (.set (.nm 1) (.alloc (.disp .nil))) (.cons (.for (.nm 2) (.rg (.lit (.int 0)) (.agg .len (.e (.var 0)))) b__law_joined_1) b__law_joined_2))
def b__law_least_2 : CSs := (.cons (.ite (.v (.agg .all (.q (.comp [ 5 ] (.nm 5) (.r (.e (.idx (.var 3) (.lit (.int 3))))) (.inr (.idx (.var 5) (.lit (.int 0))) (.e (.var 1))))))) (.cons (.set (.nm 4) (.bin .add (.lit (.int 1)) (.agg .sum (.q (.comp [ 5 ] (.nm 5) (.r (.e (.idx (.var 3) (.lit (.int 3))))) (.idx (.var 1) (.idx (.var 5) (.lit (.int 0))))))))) (.cons (.ite (.or (.v (.notInr (.idx (.var 3) (.lit (.int 0))) (.e (.var 1)))) (.v (.cmp .lt (.var 4) (.idx (.var 1) (.idx (.var 3) (.lit (.int 0))))))) (.cons (.sub (.var 1) (.idx (.var 3) (.lit (.int 0))) (.var 4)) .nil) .nil) .nil)) .nil) .nil)
def b__law_least_1 : CSs := (.cons (.for (.nm 3) (.r (.e (.idx (.var 0) (.lit (.int 2))))) b__law_least_2) .nil)
def b__law_least_3 : CSs := (.cons (.ret (.var 1)) .nil)
def b__law_least : CSs := (.cons (.set (.nm 1) .dnew) (.cons (.for (.nm 2) (.rg (.lit (.int 0)) (.agg .len (.e (.idx (.var 0) (.lit (.int 1)))))) b__law_least_1) b__law_least_3))
def b__law_build_4 : CSs := (.cons (.set (.nm 12) (.idx (.idx (.idx (.var 1) (.lit (.int 2))) (.var 11)) (.lit (.int 3)))) (.cons (.ite (.v (.agg .all (.q (.comp [ 15 ] (.nm 15) (.r (.e (.var 12))) (.inr (.idx (.var 15) (.lit (.int 0))) (.e (.var 4))))))) (.cons (.set (.nm 13) (.bin .sub (.bin .add (.lit (.int 1)) (.agg .sum (.q (.comp [ 15 ] (.nm 15) (.r (.e (.var 12))) (.idx (.var 4) (.idx (.var 15) (.lit (.int 0)))))))) (.idx (.var 4) (.var 9)))) (.cons (.ite (.v (.cmp .le (.var 13) (.var 5))) (.cons (.ex (.app (.var 10) (.tup (.cons (.var 13) (.cons (.var 11) .nil))))) .nil) .nil) .nil)) .nil) .nil))
def b__law_build_6 : CSs := (.cons (.ex (.app (.var 7) (.idx (.idx (.var 12) (.bin .sub (.bin .sub (.agg .len (.e (.var 12))) (.lit (.int 1))) (.var 14))) (.lit (.int 0))))) .nil)
def b__law_build_5 : CSs := (.cons (.set (.tup [ 13 , 11 ]) (.call 10 (.cons (.var 0) (.cons (.var 10) .nil)))) (.cons (.aug 5 .sub (.var 13)) (.cons (.set (.nm 12) (.idx (.idx (.idx (.var 1) (.lit (.int 2))) (.var 11)) (.lit (.int 3)))) (.cons (.ex (.app (.var 6) (.tup (.cons (.var 11) (.cons (.agg .len (.e (.var 12))) .nil))))) (.cons (.for (.nm 14) (.rg (.lit (.int 0)) (.agg .len (.e (.var 12)))) b__law_build_6) .nil)))))
def b__law_build_3 : CSs := (.cons (.set (.nm 9) (.pop (.var 7))) (.cons (.set (.nm 10) (.alloc (.disp .nil))) (.cons (.for (.nm 11) (.r (.e (.call 17 (.cons (.var 1) (.cons (.var 9) .nil))))) b__law_build_4) b__law_build_5)))
def b__law_build_2 : CSs := (.cons (.ite (.v (.cmp .eq (.agg .len (.e (.var 7))) (.lit (.int 0)))) (.cons (.ret (.call 20 (.cons (.var 6) .nil))) .nil) .nil) b__law_build_3)
def b__law_build_7 : CSs := (.cons (.ret (.lit .non)) .nil)
def b__law_build_1 : CSs := (.cons (.set (.nm 5) (.fn2 .max (.lit (.int 0)) (.bin .sub (.var 3) (.idx (.var 4) (.var 2))))) (.cons (.set (.nm 6) (.alloc (.disp .nil))) (.cons (.set (.nm 7) (.alloc (.disp (.cons (.var 2) .nil)))) (.cons (.for (.nm 8) (.rg (.lit (.int 0)) (.lit (.int 4000))) b__law_build_2) b__law_build_7))))
def b__law_build : CSs := (.cons (.set (.nm 4) (.call 21 (.cons (.var 1) .nil))) (.cons (.ite (.v (.notInr (.var 2) (.e (.var 4)))) (.cons (.ret (.lit .non)) .nil) .nil) b__law_build_1))
def b__law_names_along_2 : CSs := (.cons (.sub (.var 5) (.idx (.idx (.var 4) (.var 6)) (.var 7)) (.idx (.idx (.idx (.idx (.idx (.var 0) (.lit (.int 2))) (.idx (.idx (.var 3) (.var 6)) (.lit (.int 0)))) (.lit (.int 3))) (.var 7)) (.lit (.int 0)))) .nil)
def b__law_names_along_1 : CSs := (.cons (.ite (.v (.notN (.idx (.var 3) (.var 6)))) (.cons (.for (.nm 7) (.rg (.lit (.int 0)) (.agg .len (.e (.idx (.var 4) (.var 6))))) b__law_names_along_2) .nil) .nil) .nil)
def b__law_names_along_3 : CSs := (.cons (.ret (.var 5)) .nil)
def b__law_names_along : CSs := (.cons (.set (.tup [ 3 , 4 ]) (.call 19 (.cons (.var 2) .nil))) (.cons (.set (.nm 5) (.alloc (.comp [ 8 ] (.nm 8) (.r (.e (.var 3))) (.var 1)))) (.cons (.for (.nm 6) (.rg (.lit (.int 0)) (.agg .len (.e (.var 3)))) b__law_names_along_1) b__law_names_along_3)))
def b__law_reached_3 : CSs := (.cons (.sub (.var 2) (.idx (.var 5) (.lit (.int 0))) (.lit (.bl true))) .nil)
def b__law_reached_2 : CSs := (.cons (.ite (.v (.inr (.idx (.var 4) (.lit (.int 0))) (.e (.var 2)))) (.cons (.for (.nm 5) (.r (.e (.idx (.var 4) (.lit (.int 3))))) b__law_reached_3) .nil) .nil) .nil)
def b__law_reached_1 : CSs := (.cons (.for (.nm 4) (.r (.e (.idx (.var 0) (.lit (.int 2))))) b__law_reached_2) .nil)
def b__law_reached_4 : CSs := (.cons (.ret (.alloc (.sorted (.e (.var 2))))) .nil)
def b__law_reached : CSs := (.cons (.set (.nm 2) .dnew) (.cons (.sub (.var 2) (.var 1) (.lit (.bl true))) (.cons (.for (.nm 3) (.rg (.lit (.int 0)) (.agg .len (.e (.idx (.var 0) (.lit (.int 1)))))) b__law_reached_1) b__law_reached_4)))
def b__law_ids_1 : CSs := (.cons (.set (.nm 5) (.bin .mul (.idx (.var 2) (.call 9 (.cons (.var 0) (.cons (.lit (.int 63)) .nil)))) (.call 10 (.cons (.var 0) (.cons (.alloc (.disp (.cons (.lit (.int 0)) (.cons (.lit (.int 0)) (.cons (.lit (.int 1)) (.cons (.lit (.int 2)) (.cons (.lit (.int 56)) .nil))))))) .nil))))) (.cons (.ex (.app (.var 3) (.bin .add (.bin .add (.bin .add (.idx (.lit (.str "ABCDEFGHIJKLMNOPQRSTUVWXYZ")) (.call 9 (.cons (.var 0) (.cons (.lit (.int 26)) .nil)))) (.fn1 .str (.var 4))) (.lit (.str "_"))) (.var 5)))) .nil))
def b__law_ids_2 : CSs := (.cons (.ret (.var 3)) .nil)
def b__law_ids : CSs := (.cons (.set (.nm 2) (.lit (.str "abcdefghijklmnopqrstuvwxyzABCDEFGHIJKLMNOPQRSTUVWXYZ0123456789_"))) (.cons (.set (.nm 3) (.alloc (.disp .nil))) (.cons (.for (.nm 4) (.r (.e (.call 12 (.cons (.var 0) (.cons (.alloc (.listRg (.lit (.int 0)) (.var 1))) .nil))))) b__law_ids_1) b__law_ids_2)))
def b__law_wild_1 : CSs := (.cons (.set (.nm 5) (.call 10 (.cons (.var 0) (.cons (.var 2) .nil)))) (.cons (.set (.nm 6) (.alloc (.comp [ 8 ] (.nm 8) (.rg (.lit (.int 0)) (.call 9 (.cons (.var 0) (.cons (.lit (.int 4)) .nil)))) (.call 10 (.cons (.var 0) (.cons (.var 2) .nil)))))) (.cons (.ex (.app (.var 3) (.call 16 (.cons (.var 0) (.cons (.var 5) (.cons (.var 6) (.cons (.call 9 (.cons (.var 0) (.cons (.lit (.int 2)) .nil))) (.cons (.call 9 (.cons (.var 0) (.cons (.lit (.int 2)) .nil))) (.cons (.lit (.str "ab")) (.cons (.lit (.str "pq")) .nil)))))))))) .nil)))
def b__law_wild_2 : CSs := (.cons (.ret (.alloc (.disp (.cons (.var 2) (.cons (.var 3) .nil))))) .nil)
def b__law_wild : CSs := (.cons (.set (.nm 2) (.alloc (.comp [ 7 ] (.nm 7) (.r (.e (.var 1))) (.tup (.cons (.var 7) (.cons (.ife (.v (.cmp .eq (.var 7) (.idx (.var 1) (.lit (.int 0))))) (.lit (.int 0)) (.call 9 (.cons (.var 0) (.cons (.lit (.int 4)) .nil)))) .nil)))))) (.cons (.set (.nm 3) (.alloc (.disp .nil))) (.cons (.for (.nm 4) (.rg (.lit (.int 0)) (.call 9 (.cons (.var 0) (.cons (.lit (.int 10)) .nil)))) b__law_wild_1) b__law_wild_2)))
def b__law_ladder_1 : CSs := (.cons (.set (.nm 6) (.alloc (.cat (.q (.disp (.cons (.idx (.var 2) (.bin .add (.var 5) (.lit (.int 1)))) .nil))) (.q (.comp [ 8 ] (.nm 8) (.rg (.lit (.int 0)) (.call 9 (.cons (.var 0) (.cons (.var 3) .nil)))) (.call 10 (.cons (.var 0) (.cons (.slc (.var 2) (.some (.bin .add (.var 5) (.lit (.int 1)))) (.some (.bin .add (.var 5) (.lit (.int 4))))) .nil)))))))) (.cons (.ex (.app (.var 4) (.call 16 (.cons (.var 0) (.cons (.idx (.var 2) (.var 5)) (.cons (.call 12 (.cons (.var 0) (.cons (.var 6) .nil))) (.cons (.lit (.int 0)) (.cons (.lit (.int 0)) (.cons (.lit (.str "ab")) (.cons (.lit (.str "pq")) .nil)))))))))) .nil))
def b__law_ladder_4 : CSs := (.cons (.set (.nm 6) (.alloc (.comp [ 8 ] (.nm 8) (.rg (.lit (.int 0)) (.call 9 (.cons (.var 0) (.cons (.lit (.int 3)) .nil)))) (.call 10 (.cons (.var 0) (.cons (.var 2) .nil)))))) (.cons (.ex (.app (.var 4) (.call 16 (.cons (.var 0) (.cons (.call 10 (.cons (.var 0) (.cons (.var 2) .nil))) (.cons (.var 6) (.cons (.lit (.int 0)) (.cons (.lit (.int 0)) (.cons (.lit (.str "ab")) (.cons (.lit (.str "pq")) .nil)))))))))) .nil))
def b__law_ladder_5 : CSs := (.cons (.ret (.alloc (.disp (.cons (.var 2) (.cons (.var 4) .nil))))) .nil)
def b__law_ladder_3 : CSs := (.cons (.for (.nm 5) (.rg (.lit (.int 0)) (.call 9 (.cons (.var 0) (.cons (.lit (.int 4)) .nil)))) b__law_ladder_4) b__law_ladder_5)
def b__law_ladder_2 : CSs := (.cons (.ite (.v (.cmp .gt (.call 9 (.cons (.var 0) (.cons (.lit (.int 4)) .nil))) (.lit (.int 0)))) (.cons (.ex (.app (.var 4) (.call 16 (.cons (.var 0) (.cons (.idx (.var 2) (.neg (.lit (.int 1)))) (.cons (.alloc (.disp .nil)) (.cons (.lit (.int 0)) (.cons (.lit (.int 0)) (.cons (.lit (.str "ab")) (.cons (.lit (.str "pq")) .nil)))))))))) .nil) .nil) b__law_ladder_3)
def b__law_ladder : CSs := (.cons (.set (.nm 2) (.alloc (.comp [ 7 ] (.nm 7) (.r (.e (.var 1))) (.tup (.cons (.var 7) (.cons (.ife (.v (.cmp .eq (.var 7) (.idx (.var 1) (.lit (.int 0))))) (.lit (.int 0)) (.call 9 (.cons (.var 0) (.cons (.lit (.int 4)) .nil)))) .nil)))))) (.cons (.set (.nm 3) (.bin .add (.lit (.int 1)) (.call 9 (.cons (.var 0) (.cons (.lit (.int 3)) .nil))))) (.cons (.set (.nm 4) (.alloc (.disp .nil))) (.cons (.for (.nm 5) (.rg (.lit (.int 0)) (.bin .sub (.agg .len (.e (.var 2))) (.lit (.int 1)))) b__law_ladder_1) b__law_ladder_2))))
def b__law_ruled_3 : CSs := (.cons (.ret (.tup (.cons (.idx (.idx (.var 2) (.lit (.int 0))) (.lit (.int 0))) (.cons (.agg .tuple (.q (.sorted (.e (.var 2))))) (.cons (.agg .tuple (.e (.var 3))) .nil))))) .nil)
def b__law_ruled_2 : CSs := (.cons (.set (.nm 3) (.call 10 (.cons (.var 0) (.cons (.alloc (.disp (.cons (.var 3) (.cons (.alloc (.rev (.e (.var 3)))) (.cons (.call 12 (.cons (.var 0) (.cons (.var 3) .nil))) .nil))))) .nil)))) (.cons (.set (.nm 4) (.alloc (.compIf [ 6 ] (.nm 6) (.r (.e (.var 3))) (.v (.cmp .eq (.agg .len (.e (.idx (.var 6) (.lit (.int 3))))) (.lit (.int 0)))) (.var 6)))) (.cons (.ite (.and (.v (.cmp .gt (.agg .len (.e (.var 4))) (.lit (.int 0)))) (.and (.v (.cmp .le (.agg .len (.e (.var 2))) (.lit (.int 8)))) (.v (.call 11 (.cons (.var 0) (.cons (.lit (.int 40)) .nil)))))) (.cons (.set (.nm 5) (.call 10 (.cons (.var 0) (.cons (.var 4) .nil)))) (.cons (.set (.nm 3) (.alloc (.cat (.q (.comp [ 7 ] (.nm 7) (.rg (.lit (.int 0)) (.bin .sub (.lit (.int 400)) (.agg .len (.e (.var 3))))) (.var 5))) (.e (.var 3))))) .nil)) .nil) b__law_ruled_3)))
def b__law_ruled_1 : CSs := (.cons (.ite (.and (.v (.cmp .gt (.agg .len (.e (.var 3))) (.lit (.int 0)))) (.v (.cmp .eq (.call 9 (.cons (.var 0) (.cons (.lit (.int 4)) .nil))) (.lit (.int 0))))) (.cons (.ex (.app (.var 3) (.call 10 (.cons (.var 0) (.cons (.var 3) .nil))))) .nil) .nil) b__law_ruled_2)
def b__law_ruled : CSs := (.cons (.ite (.v (.cmp .eq (.call 9 (.cons (.var 0) (.cons (.lit (.int 2)) .nil))) (.lit (.int 0)))) (.cons (.set (.tup [ 2 , 3 ]) (.call 26 (.cons (.var 0) (.cons (.call 25 (.cons (.var 0) (.cons (.bin .add (.lit (.int 1)) (.call 9 (.cons (.var 0) (.cons (.lit (.int 5)) .nil)))) .nil))) .nil)))) .nil) (.cons (.set (.tup [ 2 , 3 ]) (.call 27 (.cons (.var 0) (.cons (.call 25 (.cons (.var 0) (.cons (.call 10 (.cons (.var 0) (.cons (.var 1) .nil))) .nil))) .nil)))) .nil)) b__law_ruled_1)
def b__law_same : CSs := (.cons (.ret (.and (.isi (.var 0) .tuple) (.and (.cmp .eq (.var 0) (.var 1)) (.cmp .eq (.fn1 .repr (.var 0)) (.fn1 .repr (.var 1)))))) .nil)
def b__law_used_1 : CSs := (.cons (.set (.nm 2) (.alloc (.compIf [ 5 ] (.nm 5) (.rg (.lit (.int 0)) (.agg .len (.e (.idx (.var 0) (.lit (.int 2)))))) (.v (.agg .all (.q (.comp [ 6 ] (.nm 6) (.r (.e (.idx (.idx (.idx (.var 0) (.lit (.int 2))) (.var 5)) (.lit (.int 3))))) (.inr (.idx (.var 6) (.lit (.int 0))) (.e (.var 1))))))) (.var 5)))) (.cons (.set (.nm 3) (.tup (.cons (.idx (.var 0) (.lit (.int 0))) (.cons (.idx (.var 0) (.lit (.int 1))) (.cons (.agg .tuple (.q (.comp [ 5 ] (.nm 5) (.r (.e (.var 2))) (.idx (.idx (.var 0) (.lit (.int 2))) (.var 5))))) .nil))))) (.cons (.set (.nm 4) (.call 24 (.cons (.var 3) (.cons (.idx (.var 0) (.lit (.int 0))) .nil)))) (.cons (.ret (.alloc (.disp (.cons (.var 4) (.cons (.alloc (.compIf [ 5 ] (.nm 5) (.r (.e (.var 2))) (.v (.inr (.idx (.idx (.idx (.var 0) (.lit (.int 2))) (.var 5)) (.lit (.int 0))) (.e (.var 4)))) (.var 5))) .nil))))) .nil))))
def b__law_used : CSs := (.cons (.ite (.v (.notInr (.idx (.var 0) (.lit (.int 0))) (.e (.var 1)))) (.cons (.ret (.alloc (.disp (.cons (.alloc (.disp .nil)) (.cons (.alloc (.disp .nil)) .nil))))) .nil) .nil) b__law_used_1)
def b__law_due : CSs := (.cons (.set (.tup [ 2 , 3 ]) (.call 30 (.cons (.var 0) (.cons (.var 1) .nil)))) (.cons (.ret (.tup (.cons (.agg .tuple (.q (.sorted (.e (.var 1))))) (.cons (.agg .tuple (.e (.var 2))) (.cons (.agg .tuple (.e (.var 3))) .nil))))) .nil))
def b__law_told : CSs := (.cons (.ret (.tup (.cons (.call 3 (.cons (.var 0) .nil)) (.cons (.call 6 (.cons (.var 0) .nil)) (.cons (.call 7 (.cons (.var 0) .nil)) .nil))))) .nil)
def b__law_is_seen_3 : CSs := (.cons (.ret (.agg .all (.q (.comp [ 7 ] (.nm 7) (.r (.e (.idx (.call 19 (.cons (.var 5) .nil)) (.lit (.int 0))))) (.inr (.idx (.var 7) (.lit (.int 0))) (.e (.idx (.var 4) (.lit (.int 2))))))))) .nil)
def b__law_is_seen_2 : CSs := (.cons (.ite (.not (.v (.agg .all (.q (.comp [ 8 ] (.nm 8) (.r (.e (.var 6))) (.inr (.var 8) (.e (.idx (.var 4) (.lit (.int 1)))))))))) (.cons (.ret (.lit (.bl false))) .nil) .nil) b__law_is_seen_3)
def b__law_is_seen_1 : CSs := (.cons (.ite (.v (.cmp .ne (.var 2) (.idx (.var 1) (.lit (.int 0))))) (.cons (.ret (.lit (.bl true))) .nil) .nil) b__law_is_seen_2)
def b__law_is_seen : CSs := (.cons (.set (.nm 5) (.call 22 (.cons (.var 0) (.cons (.var 1) (.cons (.var 2) (.cons (.bin .add (.var 3) (.call 9 (.cons (.var 0) (.cons (.lit (.int 20)) .nil)))) .nil)))))) (.cons (.set (.nm 6) (.call 23 (.cons (.var 1) (.cons (.var 2) (.cons (.var 5) .nil))))) (.cons (.ite (.not (.v (.agg .all (.q (.comp [ 8 ] (.nm 8) (.r (.e (.var 6))) (.inr (.var 8) (.e (.idx (.var 4) (.lit (.int 0)))))))))) (.cons (.ret (.lit (.bl false))) .nil) .nil) b__law_is_seen_1)))
def b_law_2 : CSs := (.cons (.ite (.and (.v (.inr (.var 5) (.e (.var 3)))) (.v (.cmp .le (.idx (.var 3) (.var 5)) (.lit (.int 40))))) (.cons (.ite (.not (.v (.call 33 (.cons (.var 1) (.cons (.var 2) (.cons (.var 5) (.cons (.idx (.var 3) (.var 5)) (.cons (.var 4) .nil)))))))) (.cons (.ret (.lit (.bl false))) .nil) .nil) .nil) .nil) .nil)
def b_law_4 : CSs := (.cons (.ret (.call 29 (.cons (.call 32 (.cons (.var 2) .nil)) (.cons (.call 31 (.cons (.var 2) (.cons (.var 3) .nil))) .nil)))) .nil)
def b_law_3 : CSs := (.cons (.ite (.v (.cmp .gt (.agg .len (.e (.idx (.var 2) (.lit (.int 2))))) (.lit (.int 0)))) (.cons (.set (.nm 6) (.call 9 (.cons (.var 1) (.cons (.agg .len (.e (.idx (.var 2) (.lit (.int 2))))) .nil)))) (.cons (.set (.nm 7) (.tup (.cons (.idx (.var 2) (.lit (.int 0))) (.cons (.idx (.var 2) (.lit (.int 1))) (.cons (.bin .add (.slc (.idx (.var 2) (.lit (.int 2))) .none (.some (.var 6))) (.slc (.idx (.var 2) (.lit (.int 2))) (.some (.bin .add (.var 6) (.lit (.int 1)))) .none)) .nil))))) (.cons (.ite (.not (.v (.call 29 (.cons (.call 32 (.cons (.var 7) .nil)) (.cons (.call 31 (.cons (.var 7) (.cons (.call 21 (.cons (.var 7) .nil)) .nil))) .nil))))) (.cons (.ret (.lit (.bl false))) .nil) .nil) .nil))) .nil) b_law_4)
def b_law_1 : CSs := (.cons (.for (.nm 5) (.r (.q (.disp (.cons (.idx (.var 2) (.lit (.int 0))) (.cons (.idx (.call 10 (.cons (.var 1) (.cons (.idx (.var 2) (.lit (.int 1))) .nil))) (.lit (.int 0))) .nil))))) b_law_2) b_law_3)
def b_law : CSs := (.cons (.set (.nm 1) (.call 8 (.cons (.var 0) .nil))) (.cons (.set (.nm 2) (.call 28 (.cons (.var 1) (.cons (.alloc (.disp (.cons (.lit (.int 2)) (.cons (.lit (.int 3)) (.cons (.lit (.int 4)) (.cons (.lit (.int 5)) (.cons (.lit (.int 6)) (.cons (.lit (.int 7)) (.cons (.lit (.int 8)) (.cons (.lit (.int 9)) (.cons (.lit (.int 11)) (.cons (.lit (.int 14)) (.cons (.lit (.int 20)) (.cons (.lit (.int 64)) .nil)))))))))))))) .nil)))) (.cons (.set (.nm 3) (.call 21 (.cons (.var 2) .nil))) (.cons (.set (.nm 4) (.call 32 (.cons (.var 2) .nil))) (.cons (.ite (.not (.v (.call 29 (.cons (.var 4) (.cons (.call 31 (.cons (.var 2) (.cons (.var 3) .nil))) .nil))))) (.cons (.ret (.lit (.bl false))) .nil) .nil) b_law_1)))))
def T : List Fn := (([⟨"arity_in", ["names", "name", "known", "arity"], 2, b_arity_in⟩,
  ⟨"arity_of", ["book", "name", "arity"], 2, b_arity_of⟩,
  ⟨"reached_from", ["book", "name", "reached", "turn", "rule", "slot"], 2, b_reached_from⟩,
  ⟨"growing_names", ["book", "growing", "turn", "rule", "slot"], 1, b_growing_names⟩,
  ⟨"growing_rules", ["book", "growing", "found", "number", "slot"], 1, b_growing_rules⟩,
  ⟨"growing_part", ["book", "numbers", "number"], 1, b_growing_part⟩,
  ⟨"useful_names", ["book"], 1, b_useful_names⟩,
  ⟨"useful_rules", ["book", "useful", "number"], 1, b_useful_rules⟩,
  ⟨"_law_begin", ["script", "cell"], 1, b__law_begin⟩,
  ⟨"_law_draw", ["d", "many", "found", "size", "cell"], 2, b__law_draw⟩,
  ⟨"_law_pick", ["d", "row"], 2, b__law_pick⟩,
  ⟨"_law_rare", ["d", "many"], 2, b__law_rare⟩,
  ⟨"_law_shuffled", ["d", "row", "left", "found", "k"], 2, b__law_shuffled⟩,
  ⟨"_law_some", ["d", "row", "many"], 3, b__law_some⟩,
  ⟨"_law_ties", ["d", "spots", "many", "strands", "found", "k", "pair"], 4, b__law_ties⟩,
  ⟨"_law_marks", ["d", "many", "marks", "k"], 3, b__law_marks⟩,
  ⟨"_law_rule", ["d", "pair", "slots", "inner", "ties", "marks", "strands", "own", "spots", "told", "slot"], 7, b__law_rule⟩,
  ⟨"_law_rules", ["book", "name", "k"], 2, b__law_rules⟩,
  ⟨"_law_parts", ["node"], 1, b__law_parts⟩,
  ⟨"_law_flat", ["thing", "nodes", "below", "waiting", "turn", "node", "above", "part"], 1, b__law_flat⟩,
  ⟨"_law_joined", ["rows", "built", "k", "rule", "many", "parts", "j"], 1, b__law_joined⟩,
  ⟨"_law_least", ["book", "least", "turn", "rule", "steps", "slot"], 1, b__law_least⟩,
  ⟨"_law_build", ["d", "book", "name", "most", "least", "spare", "rows", "waiting", "turn", "due", "open_rules", "number", "slots", "more", "k", "slot"], 4, b__law_build⟩,
  ⟨"_law_names_along", ["book", "name", "build", "nodes", "below", "names", "place", "k", "node"], 3, b__law_names_along⟩,
  ⟨"_law_reached", ["book", "name", "found", "turn", "rule", "slot"], 2, b__law_reached⟩,
  ⟨"_law_ids", ["d", "many", "signs", "found", "k", "tail"], 2, b__law_ids⟩,
  ⟨"_law_wild", ["d", "names", "pairs", "rules", "k", "pair", "used", "name", "j"], 2, b__law_wild⟩,
  ⟨"_law_ladder", ["d", "names", "pairs", "slots", "rules", "k", "used", "name", "j"], 2, b__law_ladder⟩,
  ⟨"_law_ruled", ["d", "sizes", "pairs", "rules", "ended", "one", "rule", "k"], 2, b__law_ruled⟩,
  ⟨"_law_same", ["told", "due"], 2, b__law_same⟩] : List Fn) ++ ([⟨"_law_used", ["book", "least", "numbers", "part", "names", "k", "slot"], 2, b__law_used⟩,
  ⟨"_law_due", ["book", "least", "names", "numbers"], 2, b__law_due⟩,
  ⟨"_law_told", ["book"], 1, b__law_told⟩,
  ⟨"_law_is_seen", ["d", "book", "name", "steps", "told", "build", "along", "node", "one"], 5, b__law_is_seen⟩,
  ⟨"law", ["script", "d", "book", "least", "told", "name", "gone", "other"], 1, b_law⟩] : List Fn))
abbrev n_arity_in : Nat := 0
abbrev n_arity_of : Nat := 1
abbrev n_reached_from : Nat := 2
abbrev n_growing_names : Nat := 3
abbrev n_growing_rules : Nat := 4
abbrev n_growing_part : Nat := 5
abbrev n_useful_names : Nat := 6
abbrev n_useful_rules : Nat := 7
abbrev n__law_begin : Nat := 8
abbrev n__law_draw : Nat := 9
abbrev n__law_pick : Nat := 10
abbrev n__law_rare : Nat := 11
abbrev n__law_shuffled : Nat := 12
abbrev n__law_some : Nat := 13
abbrev n__law_ties : Nat := 14
abbrev n__law_marks : Nat := 15
abbrev n__law_rule : Nat := 16
abbrev n__law_rules : Nat := 17
abbrev n__law_parts : Nat := 18
abbrev n__law_flat : Nat := 19
abbrev n__law_joined : Nat := 20
abbrev n__law_least : Nat := 21
abbrev n__law_build : Nat := 22
abbrev n__law_names_along : Nat := 23
abbrev n__law_reached : Nat := 24
abbrev n__law_ids : Nat := 25
abbrev n__law_wild : Nat := 26
abbrev n__law_ladder : Nat := 27
abbrev n__law_ruled : Nat := 28
abbrev n__law_same : Nat := 29
abbrev n__law_used : Nat := 30
abbrev n__law_due : Nat := 31
abbrev n__law_told : Nat := 32
abbrev n__law_is_seen : Nat := 33
abbrev n_law : Nat := 34
/-! ### the head -/
@[reducible] def dd (x : Str) (i : Nat) : He.DefD := ⟨(x, none), x, x, defArgs (top i), defBody (top i), defScope (top i), [], []⟩
def fn : List He.DefD := (([dd "arity_in" 4, dd "arity_of" 5, dd "reached_from" 6, dd "growing_names" 8, dd "growing_rules" 9, dd "growing_part" 10, dd "useful_names" 11, dd "useful_rules" 12, dd "_law_begin" 14, dd "_law_draw" 15, dd "_law_pick" 16, dd "_law_rare" 17, dd "_law_shuffled" 18, dd "_law_some" 19, dd "_law_ties" 20, dd "_law_marks" 21, dd "_law_rule" 22, dd "_law_rules" 23, dd "_law_parts" 24, dd "_law_flat" 25, dd "_law_joined" 26, dd "_law_least" 27, dd "_law_build" 28, dd "_law_names_along" 29, dd "_law_reached" 30, dd "_law_ids" 31, dd "_law_wild" 32, dd "_law_ladder" 33, dd "_law_ruled" 34, dd "_law_same" 35] : List He.DefD) ++ ([dd "_law_used" 36, dd "_law_due" 37, dd "_law_told" 38, dd "_law_is_seen" 39, dd "law" 40] : List He.DefD))
def fa : List He.Fa := (([.glo "arity_in", .glo "arity_of", .glo "reached_from", .glo "growing_names", .glo "growing_rules", .glo "growing_part", .glo "useful_names", .glo "useful_rules", .glo "_law_begin", .glo "_law_draw", .glo "_law_pick", .glo "_law_rare", .glo "_law_shuffled", .glo "_law_some", .glo "_law_ties", .glo "_law_marks", .glo "_law_rule", .glo "_law_rules", .glo "_law_parts", .glo "_law_flat", .glo "_law_joined", .glo "_law_least", .glo "_law_build", .glo "_law_names_along", .glo "_law_reached", .glo "_law_ids", .glo "_law_wild", .glo "_law_ladder", .glo "_law_ruled", .glo "_law_same"] : List He.Fa) ++ ([.glo "_law_used", .glo "_law_due", .glo "_law_told", .glo "_law_is_seen", .glo "law", .free "len", .free "range", .free "tuple", .free "int", .free "sorted", .free "isinstance", .free "list", .free "sum", .free "max", .free "all", .free "str", .free "abs", .free "repr"] : List He.Fa))
abbrev R : PySem.W.OpenRow := PySem.W.OpenLaw.row PySem.Challenge.rw_everygrown_k16_growing_and_useful
abbrev hk : PySem.W.Hook := PQ.hookP 4 fa fn Gs
def ob (s : PySem.W.SharedT) : He.AlD × Bool := PQ.obP 4 fa fn Gs (HandSHeadRun.getT s)
theorem ob_eq (s : PySem.W.SharedT) : ob s = hk.obs s.abs := PQ.obP_eq (HandSHeadRun.getT_eq s)
def loose : List Str := ((["arity_in", "arity_of", "reached_from", "growing_names", "growing_rules", "growing_part", "useful_names", "useful_rules", "_law_begin", "_law_draw", "_law_pick", "_law_rare", "_law_shuffled", "_law_some", "_law_ties", "_law_marks", "_law_rule", "_law_rules", "_law_parts", "_law_flat", "_law_joined", "_law_least", "_law_build", "_law_names_along", "_law_reached", "_law_ids", "_law_wild", "_law_ladder", "_law_ruled", "_law_same"] : List Str) ++ (["_law_used", "_law_due", "_law_told", "_law_is_seen", "GrownError", "NoName"] : List Str))
theorem run (w : World) : HandSHeadRun.RunEq R (PySem.W.view R.prog [40]) hk ob 12000 loose w := by
  intro os
  kernel_rfl
/-! ### each def is what the language says -/
theorem c_arity_in : (cSs 60 60 ⟨names, B, ["names", "name", "known", "arity"], defScope (top 4), Gs⟩ (defBody (top 4))).map (·.val) = some b_arity_in := by kernel_rfl
theorem d_arity_in {K : Fg} {h : Heap} {mg : Str → Option Value} (X : K.In h) (G : h.Ns mainGlobals mg) (c : He.SaysD fa fn K) : DefOk K mg names B Gs ⟨"arity_in", ["names", "name", "known", "arity"], 2, b_arity_in⟩ :=
  def_ok (names := names) (B := B) (Gs := Gs) (N := ["names", "name", "known", "arity"]) (ps := ["names", "name"]) X G c 0 (st := top 4) rfl 0 rfl c_arity_in ⟨rfl, rfl, rfl, by decide +kernel, rfl, by decide +kernel, by decide +kernel⟩ rfl fun _ _ _ _ _ _ us hl => match us, hl with | [_, _], _ => rfl
theorem c_arity_of : (cSs 60 60 ⟨names, B, ["book", "name", "arity"], defScope (top 5), Gs⟩ (defBody (top 5))).map (·.val) = some b_arity_of := by kernel_rfl
theorem d_arity_of {K : Fg} {h : Heap} {mg : Str → Option Value} (X : K.In h) (G : h.Ns mainGlobals mg) (c : He.SaysD fa fn K) : DefOk K mg names B Gs ⟨"arity_of", ["book", "name", "arity"], 2, b_arity_of⟩ :=
  def_ok (names := names) (B := B) (Gs := Gs) (N := ["book", "name", "arity"]) (ps := ["book", "name"]) X G c 1 (st := top 5) rfl 1 rfl c_arity_of ⟨rfl, rfl, rfl, by decide +kernel, rfl, by decide +kernel, by decide +kernel⟩ rfl fun _ _ _ _ _ _ us hl => match us, hl with | [_, _], _ => rfl
theorem c_reached_from : (cSs 60 60 ⟨names, B, ["book", "name", "reached", "turn", "rule", "slot"], defScope (top 6), Gs⟩ (defBody (top 6))).map (·.val) = some b_reached_from := by kernel_rfl
theorem d_reached_from {K : Fg} {h : Heap} {mg : Str → Option Value} (X : K.In h) (G : h.Ns mainGlobals mg) (c : He.SaysD fa fn K) : DefOk K mg names B Gs ⟨"reached_from", ["book", "name", "reached", "turn", "rule", "slot"], 2, b_reached_from⟩ :=
  def_ok (names := names) (B := B) (Gs := Gs) (N := ["book", "name", "reached", "turn", "rule", "slot"]) (ps := ["book", "name"]) X G c 2 (st := top 6) rfl 2 rfl c_reached_from ⟨rfl, rfl, rfl, by decide +kernel, rfl, by decide +kernel, by decide +kernel⟩ rfl fun _ _ _ _ _ _ us hl => match us, hl with | [_, _], _ => rfl
theorem c_growing_names : (cSs 60 60 ⟨names, B, ["book", "growing", "turn", "rule", "slot"], defScope (top 8), Gs⟩ (defBody (top 8))).map (·.val) = some b_growing_names := by kernel_rfl
theorem d_growing_names {K : Fg} {h : Heap} {mg : Str → Option Value} (X : K.In h) (G : h.Ns mainGlobals mg) (c : He.SaysD fa fn K) : DefOk K mg names B Gs ⟨"growing_names", ["book", "growing", "turn", "rule", "slot"], 1, b_growing_names⟩ :=
  def_ok (names := names) (B := B) (Gs := Gs) (N := ["book", "growing", "turn", "rule", "slot"]) (ps := ["book"]) X G c 3 (st := top 8) rfl 3 rfl c_growing_names ⟨rfl, rfl, rfl, by decide +kernel, rfl, by decide +kernel, by decide +kernel⟩ rfl fun _ _ _ _ _ _ us hl => match us, hl with | [_], _ => rfl
theorem c_growing_rules : (cSs 60 60 ⟨names, B, ["book", "growing", "found", "number", "slot"], defScope (top 9), Gs⟩ (defBody (top 9))).map (·.val) = some b_growing_rules := by kernel_rfl
theorem d_growing_rules {K : Fg} {h : Heap} {mg : Str → Option Value} (X : K.In h) (G : h.Ns mainGlobals mg) (c : He.SaysD fa fn K) : DefOk K mg names B Gs ⟨"growing_rules", ["book", "growing", "found", "number", "slot"], 1, b_growing_rules⟩ :=
  def_ok (names := names) (B := B) (Gs := Gs) (N := ["book", "growing", "found", "number", "slot"]) (ps := ["book"]) X G c 4 (st := top 9) rfl 4 rfl c_growing_rules ⟨rfl, rfl, rfl, by decide +kernel, rfl, by decide +kernel, by decide +kernel⟩ rfl fun _ _ _ _ _ _ us hl => match us, hl with | [_], _ => rfl
theorem c_growing_part : (cSs 60 60 ⟨names, B, ["book", "numbers", "number"], defScope (top 10), Gs⟩ (defBody (top 10))).map (·.val) = some b_growing_part := by kernel_rfl
theorem d_growing_part {K : Fg} {h : Heap} {mg : Str → Option Value} (X : K.In h) (G : h.Ns mainGlobals mg) (c : He.SaysD fa fn K) : DefOk K mg names B Gs ⟨"growing_part", ["book", "numbers", "number"], 1, b_growing_part⟩ :=
  def_ok (names := names) (B := B) (Gs := Gs) (N := ["book", "numbers", "number"]) (ps := ["book"]) X G c 5 (st := top 10) rfl 5 rfl c_growing_part ⟨rfl, rfl, rfl, by decide +kernel, rfl, by decide +kernel, by decide +kernel⟩ rfl fun _ _ _ _ _ _ us hl => match us, hl with | [_], _ => rfl
theorem c_useful_names : (cSs 60 60 ⟨names, B, ["book"], defScope (top 11), Gs⟩ (defBody (top 11))).map (·.val) = some b_useful_names := by kernel_rfl
theorem d_useful_names {K : Fg} {h : Heap} {mg : Str → Option Value} (X : K.In h) (G : h.Ns mainGlobals mg) (c : He.SaysD fa fn K) : DefOk K mg names B Gs ⟨"useful_names", ["book"], 1, b_useful_names⟩ :=
  def_ok (names := names) (B := B) (Gs := Gs) (N := ["book"]) (ps := ["book"]) X G c 6 (st := top 11) rfl 6 rfl c_useful_names ⟨rfl, rfl, rfl, by decide +kernel, rfl, by decide +kernel, by decide +kernel⟩ rfl fun _ _ _ _ _ _ us hl => match us, hl with | [_], _ => rfl
theorem c_useful_rules : (cSs 60 60 ⟨names, B, ["book", "useful", "number"], defScope (top 12), Gs⟩ (defBody (top 12))).map (·.val) = some b_useful_rules := by kernel_rfl
theorem d_useful_rules {K : Fg} {h : Heap} {mg : Str → Option Value} (X : K.In h) (G : h.Ns mainGlobals mg) (c : He.SaysD fa fn K) : DefOk K mg names B Gs ⟨"useful_rules", ["book", "useful", "number"], 1, b_useful_rules⟩ :=
  def_ok (names := names) (B := B) (Gs := Gs) (N := ["book", "useful", "number"]) (ps := ["book"]) X G c 7 (st := top 12) rfl 7 rfl c_useful_rules ⟨rfl, rfl, rfl, by decide +kernel, rfl, by decide +kernel, by decide +kernel⟩ rfl fun _ _ _ _ _ _ us hl => match us, hl with | [_], _ => rfl
theorem c__law_begin : (cSs 60 60 ⟨names, B, ["script", "cell"], defScope (top 14), Gs⟩ (defBody (top 14))).map (·.val) = some b__law_begin := by kernel_rfl
theorem d__law_begin {K : Fg} {h : Heap} {mg : Str → Option Value} (X : K.In h) (G : h.Ns mainGlobals mg) (c : He.SaysD fa fn K) : DefOk K mg names B Gs ⟨"_law_begin", ["script", "cell"], 1, b__law_begin⟩ :=
  def_ok (names := names) (B := B) (Gs := Gs) (N := ["script", "cell"]) (ps := ["script"]) X G c 8 (st := top 14) rfl 8 rfl c__law_begin ⟨rfl, rfl, rfl, by decide +kernel, rfl, by decide +kernel, by decide +kernel⟩ rfl fun _ _ _ _ _ _ us hl => match us, hl with | [_], _ => rfl
theorem c__law_draw : (cSs 60 60 ⟨names, B, ["d", "many", "found", "size", "cell"], defScope (top 15), Gs⟩ (defBody (top 15))).map (·.val) = some b__law_draw := by kernel_rfl
theorem d__law_draw {K : Fg} {h : Heap} {mg : Str → Option Value} (X : K.In h) (G : h.Ns mainGlobals mg) (c : He.SaysD fa fn K) : DefOk K mg names B Gs ⟨"_law_draw", ["d", "many", "found", "size", "cell"], 2, b__law_draw⟩ :=
  def_ok (names := names) (B := B) (Gs := Gs) (N := ["d", "many", "found", "size", "cell"]) (ps := ["d", "many"]) X G c 9 (st := top 15) rfl 9 rfl c__law_draw ⟨rfl, rfl, rfl, by decide +kernel, rfl, by decide +kernel, by decide +kernel⟩ rfl fun _ _ _ _ _ _ us hl => match us, hl with | [_, _], _ => rfl
theorem c__law_pick : (cSs 60 60 ⟨names, B, ["d", "row"], defScope (top 16), Gs⟩ (defBody (top 16))).map (·.val) = some b__law_pick := by kernel_rfl
theorem d__law_pick {K : Fg} {h : Heap} {mg : Str → Option Value} (X : K.In h) (G : h.Ns mainGlobals mg) (c : He.SaysD fa fn K) : DefOk K mg names B Gs ⟨"_law_pick", ["d", "row"], 2, b__law_pick⟩ :=
  def_ok (names := names) (B := B) (Gs := Gs) (N := ["d", "row"]) (ps := ["d", "row"]) X G c 10 (st := top 16) rfl 10 rfl c__law_pick ⟨rfl, rfl, rfl, by decide +kernel, rfl, by decide +kernel, by decide +kernel⟩ rfl fun _ _ _ _ _ _ us hl => match us, hl with | [_, _], _ => rfl
theorem c__law_rare : (cSs 60 60 ⟨names, B, ["d", "many"], defScope (top 17), Gs⟩ (defBody (top 17))).map (·.val) = some b__law_rare := by kernel_rfl
theorem d__law_rare {K : Fg} {h : Heap} {mg : Str → Option Value} (X : K.In h) (G : h.Ns mainGlobals mg) (c : He.SaysD fa fn K) : DefOk K mg names B Gs ⟨"_law_rare", ["d", "many"], 2, b__law_rare⟩ :=
  def_ok (names := names) (B := B) (Gs := Gs) (N := ["d", "many"]) (ps := ["d", "many"]) X G c 11 (st := top 17) rfl 11 rfl c__law_rare ⟨rfl, rfl, rfl, by decide +kernel, rfl, by decide +kernel, by decide +kernel⟩ rfl fun _ _ _ _ _ _ us hl => match us, hl with | [_, _], _ => rfl
theorem c__law_shuffled : (cSs 60 60 ⟨names, B, ["d", "row", "left", "found", "k"], defScope (top 18), Gs⟩ (defBody (top 18))).map (·.val) = some b__law_shuffled := by kernel_rfl
theorem d__law_shuffled {K : Fg} {h : Heap} {mg : Str → Option Value} (X : K.In h) (G : h.Ns mainGlobals mg) (c : He.SaysD fa fn K) : DefOk K mg names B Gs ⟨"_law_shuffled", ["d", "row", "left", "found", "k"], 2, b__law_shuffled⟩ :=
  def_ok (names := names) (B := B) (Gs := Gs) (N := ["d", "row", "left", "found", "k"]) (ps := ["d", "row"]) X G c 12 (st := top 18) rfl 12 rfl c__law_shuffled ⟨rfl, rfl, rfl, by decide +kernel, rfl, by decide +kernel, by decide +kernel⟩ rfl fun _ _ _ _ _ _ us hl => match us, hl with | [_, _], _ => rfl
theorem c__law_some : (cSs 60 60 ⟨names, B, ["d", "row", "many"], defScope (top 19), Gs⟩ (defBody (top 19))).map (·.val) = some b__law_some := by kernel_rfl
theorem d__law_some {K : Fg} {h : Heap} {mg : Str → Option Value} (X : K.In h) (G : h.Ns mainGlobals mg) (c : He.SaysD fa fn K) : DefOk K mg names B Gs ⟨"_law_some", ["d", "row", "many"], 3, b__law_some⟩ :=
  def_ok (names := names) (B := B) (Gs := Gs) (N := ["d", "row", "many"]) (ps := ["d", "row", "many"]) X G c 13 (st := top 19) rfl 13 rfl c__law_some ⟨rfl, rfl, rfl, by decide +kernel, rfl, by decide +kernel, by decide +kernel⟩ rfl fun _ _ _ _ _ _ us hl => match us, hl with | [_, _, _], _ => rfl
theorem c__law_ties : (cSs 60 60 ⟨names, B, ["d", "spots", "many", "strands", "found", "k", "pair"], defScope (top 20), Gs⟩ (defBody (top 20))).map (·.val) = some b__law_ties := by kernel_rfl
theorem d__law_ties {K : Fg} {h : Heap} {mg : Str → Option Value} (X : K.In h) (G : h.Ns mainGlobals mg) (c : He.SaysD fa fn K) : DefOk K mg names B Gs ⟨"_law_ties", ["d", "spots", "many", "strands", "found", "k", "pair"], 4, b__law_ties⟩ :=
  def_ok (names := names) (B := B) (Gs := Gs) (N := ["d", "spots", "many", "strands", "found", "k", "pair"]) (ps := ["d", "spots", "many", "strands"]) X G c 14 (st := top 20) rfl 14 rfl c__law_ties ⟨rfl, rfl, rfl, by decide +kernel, rfl, by decide +kernel, by decide +kernel⟩ rfl fun _ _ _ _ _ _ us hl => match us, hl with | [_, _, _, _], _ => rfl
theorem c__law_marks : (cSs 60 60 ⟨names, B, ["d", "many", "marks", "k"], defScope (top 21), Gs⟩ (defBody (top 21))).map (·.val) = some b__law_marks := by kernel_rfl
theorem d__law_marks {K : Fg} {h : Heap} {mg : Str → Option Value} (X : K.In h) (G : h.Ns mainGlobals mg) (c : He.SaysD fa fn K) : DefOk K mg names B Gs ⟨"_law_marks", ["d", "many", "marks", "k"], 3, b__law_marks⟩ :=
  def_ok (names := names) (B := B) (Gs := Gs) (N := ["d", "many", "marks", "k"]) (ps := ["d", "many", "marks"]) X G c 15 (st := top 21) rfl 15 rfl c__law_marks ⟨rfl, rfl, rfl, by decide +kernel, rfl, by decide +kernel, by decide +kernel⟩ rfl fun _ _ _ _ _ _ us hl => match us, hl with | [_, _, _], _ => rfl
theorem c__law_rule : (cSs 60 60 ⟨names, B, ["d", "pair", "slots", "inner", "ties", "marks", "strands", "own", "spots", "told", "slot"], defScope (top 22), Gs⟩ (defBody (top 22))).map (·.val) = some b__law_rule := by kernel_rfl
theorem d__law_rule {K : Fg} {h : Heap} {mg : Str → Option Value} (X : K.In h) (G : h.Ns mainGlobals mg) (c : He.SaysD fa fn K) : DefOk K mg names B Gs ⟨"_law_rule", ["d", "pair", "slots", "inner", "ties", "marks", "strands", "own", "spots", "told", "slot"], 7, b__law_rule⟩ :=
  def_ok (names := names) (B := B) (Gs := Gs) (N := ["d", "pair", "slots", "inner", "ties", "marks", "strands", "own", "spots", "told", "slot"]) (ps := ["d", "pair", "slots", "inner", "ties", "marks", "strands"]) X G c 16 (st := top 22) rfl 16 rfl c__law_rule ⟨rfl, rfl, rfl, by decide +kernel, rfl, by decide +kernel, by decide +kernel⟩ rfl fun _ _ _ _ _ _ us hl => match us, hl with | [_, _, _, _, _, _, _], _ => rfl
theorem c__law_rules : (cSs 60 60 ⟨names, B, ["book", "name", "k"], defScope (top 23), Gs⟩ (defBody (top 23))).map (·.val) = some b__law_rules := by kernel_rfl
theorem d__law_rules {K : Fg} {h : Heap} {mg : Str → Option Value} (X : K.In h) (G : h.Ns mainGlobals mg) (c : He.SaysD fa fn K) : DefOk K mg names B Gs ⟨"_law_rules", ["book", "name", "k"], 2, b__law_rules⟩ :=
  def_ok (names := names) (B := B) (Gs := Gs) (N := ["book", "name", "k"]) (ps := ["book", "name"]) X G c 17 (st := top 23) rfl 17 rfl c__law_rules ⟨rfl, rfl, rfl, by decide +kernel, rfl, by decide +kernel, by decide +kernel⟩ rfl fun _ _ _ _ _ _ us hl => match us, hl with | [_, _], _ => rfl
theorem c__law_parts : (cSs 60 60 ⟨names, B, ["node"], defScope (top 24), Gs⟩ (defBody (top 24))).map (·.val) = some b__law_parts := by kernel_rfl
theorem d__law_parts {K : Fg} {h : Heap} {mg : Str → Option Value} (X : K.In h) (G : h.Ns mainGlobals mg) (c : He.SaysD fa fn K) : DefOk K mg names B Gs ⟨"_law_parts", ["node"], 1, b__law_parts⟩ :=
  def_ok (names := names) (B := B) (Gs := Gs) (N := ["node"]) (ps := ["node"]) X G c 18 (st := top 24) rfl 18 rfl c__law_parts ⟨rfl, rfl, rfl, by decide +kernel, rfl, by decide +kernel, by decide +kernel⟩ rfl fun _ _ _ _ _ _ us hl => match us, hl with | [_], _ => rfl
theorem c__law_flat : (cSs 60 60 ⟨names, B, ["thing", "nodes", "below", "waiting", "turn", "node", "above", "part"], defScope (top 25), Gs⟩ (defBody (top 25))).map (·.val) = some b__law_flat := by kernel_rfl
theorem d__law_flat {K : Fg} {h : Heap} {mg : Str → Option Value} (X : K.In h) (G : h.Ns mainGlobals mg) (c : He.SaysD fa fn K) : DefOk K mg names B Gs ⟨"_law_flat", ["thing", "nodes", "below", "waiting", "turn", "node", "above", "part"], 1, b__law_flat⟩ :=
  def_ok (names := names) (B := B) (Gs := Gs) (N := ["thing", "nodes", "below", "waiting", "turn", "node", "above", "part"]) (ps := ["thing"]) X G c 19 (st := top 25) rfl 19 rfl c__law_flat ⟨rfl, rfl, rfl, by decide +kernel, rfl, by decide +kernel, by decide +kernel⟩ rfl fun _ _ _ _ _ _ us hl => match us, hl with | [_], _ => rfl
theorem c__law_joined : (cSs 60 60 ⟨names, B, ["rows", "built", "k", "rule", "many", "parts", "j"], defScope (top 26), Gs⟩ (defBody (top 26))).map (·.val) = some b__law_joined := by kernel_rfl
theorem d__law_joined {K : Fg} {h : Heap} {mg : Str → Option Value} (X : K.In h) (G : h.Ns mainGlobals mg) (c : He.SaysD fa fn K) : DefOk K mg names B Gs ⟨"_law_joined", ["rows", "built", "k", "rule", "many", "parts", "j"], 1, b__law_joined⟩ :=
  def_ok (names := names) (B := B) (Gs := Gs) (N := ["rows", "built", "k", "rule", "many", "parts", "j"]) (ps := ["rows"]) X G c 20 (st := top 26) rfl 20 rfl c__law_joined ⟨rfl, rfl, rfl, by decide +kernel, rfl, by decide +kernel, by decide +kernel⟩ rfl fun _ _ _ _ _ _ us hl => match us, hl with | [_], _ => rfl
theorem c__law_least : (cSs 60 60 ⟨names, B, ["book", "least", "turn", "rule", "steps", "slot"], defScope (top 27), Gs⟩ (defBody (top 27))).map (·.val) = some b__law_least := by kernel_rfl
theorem d__law_least {K : Fg} {h : Heap} {mg : Str → Option Value} (X : K.In h) (G : h.Ns mainGlobals mg) (c : He.SaysD fa fn K) : DefOk K mg names B Gs ⟨"_law_least", ["book", "least", "turn", "rule", "steps", "slot"], 1, b__law_least⟩ :=
  def_ok (names := names) (B := B) (Gs := Gs) (N := ["book", "least", "turn", "rule", "steps", "slot"]) (ps := ["book"]) X G c 21 (st := top 27) rfl 21 rfl c__law_least ⟨rfl, rfl, rfl, by decide +kernel, rfl, by decide +kernel, by decide +kernel⟩ rfl fun _ _ _ _ _ _ us hl => match us, hl with | [_], _ => rfl
theorem c__law_build : (cSs 60 60 ⟨names, B, ["d", "book", "name", "most", "least", "spare", "rows", "waiting", "turn", "due", "open_rules", "number", "slots", "more", "k", "slot"], defScope (top 28), Gs⟩ (defBody (top 28))).map (·.val) = some b__law_build := by kernel_rfl
theorem d__law_build {K : Fg} {h : Heap} {mg : Str → Option Value} (X : K.In h) (G : h.Ns mainGlobals mg) (c : He.SaysD fa fn K) : DefOk K mg names B Gs ⟨"_law_build", ["d", "book", "name", "most", "least", "spare", "rows", "waiting", "turn", "due", "open_rules", "number", "slots", "more", "k", "slot"], 4, b__law_build⟩ :=
  def_ok (names := names) (B := B) (Gs := Gs) (N := ["d", "book", "name", "most", "least", "spare", "rows", "waiting", "turn", "due", "open_rules", "number", "slots", "more", "k", "slot"]) (ps := ["d", "book", "name", "most"]) X G c 22 (st := top 28) rfl 22 rfl c__law_build ⟨rfl, rfl, rfl, by decide +kernel, rfl, by decide +kernel, by decide +kernel⟩ rfl fun _ _ _ _ _ _ us hl => match us, hl with | [_, _, _, _], _ => rfl
theorem c__law_names_along : (cSs 60 60 ⟨names, B, ["book", "name", "build", "nodes", "below", "names", "place", "k", "node"], defScope (top 29), Gs⟩ (defBody (top 29))).map (·.val) = some b__law_names_along := by kernel_rfl
theorem d__law_names_along {K : Fg} {h : Heap} {mg : Str → Option Value} (X : K.In h) (G : h.Ns mainGlobals mg) (c : He.SaysD fa fn K) : DefOk K mg names B Gs ⟨"_law_names_along", ["book", "name", "build", "nodes", "below", "names", "place", "k", "node"], 3, b__law_names_along⟩ :=
  def_ok (names := names) (B := B) (Gs := Gs) (N := ["book", "name", "build", "nodes", "below", "names", "place", "k", "node"]) (ps := ["book", "name", "build"]) X G c 23 (st := top 29) rfl 23 rfl c__law_names_along ⟨rfl, rfl, rfl, by decide +kernel, rfl, by decide +kernel, by decide +kernel⟩ rfl fun _ _ _ _ _ _ us hl => match us, hl with | [_, _, _], _ => rfl
theorem c__law_reached : (cSs 60 60 ⟨names, B, ["book", "name", "found", "turn", "rule", "slot"], defScope (top 30), Gs⟩ (defBody (top 30))).map (·.val) = some b__law_reached := by kernel_rfl
theorem d__law_reached {K : Fg} {h : Heap} {mg : Str → Option Value} (X : K.In h) (G : h.Ns mainGlobals mg) (c : He.SaysD fa fn K) : DefOk K mg names B Gs ⟨"_law_reached", ["book", "name", "found", "turn", "rule", "slot"], 2, b__law_reached⟩ :=
  def_ok (names := names) (B := B) (Gs := Gs) (N := ["book", "name", "found", "turn", "rule", "slot"]) (ps := ["book", "name"]) X G c 24 (st := top 30) rfl 24 rfl c__law_reached ⟨rfl, rfl, rfl, by decide +kernel, rfl, by decide +kernel, by decide +kernel⟩ rfl fun _ _ _ _ _ _ us hl => match us, hl with | [_, _], _ => rfl
theorem c__law_ids : (cSs 60 60 ⟨names, B, ["d", "many", "signs", "found", "k", "tail"], defScope (top 31), Gs⟩ (defBody (top 31))).map (·.val) = some b__law_ids := by kernel_rfl
theorem d__law_ids {K : Fg} {h : Heap} {mg : Str → Option Value} (X : K.In h) (G : h.Ns mainGlobals mg) (c : He.SaysD fa fn K) : DefOk K mg names B Gs ⟨"_law_ids", ["d", "many", "signs", "found", "k", "tail"], 2, b__law_ids⟩ :=
  def_ok (names := names) (B := B) (Gs := Gs) (N := ["d", "many", "signs", "found", "k", "tail"]) (ps := ["d", "many"]) X G c 25 (st := top 31) rfl 25 rfl c__law_ids ⟨rfl, rfl, rfl, by decide +kernel, rfl, by decide +kernel, by decide +kernel⟩ rfl fun _ _ _ _ _ _ us hl => match us, hl with | [_, _], _ => rfl
theorem c__law_wild : (cSs 60 60 ⟨names, B, ["d", "names", "pairs", "rules", "k", "pair", "used", "name", "j"], defScope (top 32), Gs⟩ (defBody (top 32))).map (·.val) = some b__law_wild := by kernel_rfl
theorem d__law_wild {K : Fg} {h : Heap} {mg : Str → Option Value} (X : K.In h) (G : h.Ns mainGlobals mg) (c : He.SaysD fa fn K) : DefOk K mg names B Gs ⟨"_law_wild", ["d", "names", "pairs", "rules", "k", "pair", "used", "name", "j"], 2, b__law_wild⟩ :=
  def_ok (names := names) (B := B) (Gs := Gs) (N := ["d", "names", "pairs", "rules", "k", "pair", "used", "name", "j"]) (ps := ["d", "names"]) X G c 26 (st := top 32) rfl 26 rfl c__law_wild ⟨rfl, rfl, rfl, by decide +kernel, rfl, by decide +kernel, by decide +kernel⟩ rfl fun _ _ _ _ _ _ us hl => match us, hl with | [_, _], _ => rfl
theorem c__law_ladder : (cSs 60 60 ⟨names, B, ["d", "names", "pairs", "slots", "rules", "k", "used", "name", "j"], defScope (top 33), Gs⟩ (defBody (top 33))).map (·.val) = some b__law_ladder := by kernel_rfl
theorem d__law_ladder {K : Fg} {h : Heap} {mg : Str → Option Value} (X : K.In h) (G : h.Ns mainGlobals mg) (c : He.SaysD fa fn K) : DefOk K mg names B Gs ⟨"_law_ladder", ["d", "names", "pairs", "slots", "rules", "k", "used", "name", "j"], 2, b__law_ladder⟩ :=
  def_ok (names := names) (B := B) (Gs := Gs) (N := ["d", "names", "pairs", "slots", "rules", "k", "used", "name", "j"]) (ps := ["d", "names"]) X G c 27 (st := top 33) rfl 27 rfl c__law_ladder ⟨rfl, rfl, rfl, by decide +kernel, rfl, by decide +kernel, by decide +kernel⟩ rfl fun _ _ _ _ _ _ us hl => match us, hl with | [_, _], _ => rfl
theorem c__law_ruled : (cSs 60 60 ⟨names, B, ["d", "sizes", "pairs", "rules", "ended", "one", "rule", "k"], defScope (top 34), Gs⟩ (defBody (top 34))).map (·.val) = some b__law_ruled := by kernel_rfl
theorem d__law_ruled {K : Fg} {h : Heap} {mg : Str → Option Value} (X : K.In h) (G : h.Ns mainGlobals mg) (c : He.SaysD fa fn K) : DefOk K mg names B Gs ⟨"_law_ruled", ["d", "sizes", "pairs", "rules", "ended", "one", "rule", "k"], 2, b__law_ruled⟩ :=
  def_ok (names := names) (B := B) (Gs := Gs) (N := ["d", "sizes", "pairs", "rules", "ended", "one", "rule", "k"]) (ps := ["d", "sizes"]) X G c 28 (st := top 34) rfl 28 rfl c__law_ruled ⟨rfl, rfl, rfl, by decide +kernel, rfl, by decide +kernel, by decide +kernel⟩ rfl fun _ _ _ _ _ _ us hl => match us, hl with | [_, _], _ => rfl
theorem c__law_same : (cSs 60 60 ⟨names, B, ["told", "due"], defScope (top 35), Gs⟩ (defBody (top 35))).map (·.val) = some b__law_same := by kernel_rfl
theorem d__law_same {K : Fg} {h : Heap} {mg : Str → Option Value} (X : K.In h) (G : h.Ns mainGlobals mg) (c : He.SaysD fa fn K) : DefOk K mg names B Gs ⟨"_law_same", ["told", "due"], 2, b__law_same⟩ :=
  def_ok (names := names) (B := B) (Gs := Gs) (N := ["told", "due"]) (ps := ["told", "due"]) X G c 29 (st := top 35) rfl 29 rfl c__law_same ⟨rfl, rfl, rfl, by decide +kernel, rfl, by decide +kernel, by decide +kernel⟩ rfl fun _ _ _ _ _ _ us hl => match us, hl with | [_, _], _ => rfl
theorem c__law_used : (cSs 60 60 ⟨names, B, ["book", "least", "numbers", "part", "names", "k", "slot"], defScope (top 36), Gs⟩ (defBody (top 36))).map (·.val) = some b__law_used := by kernel_rfl
theorem d__law_used {K : Fg} {h : Heap} {mg : Str → Option Value} (X : K.In h) (G : h.Ns mainGlobals mg) (c : He.SaysD fa fn K) : DefOk K mg names B Gs ⟨"_law_used", ["book", "least", "numbers", "part", "names", "k", "slot"], 2, b__law_used⟩ :=
  def_ok (names := names) (B := B) (Gs := Gs) (N := ["book", "least", "numbers", "part", "names", "k", "slot"]) (ps := ["book", "least"]) X G c 30 (st := top 36) rfl 30 rfl c__law_used ⟨rfl, rfl, rfl, by decide +kernel, rfl, by decide +kernel, by decide +kernel⟩ rfl fun _ _ _ _ _ _ us hl => match us, hl with | [_, _], _ => rfl
theorem c__law_due : (cSs 60 60 ⟨names, B, ["book", "least", "names", "numbers"], defScope (top 37), Gs⟩ (defBody (top 37))).map (·.val) = some b__law_due := by kernel_rfl
theorem d__law_due {K : Fg} {h : Heap} {mg : Str → Option Value} (X : K.In h) (G : h.Ns mainGlobals mg) (c : He.SaysD fa fn K) : DefOk K mg names B Gs ⟨"_law_due", ["book", "least", "names", "numbers"], 2, b__law_due⟩ :=
  def_ok (names := names) (B := B) (Gs := Gs) (N := ["book", "least", "names", "numbers"]) (ps := ["book", "least"]) X G c 31 (st := top 37) rfl 31 rfl c__law_due ⟨rfl, rfl, rfl, by decide +kernel, rfl, by decide +kernel, by decide +kernel⟩ rfl fun _ _ _ _ _ _ us hl => match us, hl with | [_, _], _ => rfl
theorem c__law_told : (cSs 60 60 ⟨names, B, ["book"], defScope (top 38), Gs⟩ (defBody (top 38))).map (·.val) = some b__law_told := by kernel_rfl
theorem d__law_told {K : Fg} {h : Heap} {mg : Str → Option Value} (X : K.In h) (G : h.Ns mainGlobals mg) (c : He.SaysD fa fn K) : DefOk K mg names B Gs ⟨"_law_told", ["book"], 1, b__law_told⟩ :=
  def_ok (names := names) (B := B) (Gs := Gs) (N := ["book"]) (ps := ["book"]) X G c 32 (st := top 38) rfl 32 rfl c__law_told ⟨rfl, rfl, rfl, by decide +kernel, rfl, by decide +kernel, by decide +kernel⟩ rfl fun _ _ _ _ _ _ us hl => match us, hl with | [_], _ => rfl
theorem c__law_is_seen : (cSs 60 60 ⟨names, B, ["d", "book", "name", "steps", "told", "build", "along", "node", "one"], defScope (top 39), Gs⟩ (defBody (top 39))).map (·.val) = some b__law_is_seen := by kernel_rfl
theorem d__law_is_seen {K : Fg} {h : Heap} {mg : Str → Option Value} (X : K.In h) (G : h.Ns mainGlobals mg) (c : He.SaysD fa fn K) : DefOk K mg names B Gs ⟨"_law_is_seen", ["d", "book", "name", "steps", "told", "build", "along", "node", "one"], 5, b__law_is_seen⟩ :=
  def_ok (names := names) (B := B) (Gs := Gs) (N := ["d", "book", "name", "steps", "told", "build", "along", "node", "one"]) (ps := ["d", "book", "name", "steps", "told"]) X G c 33 (st := top 39) rfl 33 rfl c__law_is_seen ⟨rfl, rfl, rfl, by decide +kernel, rfl, by decide +kernel, by decide +kernel⟩ rfl fun _ _ _ _ _ _ us hl => match us, hl with | [_, _, _, _, _], _ => rfl
theorem c_law : (cSs 60 60 ⟨names, B, ["script", "d", "book", "least", "told", "name", "gone", "other"], defScope (top 40), Gs⟩ (defBody (top 40))).map (·.val) = some b_law := by kernel_rfl
theorem d_law {K : Fg} {h : Heap} {mg : Str → Option Value} (X : K.In h) (G : h.Ns mainGlobals mg) (c : He.SaysD fa fn K) : DefOk K mg names B Gs ⟨"law", ["script", "d", "book", "least", "told", "name", "gone", "other"], 1, b_law⟩ :=
  def_ok (names := names) (B := B) (Gs := Gs) (N := ["script", "d", "book", "least", "told", "name", "gone", "other"]) (ps := ["script"]) X G c 34 (st := top 40) rfl 34 rfl c_law ⟨rfl, rfl, rfl, by decide +kernel, rfl, by decide +kernel, by decide +kernel⟩ rfl fun _ _ _ _ _ _ us hl => match us, hl with | [_], _ => rfl
theorem defs {K : Fg} {h : Heap} {mg : Str → Option Value} (X : K.In h) (G : h.Ns mainGlobals mg) (c : He.SaysD fa fn K) : ∀ f ∈ T, DefOk K mg names B Gs f := by
  intro f hf
  simp only [T, List.mem_append, List.mem_cons, List.not_mem_nil, or_false, or_assoc] at hf
  rcases hf with rfl | rfl | rfl | rfl | rfl | rfl | rfl | rfl | rfl | rfl | rfl | rfl | rfl | rfl | rfl | rfl | rfl | rfl | rfl | rfl | rfl | rfl | rfl | rfl | rfl | rfl | rfl | rfl | rfl | rfl | rfl | rfl | rfl | rfl | rfl
  · exact d_arity_in X G c
  · exact d_arity_of X G c
  · exact d_reached_from X G c
  · exact d_growing_names X G c
  · exact d_growing_rules X G c
  · exact d_growing_part X G c
  · exact d_useful_names X G c
  · exact d_useful_rules X G c
  · exact d__law_begin X G c
  · exact d__law_draw X G c
  · exact d__law_pick X G c
  · exact d__law_rare X G c
  · exact d__law_shuffled X G c
  · exact d__law_some X G c
  · exact d__law_ties X G c
  · exact d__law_marks X G c
  · exact d__law_rule X G c
  · exact d__law_rules X G c
  · exact d__law_parts X G c
  · exact d__law_flat X G c
  · exact d__law_joined X G c
  · exact d__law_least X G c
  · exact d__law_build X G c
  · exact d__law_names_along X G c
  · exact d__law_reached X G c
  · exact d__law_ids X G c
  · exact d__law_wild X G c
  · exact d__law_ladder X G c
  · exact d__law_ruled X G c
  · exact d__law_same X G c
  · exact d__law_used X G c
  · exact d__law_due X G c
  · exact d__law_told X G c
  · exact d__law_is_seen X G c
  · exact d_law X G c
theorem frees {K : Fg} {h : Heap} {mg : Str → Option Value} (X : K.In h) (G : h.Ns mainGlobals mg) (c : He.SaysD fa fn K) : ∀ x ∈ B, mg x = none := by
  intro x hx
  simp only [B, List.mem_cons, List.not_mem_nil, or_false] at hx
  rcases hx with rfl | rfl | rfl | rfl | rfl | rfl | rfl | rfl | rfl | rfl | rfl | rfl | rfl
  · exact He.free_ok X G (c.fact 35 (f := .free "len") rfl)
  · exact He.free_ok X G (c.fact 36 (f := .free "range") rfl)
  · exact He.free_ok X G (c.fact 37 (f := .free "tuple") rfl)
  · exact He.free_ok X G (c.fact 38 (f := .free "int") rfl)
  · exact He.free_ok X G (c.fact 39 (f := .free "sorted") rfl)
  · exact He.free_ok X G (c.fact 40 (f := .free "isinstance") rfl)
  · exact He.free_ok X G (c.fact 41 (f := .free "list") rfl)
  · exact He.free_ok X G (c.fact 42 (f := .free "sum") rfl)
  · exact He.free_ok X G (c.fact 43 (f := .free "max") rfl)
  · exact He.free_ok X G (c.fact 44 (f := .free "all") rfl)
  · exact He.free_ok X G (c.fact 45 (f := .free "str") rfl)
  · exact He.free_ok X G (c.fact 46 (f := .free "abs") rfl)
  · exact He.free_ok X G (c.fact 47 (f := .free "repr") rfl)
end K16
section
open PySem PySem.W PySem.Calls PyProof.Rows
set_option maxHeartbeats 0 in
theorem K16.fin (lt : ∀ ns : List Int, ns.length ≤ 63 → ∃ S, PQ.orc K16.T (20 + 1) K16.n_law [.fix (ns.map .int)] [] = .ok (.bl true) S) : PySem.Challenge.rw_everygrown_k16_growing_and_useful.Holds := by
  w_on; o_law
  refine HandSHeadRun.head_any (r := OpenLaw.row PySem.Challenge.rw_everygrown_k16_growing_and_useful) (q := view (OpenLaw.row PySem.Challenge.rw_everygrown_k16_growing_and_useful).prog [40]) (H := K16.hk) (ob := K16.ob) (M := 12000) (loose := K16.loose) (d := HandSHeadRun.topDef (OpenLaw.row PySem.Challenge.rw_everygrown_k16_growing_and_useful).prog 40) (kwd := []) K16.ob_eq
    (by kernel_rfl) (fun s => by kernel_rfl) K16.run (by kernel_rfl) (by kernel_rfl) (by kernel_rfl) (by rfl) (by first | assumption | decide +kernel) (by decide +kernel) ⟨rfl, rfl, rfl, rfl, rfl, by decide +kernel⟩ ?hw ?hc
  case hw => w_witness2
  case hc =>
    refine PQ.walk_G (l := PySem.Challenge.rw_everygrown_k16_growing_and_useful) (n := 63) (k := 211) (x := "script") rfl (by decide) (by kernel_rfl) ⟨rfl, by decide, by decide⟩ ?F
    intro w mg fa h Y G hmg0
    obtain ⟨K, KX, c, cg⟩ := Y
    have hmg : mg ("law" : PySem.Str) = some (.ref fa) := by
      have e : (HandSHeadRun.topDef (OpenLaw.row PySem.Challenge.rw_everygrown_k16_growing_and_useful).prog 40).name = ("law" : PySem.Str) := by kernel_rfl
      rw [← e]
      exact hmg0
    exact PQ.law_end (names := K16.names) (T := K16.T) (B := K16.B) (Gs := K16.Gs) (i := 34) (k := 20) KX rfl (K16.frees KX G c) (PQ.gB_ok KX G cg) (K16.defs KX G c) rfl rfl rfl hmg (by decide) (by decide) lt
end
section
open PySem PySem.Spec PyProof.Rows L2 PQ
namespace K16
local macro_rules
  | `(tactic| mul_fits) => `(tactic| (repeat (first
    | (with_reducible refine PQ.w_scons ?_)
    | ((with_reducible apply PQ.w_var); (focus (exact rfl)))
    | (with_reducible refine PQ.w_bin ?_)
    | (with_reducible refine PQ.w_call ?_)
    | (with_reducible refine PQ.w_cons ?_)
    | (with_reducible refine PQ.w_nil ?_)
    | (with_reducible refine PQ.w_lit ?_)
    | (with_reducible refine PQ.w_cmp ?_)
    | (with_reducible refine PQ.w_idx ?_)
    | (with_reducible refine PQ.w_set ?_)
    | (with_reducible refine PQ.w_ret ?_)
    | (with_reducible refine PQ.w_ite ?_)
    | (with_reducible refine PQ.w_tv ?_)
    | (with_reducible refine PQ.w_tnot ?_)
    | (with_reducible refine PQ.w_nx ?_)
    | (with_reducible refine PQ.w_rt ?_)
    | (with_reducible refine PQ.w_if_t ?_)
    | (with_reducible refine PQ.w_if_f ?_)
    | (with_reducible refine PQ.w_if_nt ?_)
    | (with_reducible refine PQ.w_if_nf ?_)
    | (with_reducible refine PQ.w_tru_b ?_)
    | (with_reducible refine PQ.w_tru_i ?_)
    | (with_reducible refine PQ.w_tru_t ?_)
    | (with_reducible refine PQ.w_ok ?_)
    | (with_reducible refine PQ.w_snil ?_)
    | (with_reducible refine PQ.w_ex ?_)
    | (with_reducible refine PQ.w_agg ?_)
    | (with_reducible refine PQ.w_fn1 ?_)
    | (with_reducible refine PQ.w_fn2 ?_)
    | (with_reducible refine PQ.w_tup ?_)
    | (with_reducible refine PQ.w_alloc ?_)
    | (with_reducible refine PQ.w_disp ?_)
    | (with_reducible refine PQ.w_e ?_)
    | (with_reducible refine PQ.w_q ?_)
    | (with_reducible refine PQ.w_ir ?_)
    | (with_reducible refine PQ.w_for ?_)
    | (with_reducible refine PQ.w_comp ?_)
    | (with_reducible refine PQ.w_compIf ?_)
    | (with_reducible refine PQ.w_and ?_)
    | (with_reducible refine PQ.w_or ?_)
    | (with_reducible refine PQ.w_not ?_)
    | (with_reducible refine PQ.w_ife ?_)
    | (with_reducible refine PQ.w_slc ?_)
    | (with_reducible refine PQ.w_oN ?_)
    | (with_reducible refine PQ.w_isi ?_)
    | (with_reducible refine PQ.w_app ?_)
    | (with_reducible refine PQ.w_ext ?_)
    | (with_reducible refine PQ.w_pop ?_)
    | (with_reducible refine PQ.w_popAt ?_)
    | (with_reducible refine PQ.w_join ?_)
    | (with_reducible refine PQ.w_tix ?_)
    | (with_reducible refine PQ.w_ins ?_)
    | (with_reducible refine PQ.v_tixT ?_)
    | (with_reducible refine PQ.w_isN ?_)
    | (with_reducible refine PQ.w_notN ?_)
    | (with_reducible refine PQ.w_inr ?_)
    | (with_reducible refine PQ.w_notInr ?_)
    | (with_reducible refine PQ.w_chn ?_)
    | (with_reducible refine PQ.w_tand ?_)
    | (with_reducible refine PQ.w_tor ?_)
    | (with_reducible refine PQ.w_cat ?_)
    | (with_reducible refine PQ.w_sorted ?_)
    | (with_reducible refine PQ.w_list ?_)
    | (with_reducible refine PQ.w_rev ?_)
    | (with_reducible refine PQ.w_setT ?_)
    | (with_reducible refine PQ.w_par ?_)
    | (with_reducible refine PQ.w_sub ?_)
    | (with_reducible refine PQ.w_bk ?_)
    | (with_reducible refine PQ.w_ct ?_)
    | (with_reducible refine PQ.w_brk ?_)
    | (with_reducible refine PQ.w_cont ?_)
    | (with_reducible refine PQ.w_pass ?_)
    | (with_reducible refine PQ.w_dnew ?_)
    | (with_reducible refine PQ.w_dget ?_)
    | (with_reducible refine PQ.v_add ?_)
    | (with_reducible refine PQ.v_addB ?_)
    | (with_reducible refine PQ.v_sub ?_)
    | (with_reducible refine PQ.v_band ?_)
    | (with_reducible refine PQ.v_bor ?_)
    | (with_reducible refine PQ.v_bxor ?_)
    | (with_reducible refine PQ.v_augAdd ?_)
    | (with_reducible refine PQ.v_augSub ?_)
    | (with_reducible refine PQ.v_lt ?_)
    | (with_reducible refine PQ.v_le ?_)
    | (with_reducible refine PQ.v_gt ?_)
    | (with_reducible refine PQ.v_ge ?_)
    | (with_reducible refine PQ.v_eq ?_)
    | (with_reducible refine PQ.v_ne ?_)
    | (with_reducible refine PQ.v_eqS ?_)
    | (with_reducible refine PQ.v_neS ?_)
    | (with_reducible refine PQ.v_eqB ?_)
    | (with_reducible refine PQ.v_intI ?_)
    | (with_reducible refine PQ.v_intB ?_)
    | (with_reducible refine PQ.v_abs ?_)
    | (with_reducible refine PQ.v_gcd ?_)
    | (with_reducible refine PQ.v_min2 ?_)
    | (with_reducible refine PQ.v_max2 ?_)
    | (with_reducible refine PQ.v_slcT ?_)
    | (with_reducible refine PQ.w_bind ?_)
    | (with_reducible refine PQ.r_nx ?_)
    | (with_reducible refine PQ.r_rt ?_)
    | (with_reducible refine PQ.g_self ?_)
    | ((with_reducible apply PQ.w_aug); (focus (exact rfl)))
    | (with_reducible refine PQ.w_neg ?_)
    | (with_reducible refine PQ.w_oS ?_)
    | (with_reducible refine PQ.w_listRg ?_)
    | (with_reducible refine PQ.w_rg ?_)
    | (with_reducible refine PQ.w_rgd ?_)
    | (with_reducible refine PQ.w_augS ?_)
    | ((with_reducible apply PQ.v_mul); (focus (first | assumption | exact .of_left (by decide +kernel) | exact .of_right (by decide +kernel))))
    | ((with_reducible apply PQ.v_fdiv); (focus (first | assumption | exact ⟨by omega, PyProof.noPylong_small (by omega)⟩)))
    | ((with_reducible apply PQ.v_mod); (focus (first | assumption | omega)))
    | ((with_reducible apply PQ.v_pow); (focus (first | assumption | (unfold CPow; decide +kernel) | (unfold CPow; omega))))
    | ((with_reducible apply PQ.v_shl); (focus (first | assumption | (unfold CPow; decide +kernel) | (unfold CPow; omega))))
    | ((with_reducible apply PQ.v_shr); (focus (first | assumption | omega)))
    | ((with_reducible apply PQ.v_idx); (focus (first | exact rfl | assumption)); (focus (first | exact rfl | assumption)))
    | ((with_reducible apply PQ.v_idxT); (focus (first | exact rfl | assumption)))
    | ((with_reducible apply PQ.v_idxF); (focus (first | exact rfl | assumption)))
    | ((with_reducible apply PQ.v_len); (focus (first | exact rfl | assumption)))
    | ((with_reducible apply PQ.v_tuple); (focus (first | exact rfl | assumption)))
    | ((with_reducible apply PQ.v_sum); (focus (first | exact rfl | assumption)); (focus (first | exact rfl | assumption)))
    | ((with_reducible apply PQ.v_all); (focus (first | exact rfl | assumption)); (focus (first | exact rfl | assumption)))
    | ((with_reducible apply PQ.v_any); (focus (first | exact rfl | assumption)); (focus (first | exact rfl | assumption)))
    | ((with_reducible apply PQ.v_slc); (focus (first | exact rfl | assumption)))
    | ((with_reducible apply PQ.v_set); (focus (first | exact rfl | assumption)); (focus (first | exact rfl | assumption)))
    | ((with_reducible apply PQ.v_lenS); (focus (refine Nat.le_trans (Nat.le_refl _) ?_; first | assumption | (refine PQ.le64 ?_; simp; done) | omega)))
    | ((with_reducible apply PQ.v_idxS); (focus (refine Nat.le_trans (Nat.le_refl _) ?_; first | assumption | (refine PQ.le64 ?_; simp; done) | omega)); (focus (first | exact rfl | assumption)))
    | ((with_reducible apply PQ.w_withL); (focus (first | exact rfl | assumption)))
    | ((with_reducible apply PQ.v_app); (focus (first | exact rfl | assumption)); (focus (first | assumption | exact Nat.lt_of_lt_of_le (Nat.lt_succ_self _) (Nat.le_of_ble_eq_true rfl) | omega)))
    | ((with_reducible apply PQ.v_addT); (focus (refine Nat.le_trans (Nat.le_refl _) ?_; first | assumption | (refine PQ.le64 ?_; simp; done) | omega)))
    | ((with_reducible apply PQ.v_addS); (focus (refine Nat.le_trans (Nat.le_refl _) ?_; first | assumption | (refine PQ.le64 ?_; simp; done) | omega)))
    | ((with_reducible apply PQ.v_addL); (focus (first | exact rfl | assumption)); (focus (first | exact rfl | assumption)); (focus (refine Nat.le_trans (Nat.le_refl _) ?_; first | assumption | (refine PQ.le64 ?_; simp; done) | omega)))
    | ((with_reducible apply PQ.w_tru_r); (focus (first | exact rfl | assumption)))
    | ((with_reducible apply PQ.w_if_T); (focus (exact rfl)))
    | ((with_reducible apply PQ.w_if_F); (focus (exact rfl)))
    | ((with_reducible apply PQ.w_may); (focus (exact rfl)))
    | ((with_reducible apply PQ.v_idxK); (focus (assumption)); (focus (exact rfl)); (focus (assumption)))
    | ((with_reducible apply PQ.v_setK); (focus (assumption)); (focus (exact rfl)); (focus (first | assumption | exact Nat.lt_of_lt_of_le (Nat.lt_succ_self _) (Nat.le_of_ble_eq_true rfl) | omega)))
    | ((with_reducible apply PQ.w_withD); (focus (assumption)))
    | ((with_reducible apply PQ.w_withR); (focus (assumption)))
    | ((with_reducible apply PQ.w_withRf); (focus (assumption)))
    | ((with_reducible apply PQ.v_dgetF); (focus (assumption)); (focus (exact rfl)))
    | ((with_reducible apply PQ.v_idxF_); (focus (assumption)); (focus (exact rfl)); (focus (assumption)))
    | ((with_reducible apply PQ.v_dget); (focus (assumption)); (focus (exact rfl)))
    | ((with_reducible apply PQ.v_lenD); (focus (assumption)))
    | ((with_reducible apply PQ.v_tixR); (focus (assumption)))
    | ((with_reducible apply PQ.w_mayI); (focus (assumption)))
    | ((with_reducible apply PQ.w_mayL); (focus (assumption)))
    | ((with_reducible apply PQ.w_mayV); (focus (assumption)))
    | ((with_reducible apply PQ.w_mayS); (focus (assumption)))
    | ((with_reducible apply PQ.w_mayT); (focus (assumption)))
    | ((with_reducible apply PQ.w_mayO); (focus (assumption)))
    | ((with_reducible apply PQ.v_lenR); (focus (assumption)))
    | ((with_reducible apply PQ.v_tupleR); (focus (assumption)))
    | ((with_reducible refine ⟨_, rfl, ?_⟩))
    | ((with_reducible apply PQ.w_augK); (focus (first | exact rfl | assumption)); (focus (first | exact rfl | assumption)))
    | ((with_reducible refine ⟨_, _, rfl, rfl, ?_, ?_⟩); (focus (first | assumption | (unfold bd62; omega) | (unfold RgOk; omega))))
    | ((with_reducible refine ⟨?_, ?_⟩); (focus (refine Nat.le_trans (Nat.le_refl _) ?_; first | assumption | (refine PQ.le64 ?_; simp; done) | omega))))))
def qD (q : Rat) : D := .tup [.int q.num, .int (q.den : Int)]
def QB (n : Nat) (q : Rat) : Prop := q.num.natAbs < 2 ^ n ∧ q.den < 2 ^ n
theorem QB.mono {m n : Nat} {q : Rat} (h : QB m q) (hm : m ≤ n) : QB n q := ⟨Nat.lt_of_lt_of_le h.1 (Nat.pow_le_pow_right (by decide) hm), Nat.lt_of_lt_of_le h.2 (Nat.pow_le_pow_right (by decide) hm)⟩
def gg (n d : Int) : Int := ((Nat.gcd n.natAbs d.natAbs : Nat) : Int)
section
variable {k : Nat} {S : Sto} {Q : D → Sto → Prop} {n d a b c e : Int}
end
section
variable {k : Nat} {S : Sto} {Q : D → Sto → Prop} {a b : Rat} {m n : Nat}
theorem den_ne (a : Rat) : ((a.den : Nat) : Int) ≠ 0 := by
  have := a.den_nz
  omega
theorem sub_eq : Rat.divInt (a.num * (b.den : Int) - b.num * (a.den : Int)) ((a.den : Int) * (b.den : Int)) = a - b := by
  rw [← Rat.divInt_sub_divInt _ _ (den_ne a) (den_ne b), Rat.num_divInt_den, Rat.num_divInt_den]
theorem mul_eq : Rat.divInt (a.num * b.num) ((a.den : Int) * (b.den : Int)) = a * b := by
  rw [← Rat.divInt_mul_divInt, Rat.num_divInt_den, Rat.num_divInt_den]
/-- the parts of a fraction in lowest terms are not greater than those it is made of -/
theorem divInt_bd {x y : Int} {n : Nat} (hy : y ≠ 0) (hx : x.natAbs < 2 ^ n) (hb : y.natAbs < 2 ^ n) : QB n (Rat.divInt x y) := by
  have hg : 0 < y.gcd x := Nat.gcd_pos_of_pos_left _ (by omega)
  refine ⟨?_, ?_⟩
  · rw [Rat.num_divInt]
    have h1 := Int.natAbs_ediv_le_natAbs (y.sign * x) ((y.gcd x : Nat) : Int)
    have h2 : (y.sign * x).natAbs = x.natAbs := by
      rw [Int.natAbs_mul, Int.natAbs_sign_of_ne_zero hy, Nat.one_mul]
    omega
  · rw [Rat.den_divInt, if_neg hy]
    have := Nat.div_le_self y.natAbs (y.gcd x)
    omega
theorem n2 {q : Rat} (h : QB m q) : ((q.den : Nat) : Int).natAbs < 2 ^ m := by
  rw [Int.natAbs_natCast]
  exact h.2
theorem QB.sub (ha : QB m a) (hb : QB n b) : QB (m + n + 1) (a - b) := by
  rw [← sub_eq]
  refine divInt_bd (Int.mul_ne_zero (den_ne a) (den_ne b)) ?_ (bd_mono (mul_bd (n2 ha) (n2 hb)) (by omega))
  exact sub_bd (mul_bd ha.1 (n2 hb)) (by rw [Nat.add_comm m n]; exact mul_bd hb.1 (n2 ha))
theorem QB.mul (ha : QB m a) (hb : QB n b) : QB (m + n) (a * b) := by
  rw [← mul_eq]
  exact divInt_bd (Int.mul_ne_zero (den_ne a) (den_ne b)) (mul_bd ha.1 hb.1) (mul_bd (n2 ha) (n2 hb))
theorem q1 : D.tup [.int 1, .int 1] = qD 1 := rfl
end
structure Pt where
  one : Nat
  other : Nat
  strand : Str
abbrev Pt.d (s : Pt) : D := .tup [.int (s.one : Nat), .int (s.other : Nat), .str s.strand]
def Pt.p (s : Pt) : PyData := .tuple [.int (s.one : Nat), .int (s.other : Nat), .str s.strand]
theorem sort_congr2 {β : Type} {k : β → PyData} (inj : ∀ a b, PySem.W.keyToks (k a) = PySem.W.keyToks (k b) → a = b) {l m : List β} (h : l.Perm m) : l.mergeSort (PySem.W.dataLe false k) = m.mergeSort (PySem.W.dataLe false k) := by
  have tl : PySem.W.TotalLe (PySem.W.dataLe false k) := PySem.W.sortLe_total _ false _
  refine List.Perm.eq_of_pairwise (le := fun a b => PySem.W.dataLe false k a b = true) (fun a b _ _ h1 h2 => inj _ _ ?_) (PySem.W.sort_pairwise tl l) (PySem.W.sort_pairwise tl m) ((List.mergeSort_perm l _).trans (h.trans (List.mergeSort_perm m _).symm))
  rw [PySem.W.dataLe_eq] at h1 h2
  have h1 : (!PySem.W.dataLt (k b) (k a)) = true := h1
  have h2 : (!PySem.W.dataLt (k a) (k b)) = true := h2
  have q1 : PySem.W.dataLt (k b) (k a) = false := by simpa using h1
  have q2 : PySem.W.dataLt (k a) (k b) = false := by simpa using h2
  exact (PyProof.Rows.listOrd PyProof.Rows.itemOrd).total _ _ q2 q1
theorem pt_inj (a b : Pt) (h : PySem.W.keyToks a.p = PySem.W.keyToks b.p) : a = b := by
  simp [Pt.p, PySem.W.keyToks, PySem.W.keyToksAll] at h
  obtain ⟨h1, h2, h3⟩ := h
  cases a
  cases b
  simp at h1 h2 h3 ⊢
  exact ⟨by omega, by omega, PySem.W.str_of_cps (by rw [h3])⟩
def srt (l : List Pt) : List Pt := l.mergeSort (PySem.W.dataLe false Pt.p)
theorem srt_perm (l : List Pt) : (srt l).Perm l := List.mergeSort_perm _ _
theorem srt_congr {l m : List Pt} (h : l.Perm m) : srt l = srt m := sort_congr2 pt_inj h

def stS (cs : List Nat) : Str := ⟨cs.toArray⟩
def singD (c : Nat) : D := .str ⟨#[c]⟩
theorem st_length (cs : List Nat) : (stS cs).length = cs.length := by
  show cs.toArray.size = _
  simp
theorem st_append (a b : List Nat) : stS a ++ stS b = stS (a ++ b) := by
  show (⟨a.toArray ++ b.toArray⟩ : Str) = ⟨(a ++ b).toArray⟩
  simp

theorem strs_sing (l : List Nat) : strsOf (l.map singD) = some (l.map fun c => (⟨#[c]⟩ : Str)) := by
  induction l with
  | nil => rfl
  | cons x xs ih =>
    rw [List.map_cons, List.map_cons]
    show (strsOf _).map _ = _
    rw [ih]
    rfl
theorem glued_sing (cs : List Nat) : Txt.join "" (cs.map fun c => (⟨#[c]⟩ : Str)) = stS cs := by
  have key : ∀ cs : List Nat, Str.join "" (cs.map fun c => (⟨#[c]⟩ : Str)) = stS cs := by
    intro cs
    induction cs with
    | nil => rfl
    | cons x cs ih =>
      cases cs with
      | nil => rfl
      | cons y cs =>
        show (⟨#[x]⟩ : Str) ++ "" ++ Str.join "" ((y :: cs).map fun c => (⟨#[c]⟩ : Str)) = _
        rw [ih]
        show (⟨#[x] ++ #[] ++ (y :: cs).toArray⟩ : Str) = ⟨(x :: y :: cs).toArray⟩
        simp
  rw [← key]
  exact PySem.StrLaws.glued_eq_join _ _
theorem sum_ones (l : List Nat) : ((l.map fun c => (⟨#[c]⟩ : Str)).map (·.length)).sum = l.length := by
  induction l with
  | nil => rfl
  | cons x l ih =>
    rw [List.map_cons, List.map_cons, List.sum_cons, ih, List.length_cons]
    show 1 + _ = _
    omega
theorem toPs_pts (f : Nat → Option PyData) (l : List Pt) : toPsW f (l.map Pt.d) = some (l.map Pt.p) := by
  induction l with
  | nil => rfl
  | cons x l ih => simp [toPsW, toPW, ih, Pt.p]
theorem sort_pts {S : Sto} {l : List Pt} {Q : List D → Sto → Prop} (h : Q ((srt l).map Pt.d) S) : W (sortD S (l.map Pt.d)) Q := by
  have e : toPs S (l.map Pt.d) = some (l.map Pt.p) := toPs_pts _ _
  unfold sortD
  rw [e]
  have es : (l.map Pt.d).mergeSort (PySem.W.dataLe false fun d => (toP S d).getD .none) = (srt l).map Pt.d := by
    refine (PySem.W.sort_maps Pt.d fun a _ b _ => ?_).symm
    have ep : ∀ p : Pt, (toP S p.d).getD .none = p.p := fun p => by
      have : toP S p.d = some p.p := by simp [toP, toPW, toPsW, Pt.p]
      rw [this]
      rfl
    rw [PySem.W.dataLe_eq, PySem.W.dataLe_eq]
    simp only [ep]
  rw [es]
  refine w_ask ⟨fun a ha b hb => ?_, .inl fun a ha => ?_, fun a ha => ?_⟩ (w_ok h)
  · obtain ⟨x, _, rfl⟩ := List.mem_map.mp ha
    obtain ⟨y, _, rfl⟩ := List.mem_map.mp hb
    simp [PySem.W.alike, PySem.W.alikeAll, Pt.p]
  · obtain ⟨x, _, rfl⟩ := List.mem_map.mp ha
    exact ⟨_, _, rfl⟩
  · obtain ⟨x, _, rfl⟩ := List.mem_map.mp ha
    simp [PyData.depth, PyData.depthAll, Pt.p]
theorem below_pts (l : List Pt) {n : Nat} : below n (.tup (l.map Pt.d)) := by
  show belows n _
  refine belows_iff.mpr fun x hx => ?_
  obtain ⟨p, _, rfl⟩ := List.mem_map.mp hx
  simp [below, belows]

theorem rgD_0 (j : Nat) : rgD 0 (j : Int) = (List.range' 0 j).map natD := by
  rw [rgD0, ← List.range_eq_range']
theorem rg'_cons {c m : Nat} : List.range' c (m + 1) = c :: List.range' (c + 1) m := rfl

/-- a letter from a to z -/
def Az (c : Nat) : Prop := 97 ≤ c ∧ c ≤ 122
instance (c : Nat) : Decidable (Az c) := inferInstanceAs (Decidable (_ ∧ _))
theorem Az.lt {c : Nat} (h : Az c) : c < 1114112 := Nat.lt_of_le_of_lt h.2 (by decide)
def Lt (x : D) : Prop := ∃ c : Nat, Az c ∧ x = singD c
section
variable {k : Nat} {R : Sto} {Q : D → Sto → Prop} {d : DS} {m : Int}
theorem draw_ (h1 : 0 < m) (h2 : m < 1073741824) (h : ∀ (y : Int) (d' : DS), 0 ≤ y → y < m → Q (.int y) (d'.st R)) : W (orc T (k + 1) n__law_draw [.ref 1, .int m] (d.st R)) Q := draw_w rfl h1 h2 h
theorem rare_w (h1 : 0 < m) (h2 : m < 1000) (h : ∀ (c : Bool) (d' : DS), Q (.bl c) (d'.st R)) : W (orc T (k + 2) n__law_rare [.ref 1, .int m] (d.st R)) Q := by
  refine orc_w (ρ := [some (.ref 1), some (.int m)]) rfl rfl rfl ?_
  show W (evSs _ b__law_rare _ _) _
  simp only [b__law_rare]
  mul_fits
  refine draw_ h1 (by omega) fun y d1 y0 y1 => ?_
  mul_fits
  rw [gc_same (by rfl)]
  exact w_ok (h _ _)
theorem pick_w {b : Nat} {row : List D} (h0 : 0 < row.length) (hl : row.length < 1000) (hb : R[b]? = some (.lst row)) (h : ∀ x ∈ row, ∀ d' : DS, Q x (d'.st R)) : W (orc T (k + 2) n__law_pick [.ref 1, .ref (b + 2)] (d.st R)) Q := by
  refine orc_w (ρ := [some (.ref 1), some (.ref (b + 2))]) rfl rfl rfl ?_
  show W (evSs _ b__law_pick _ _) _
  simp only [b__law_pick]
  have hq : ∀ d : DS, (d.st R)[b + 2]? = some (.lst row) := fun d => hb
  have g1 : sqOf (d.st R) (.val (.ref (b + 2))) = some row := by simp only [sqOf, lsOf, hq]
  mul_fits
  refine draw_ (by omega) (by omega) fun y d1 y0 y1 => ?_
  have hy : y.toNat < row.length := by omega
  have k1 : atI row y = some (row[y.toNat]) := by
    unfold atI ixN
    rw [if_pos y0, if_pos y1]
    simp [hy]
  refine v_idx (hq d1) k1 ?_
  mul_fits
  rw [gc_same (by rfl)]
  mul_fits
  exact h _ (List.getElem_mem hy) _
theorem st_mid {o : Ob} {g : Sto} : (d.st (R ++ [o] ++ g))[R.length + 2]? = some o := by rw [st_get]; exact get_mid R g o
theorem st_set_mid {o p : Ob} {g : Sto} : (d.st (R ++ [o] ++ g)).set (R.length + 2) p = d.st (R ++ [p] ++ g) := by
  show DS.st d _ = _
  unfold DS.st
  have := set_mid R g o p
  simp only [List.set_cons_succ, this]
theorem st_set (d : DS) {R : Sto} {i : Nat} {p : Ob} : (d.st R).set (i + 2) p = d.st (R.set i p) := by
  unfold DS.st
  simp only [List.set_cons_succ]
theorem erase_perm : ∀ (l : List D) (i : Nat) (h : i < l.length), (l[i] :: l.eraseIdx i).Perm l
  | a :: l, 0, _ => .refl _
  | a :: l, i + 1, h => by
    have h' : i < l.length := by simpa using h
    exact (List.Perm.swap a l[i] _).trans ((erase_perm l i h').cons a)
theorem shuffled_w {b : Nat} {row : List D} (hl : row.length < 1000) (hb : R[b]? = some (.lst row)) (h : ∀ (got : List D) (g : Sto) (d' : DS), got.Perm row → Q (.ref (R.length + g.length + 2)) (d'.st (R ++ (g ++ [.lst got])))) : W (orc T (k + 2) n__law_shuffled [.ref 1, .ref (b + 2)] (d.st R)) Q := by
  refine orc_w (ρ := [some (.ref 1), some (.ref (b + 2)), none, none, none]) rfl rfl rfl ?_
  show W (evSs _ b__law_shuffled _ _) _
  simp only [b__law_shuffled]
  have hq : (d.st R)[b + 2]? = some (.lst row) := hb
  have g1 : lstOf (d.st R) (.val (.ref (b + 2))) = some row := by simp only [lstOf, sqOf, lsOf, hq]
  mul_fits
  try (refine w_may g1 ?_)
  mul_fits
  simp only [st_len, st_app]
  have hr1 : (d.st (R ++ [.lst row] ++ [.lst []]))[R.length + 2]? = some (.lst row) := st_mid
  have g2 : sqOf (d.st (R ++ [.lst row] ++ [.lst []])) (.val (.ref (R.length + 2))) = some row := by simp only [sqOf, lsOf, hr1]
  mul_fits
  rw [rgD0]
  refine loopS_w (fun ds ρ S' => ∃ (ks : List Nat) (left got : List D) (o4 : Option D) (d' : DS), ds = ks.map natD ∧ S' = d'.st (R ++ [.lst left] ++ [.lst got]) ∧ ρ = [some (.ref 1), some (.ref (b + 2)), some (.ref (R.length + 2)), some (.ref ((R ++ [Ob.lst row]).length + 2)), o4] ∧ left.length = ks.length ∧ (got ++ left).Perm row) ?_ ?_ _ _ _ ⟨List.range row.length, row, [], _, d, rfl, rfl, rfl, by simp, .refl _⟩
  · rintro e ds ρ S' ⟨ks, left, got, o4, d', hds, rfl, rfl, h1, h2⟩
    refine ⟨trivial, ?_⟩
    cases ks with
    | nil => exact absurd hds (by simp)
    | cons q ks =>
    rw [List.map_cons, List.cons.injEq] at hds
    obtain ⟨rfl, rfl⟩ := hds
    rw [List.length_cons] at h1
    have hgl : got.length + left.length = row.length := by rw [← List.length_append]; exact h2.length_eq
    simp only [b__law_shuffled_1]
    have k1 : ∀ d : DS, (d.st (R ++ [.lst left] ++ [.lst got]))[R.length + 2]? = some (.lst left) := fun d => st_mid
    have k2 : ∀ (d : DS) l, (d.st (R ++ [.lst l] ++ [.lst got]))[(R ++ [Ob.lst row]).length + 2]? = some (.lst got) := fun d l => by rw [st_get]; simp
    have g3 : sqOf (d'.st (R ++ [.lst left] ++ [.lst got])) (.val (.ref (R.length + 2))) = some left := by simp only [sqOf, lsOf, k1]
    mul_fits
    refine w_withL (k2 _ _) ?_
    mul_fits
    refine w_withL (k1 _) ?_
    mul_fits
    refine draw_ (m := (left.length : Int)) (by omega) (by omega) fun y d1 y0 y1 => ?_
    have hy : y.toNat < left.length := by omega
    have yb : -(2 ^ 63) ≤ y ∧ y < 2 ^ 63 := by constructor <;> omega
    refine v_popAt (k := y.toNat) (d := left[y.toNat]) (k1 d1) yb ?_ (by simp [hy]) ?_
    · have e0 : ¬ y < 0 := by omega
      show (if 0 ≤ (if y < 0 then y + (left.length : Int) else y) && decide ((if y < 0 then y + (left.length : Int) else y) < (left.length : Int)) then some (if y < 0 then y + (left.length : Int) else y).toNat else none) = some y.toNat
      rw [if_neg e0]
      simp [y0, y1]
    rw [st_set_mid]
    refine v_app (k2 _ _) (le_size (by omega)) ?_
    have se : (d1.st (R ++ [.lst (left.eraseIdx y.toNat)] ++ [.lst got])).set ((R ++ [Ob.lst row]).length + 2) (.lst (got ++ [left[y.toNat]])) = d1.st (R ++ [.lst (left.eraseIdx y.toNat)] ++ [.lst (got ++ [left[y.toNat]])]) := by
      rw [st_set]
      have := set_end (R ++ [Ob.lst (left.eraseIdx y.toNat)]) (.lst got) (.lst (got ++ [left[y.toNat]]))
      have e2 : (R ++ [Ob.lst row]).length = (R ++ [Ob.lst (left.eraseIdx y.toNat)]).length := by simp
      rw [e2, this]
    rw [se]
    mul_fits
    refine ⟨_, .inl rfl, ks, left.eraseIdx y.toNat, got ++ [left[y.toNat]], _, d1, rfl, rfl, rfl, ?_, ?_⟩
    · rw [List.length_eraseIdx, if_pos hy]
      omega
    · rw [List.append_assoc]
      refine List.Perm.trans ?_ h2
      refine List.Perm.append_left _ ?_
      exact erase_perm _ _ hy
  · rintro ρ S' ⟨ks, left, got, o4, d', hds, rfl, rfl, h1, h2⟩
    refine ⟨trivial, ?_⟩
    cases ks with
    | cons q ks => exact absurd hds (by simp)
    | nil =>
    have hl0 : left = [] := List.eq_nil_of_length_eq_zero h1
    subst hl0
    rw [List.append_nil] at h2
    mul_fits
    simp only [b__law_shuffled_2]
    mul_fits
    rw [gc_out (by simp [below, st_len])]
    have := h got [.lst []] d' h2
    rw [List.append_assoc, show (R ++ [Ob.lst row]).length + 2 = R.length + [Ob.lst ([] : List D)].length + 2 by simp]
    exact w_ok this
theorem cut_take {l : List D} {m : Nat} : PQ.cutD l none (some (m : Int)) = l.take m := by
  unfold PQ.cutD
  simp only [HT.sIx]
  rw [if_neg (by omega), List.drop_zero, Int.toNat_natCast, Nat.sub_zero]
  by_cases h : m ≤ l.length
  · rw [Nat.min_eq_left h]
  · rw [Nat.min_eq_right (by omega), List.take_length, List.take_of_length_le (by omega)]
theorem some_w {b m : Nat} {row : List D} (hl : row.length < 1000) (hb : R[b]? = some (.lst row)) (h : ∀ (full : List D) (g : Sto) (d' : DS), full.Perm row → Q (.ref (R.length + g.length + 2)) (d'.st (R ++ (g ++ [.lst (full.take m)])))) : W (orc T (k + 3) n__law_some [.ref 1, .ref (b + 2), .int (m : Int)] (d.st R)) Q := by
  refine orc_w (ρ := [some (.ref 1), some (.ref (b + 2)), some (.int (m : Int))]) rfl rfl rfl ?_
  show W (evSs _ b__law_some _ _) _
  simp only [b__law_some]
  mul_fits
  refine shuffled_w hl hb fun got g d' h1 => ?_
  have k1 : (d'.st (R ++ (g ++ [.lst got])))[R.length + g.length + 2]? = some (.lst got) := by
    rw [st_get, ← List.append_assoc, show R.length + g.length = (R ++ g).length by simp]
    exact get_end _ _
  mul_fits
  rw [cut_take, st_len, st_app, gc_out (by simp [below, st_len])]
  have := h got (g ++ [.lst got]) d' h1
  refine w_ok ?_
  have e1 : R ++ (g ++ [Ob.lst got]) ++ [Ob.lst (got.take m)] = R ++ (g ++ [Ob.lst got] ++ [Ob.lst (got.take m)]) := by simp
  have e2 : (R ++ (g ++ [Ob.lst got])).length + 2 = R.length + (g ++ [Ob.lst got]).length + 2 := by simp
  rw [e1, e2]
  exact this

theorem pickT_w {row : List D} (h0 : 0 < row.length) (hl : row.length < 1000) (hp : ∀ x ∈ row, below 0 x) (h : ∀ x ∈ row, ∀ d' : DS, Q x (d'.st R)) : W (orc T (k + 2) n__law_pick [.ref 1, .tup row] (d.st R)) Q := by
  refine orc_w (ρ := [some (.ref 1), some (.tup row)]) rfl rfl rfl ?_
  show W (evSs _ b__law_pick _ _) _
  simp only [b__law_pick]
  mul_fits
  refine draw_ (by omega) (by omega) fun y d1 y0 y1 => ?_
  have hy : y.toNat < row.length := by omega
  have k1 : atI row y = some (row[y.toNat]) := by
    unfold atI ixN
    rw [if_pos y0, if_pos y1]
    simp [hy]
  refine v_idxT k1 ?_
  mul_fits
  rw [gc_same (by rfl)]
  mul_fits
  exact h _ (List.getElem_mem hy) _

theorem gc_st2 {d d' : DS} {R g : Sto} {e : D} {Q : D → Sto → Prop} (hb : below (R.length + 2) e) (h : Q e (d'.st R)) : W (gc (d.st R) e (d'.st (R ++ g))) Q := by
  unfold gc
  have sf : Safe (d.st R) e (d'.st (R ++ g)) := by
    refine ⟨hb, by simp [st_len], fun i o hi e2 => ?_⟩
    match i, hi, e2 with
    | 0, _, e2 =>
      right
      have : Ob.lst (d'.cells.map .int) = o := by simpa [DS.st] using e2
      subst this
      refine belows_iff.mpr fun x hx => ?_
      obtain ⟨q, _, rfl⟩ := List.mem_map.mp hx
      trivial
    | 1, _, e2 =>
      right
      have : Ob.lst [.ref 0, .int d'.p, .int d'.r, .int d'.s] = o := by simpa [DS.st] using e2
      subst this
      refine belows_iff.mpr fun x hx => ?_
      simp at hx
      rcases hx with rfl | rfl | rfl | rfl
      · show 0 < _
        simp [st_len]
      · trivial
      · trivial
      · trivial
    | i + 2, hi, e2 =>
      left
      rw [st_get] at e2 ⊢
      rw [st_len] at hi
      rwa [List.getElem?_append_left (by omega)] at e2
  rw [if_pos sf, W_ok]
  have : (d'.st (R ++ g)).take (d.st R).length = d'.st R := by
    show List.take (R.length + 2) (_ :: _ :: (R ++ g)) = _
    rw [List.take_succ_cons, List.take_succ_cons, List.take_left' rfl]
    rfl
  rw [this]
  exact h

end
section
variable {k : Nat} {R : Sto} {Q : D → Sto → Prop} {d : DS} {m : Int}
theorem toPs_ints (f : Nat → Option PyData) (l : List Int) : toPsW f (l.map D.int) = some (l.map .int) := by
  induction l with
  | nil => rfl
  | cons x l ih => simp [toPsW, toPW, ih]
theorem sort_intsP {S : Sto} {l : List Int} {Q : List D → Sto → Prop} (h : ∀ l' : List Int, l'.Perm l → l'.Pairwise (· ≤ ·) → Q (l'.map D.int) S) : W (sortD S (l.map D.int)) Q := by
  have e : toPs S (l.map D.int) = some (l.map .int) := toPs_ints _ _
  have em : (l.map D.int).mergeSort (PySem.W.dataLe false fun d => (toP S d).getD .none) = (l.mergeSort (PySem.W.dataLe false PyData.int)).map D.int :=
    (List.map_mergeSort (r := PySem.W.dataLe false PyData.int) (s := PySem.W.dataLe false fun d : D => (toP S d).getD .none) (f := D.int) (l := l) (fun a _ b _ => rfl)).symm
  unfold sortD
  rw [e]
  refine w_ask ⟨fun a ha b hb => ?_, .inr fun a ha => ?_, fun a ha => ?_⟩ ?_
  · obtain ⟨x, _, rfl⟩ := List.mem_map.mp ha
    obtain ⟨y, _, rfl⟩ := List.mem_map.mp hb
    simp [PySem.W.alike]
  · obtain ⟨x, _, rfl⟩ := List.mem_map.mp ha
    exact ⟨by simp, by simp⟩
  · obtain ⟨x, _, rfl⟩ := List.mem_map.mp ha
    simp [PyData.depth]
  rw [em]
  refine w_ok (h _ (List.mergeSort_perm _ _) ((PySem.W.sort_pairwise (show PySem.W.TotalLe (PySem.W.dataLe false PyData.int) from PySem.W.sortLe_total _ false _) l).imp fun {a b} q => ?_))
  rw [PySem.W.dataLe_eq] at q
  have q : (!PySem.W.dataLt (.int b) (.int a)) = true := q
  rw [PySem.W.dataLt_int] at q
  simp at q
  exact q
theorem get_g {g : Sto} {o : Ob} : (d.st (R ++ (g ++ [o])))[R.length + g.length + 2]? = some o := by
  rw [st_get, ← List.append_assoc, show R.length + g.length = (R ++ g).length by simp]
  exact get_end _ _
/-- a row of letters: a list of the store, or a text -/
def RowV (R : Sto) (v : D) : Prop := (∃ (b : Nat) (row : List D), v = .ref (b + 2) ∧ 0 < row.length ∧ row.length < 1000 ∧ R[b]? = some (.lst row) ∧ ∀ x ∈ row, Lt x) ∨ (∃ cs : List Nat, v = .str (stS cs) ∧ 0 < cs.length ∧ cs.length < 1000 ∧ ∀ c ∈ cs, Az c)
theorem RowV.pre {R g : Sto} {v : D} (h : RowV R v) : RowV (R ++ g) v := by
  rcases h with ⟨b, row, h0, h1, h2, h3, h4⟩ | h
  · exact .inl ⟨b, row, h0, h1, h2, get_pre h3, h4⟩
  · exact .inr h
theorem RowV.nr {R : Sto} {v : D} (h : RowV R v) : (∃ b, v = .ref (b + 2)) ∨ ∃ z, v = .str z := by
  rcases h with ⟨b, row, h0, _⟩ | ⟨cs, h0, _⟩
  · exact .inl ⟨b, h0⟩
  · exact .inr ⟨_, h0⟩
theorem pickV_w {v : D} (hv : RowV R v) (h : ∀ x, Lt x → ∀ d' : DS, Q x (d'.st R)) : W (orc T (k + 2) n__law_pick [.ref 1, v] (d.st R)) Q := by
  rcases hv with ⟨b, row, rfl, h1, h2, h3, h4⟩ | ⟨cs, rfl, h1, h2, h3⟩
  · exact pick_w h1 h2 h3 fun x hx d' => h x (h4 x hx) d'
  · refine orc_w (ρ := [some (.ref 1), some (.str (stS cs))]) rfl rfl rfl ?_
    show W (evSs _ b__law_pick _ _) _
    simp only [b__law_pick]
    have zl : (stS cs).length ≤ sizeLine := by rw [st_length]; exact le_size (by omega)
    mul_fits
    first | refine v_lenS zl ?_ | skip
    rw [st_length]
    mul_fits
    refine draw_ (by omega) (by omega) fun y d1 y0 y1 => ?_
    have hy : y.toNat < cs.length := by omega
    have k1 : atI (stS cs).cps.toList y = some (cs[y.toNat]) := by
      show atI cs y = _
      unfold atI ixN
      rw [if_pos y0, if_pos y1]
      simp [hy]
    refine v_idxS zl k1 ?_
    mul_fits
    rw [gc_same (by rfl)]
    mul_fits
    exact h _ ⟨_, h3 _ (List.getElem_mem hy), rfl⟩ _
/-- a tie within spots -/
structure PtIn (n : Nat) (p : Pt) : Prop where
  one : p.one < n
  other : p.other < n
  lt : p.one < p.other
  st : ∃ c : Nat, Az c ∧ p.strand = ⟨#[c]⟩
theorem ties_v {n t : Nat} {v : D} (hn : n ≤ 900) (ht : t ≤ 60) (hv : RowV R v) (h : ∀ (pt : List Pt) (d' : DS), (∀ p ∈ pt, PtIn n p) → pt.length ≤ t → srt pt = pt → Q (.tup (pt.map Pt.d)) (d'.st R)) : W (orc T (k + 4) n__law_ties [.ref 1, .int (n : Int), .int (t : Int), v] (d.st R)) Q := by
  refine orc_w (ρ := [some (.ref 1), some (.int (n : Int)), some (.int (t : Int)), some v, none, none, none]) rfl rfl rfl ?_
  show W (evSs _ b__law_ties _ _) _
  simp only [b__law_ties]
  mul_fits
  simp only [st_len, st_app]
  have fin : ∀ (d' : DS) (pt : List Pt) (g : Sto) (o5 o6 : Option D), (∀ p ∈ pt, PtIn n p) → pt.length ≤ t → W (evSs (orc T (k + 3)) b__law_ties_2 [some (.ref 1), some (.int (n : Int)), some (.int (t : Int)), some v, some (.ref (R.length + 2)), o5, o6] (d'.st (R ++ [.lst (pt.map Pt.d)] ++ g))) fun fl S1 => W (retK fl S1) fun x S' => W (gc (d.st R) x S') Q := by
    intro d' pt g o5 o6 hp hpl
    simp only [b__law_ties_2]
    have k1 : (d'.st (R ++ [.lst (pt.map Pt.d)] ++ g))[R.length + 2]? = some (.lst (pt.map Pt.d)) := st_mid
    have ls : lsOf (d'.st (R ++ [.lst (pt.map Pt.d)] ++ g)) (.val (.ref (R.length + 2))) = some (pt.map Pt.d) := by simp only [lsOf, k1]
    mul_fits
    try (refine w_may ls ?_)
    refine sort_pts ?_
    mul_fits
    rw [List.append_assoc]
    refine gc_st2 (below_pts _) ?_
    exact h _ d' (fun p hp' => hp p ((srt_perm _).mem_iff.mp hp')) (by rw [(srt_perm _).length_eq]; exact hpl) (srt_congr (srt_perm _))
  mul_fits
  refine w_ifd (fun c => ?_) fun c => ?_
  · have hn2 : 2 ≤ n := by omega
    mul_fits
    rw [rgD0]
    refine loopS_w (fun ds ρ S' => ∃ (ks : List Nat) (pt : List Pt) (g : Sto) (o5 o6 : Option D) (d' : DS), ds = ks.map natD ∧ S' = d'.st (R ++ [.lst (pt.map Pt.d)] ++ g) ∧ ρ = [some (.ref 1), some (.int (n : Int)), some (.int (t : Int)), some v, some (.ref (R.length + 2)), o5, o6] ∧ pt.length + ks.length = t ∧ (∀ p ∈ pt, PtIn n p)) ?_ ?_ _ _ _ ⟨List.range t, [], [], _, _, d, rfl, by simp, rfl, by simp, by simp⟩
    · rintro e ds ρ S' ⟨ks, pt, g, o5, o6, d', hds, rfl, rfl, h1, h2⟩
      refine ⟨trivial, ?_⟩
      cases ks with
      | nil => exact absurd hds (by simp)
      | cons q ks =>
      rw [List.map_cons, List.cons.injEq] at hds
      obtain ⟨rfl, rfl⟩ := hds
      rw [List.length_cons] at h1
      simp only [b__law_ties_1]
      have rgok : RgOk 0 (n : Int) := by unfold RgOk; omega
      mul_fits
      simp only [st_len, st_app]
      have hs : (rgD 0 (n : Int)).length = n := by rw [rgD0]; simp
      refine some_w (b := (R ++ [Ob.lst (pt.map Pt.d)] ++ g).length) (m := 2) (row := rgD 0 (n : Int)) (by rw [hs]; omega) (get_end _ _) fun full g2 d2 hp2 => ?_
      have a1 : ∀ x ∈ full.take 2, x ∈ rgD 0 (n : Int) := fun x hx => hp2.mem_iff.mp (List.mem_of_mem_take hx)
      have a3 : (full.take 2).length = 2 := by
        have := hp2.length_eq
        rw [List.length_take]
        omega
      have a4 : (full.take 2).Nodup := by
        refine List.Nodup.sublist (List.take_sublist _ _) (hp2.nodup_iff.mpr ?_)
        rw [rgD0]
        exact List.pairwise_map.mpr (List.nodup_range.imp fun h e => h (by simp [natD] at e; omega))
      generalize full.take 2 = got at a1 a3 a4 ⊢
      obtain ⟨x, y, rfl⟩ : ∃ x y, got = [x, y] := by
        match got, a3 with
        | [x, y], _ => exact ⟨x, y, rfl⟩
      have hnat : ∀ z ∈ [x, y], ∃ q : Nat, z = natD q ∧ q < n := fun z hz => by
        have := a1 z hz
        rw [rgD0] at this
        obtain ⟨q, hq, rfl⟩ := List.mem_map.mp this
        exact ⟨q, rfl, List.mem_range.mp hq⟩
      obtain ⟨x, rfl, hx⟩ := hnat x (by simp)
      obtain ⟨y, rfl, hy⟩ := hnat y (by simp)
      have gg := get_g (R := R ++ [Ob.lst (pt.map Pt.d)] ++ g ++ [Ob.lst (rgD 0 (n : Int))]) (d := d2) (g := g2) (o := .lst [natD x, natD y])
      have ls := show lsOf (d2.st (R ++ [Ob.lst (pt.map Pt.d)] ++ g ++ [Ob.lst (rgD 0 (n : Int))] ++ (g2 ++ [Ob.lst [natD x, natD y]]))) (.val (.ref ((R ++ [Ob.lst (pt.map Pt.d)] ++ g ++ [Ob.lst (rgD 0 (n : Int))]).length + g2.length + 2))) = some [natD x, natD y] by simp only [lsOf, gg]
      mul_fits
      try (refine w_may ls ?_)
      have hxy : x ≠ y := fun e => by
        rw [e] at a4
        simp at a4
      refine sort_intsP (l := [(x : Int), (y : Int)]) fun l' hp hpw => ?_
      have hl' : l'.length = 2 := hp.length_eq
      obtain ⟨u, v', rfl⟩ : ∃ u v, l' = [u, v] := by
        match l', hl' with
        | [x, y], _ => exact ⟨x, y, rfl⟩
      have hnat2 : ∀ z ∈ [u, v'], ∃ q : Nat, z = (q : Int) ∧ q < n := fun z hz => by
        have := hp.mem_iff.mp hz
        simp at this
        rcases this with rfl | rfl
        · exact ⟨x, rfl, hx⟩
        · exact ⟨y, rfl, hy⟩
      have hnd2 : ([u, v'] : List Int).Nodup := hp.nodup_iff.mpr (by simp; omega)
      obtain ⟨u, rfl, hu⟩ := hnat2 u (by simp)
      obtain ⟨v', rfl, hv'⟩ := hnat2 v' (by simp)
      have huv : u < v' := by
        simp at hnd2 hpw
        omega
      rw [show ([(u : Int), (v' : Int)].map D.int) = [natD u, natD v'] from rfl]
      mul_fits
      simp only [st_len, st_app]
      have ea : R ++ [Ob.lst (pt.map Pt.d)] ++ g ++ [Ob.lst (rgD 0 (n : Int))] ++ (g2 ++ [Ob.lst [natD x, natD y]]) ++ [Ob.lst [natD u, natD v']] = R ++ [Ob.lst (pt.map Pt.d)] ++ (g ++ [Ob.lst (rgD 0 (n : Int))] ++ (g2 ++ [Ob.lst [natD x, natD y]]) ++ [Ob.lst [natD u, natD v']]) := by simp
      have ge := get_end (R ++ [Ob.lst (pt.map Pt.d)] ++ g ++ [Ob.lst (rgD 0 (n : Int))] ++ (g2 ++ [Ob.lst [natD x, natD y]])) (Ob.lst [natD u, natD v'])
      rw [ea] at ge ⊢
      generalize (R ++ [Ob.lst (pt.map Pt.d)] ++ g ++ [Ob.lst (rgD 0 (n : Int))] ++ (g2 ++ [Ob.lst [natD x, natD y]])).length = at_ at ge ⊢
      generalize (g ++ [Ob.lst (rgD 0 (n : Int))] ++ (g2 ++ [Ob.lst [natD x, natD y]]) ++ [Ob.lst [natD u, natD v']]) = G at ge ⊢
      have k1 : ∀ (d : DS) l, (d.st (R ++ [.lst l] ++ G))[R.length + 2]? = some (.lst l) := fun d l => st_mid
      have k2 : ∀ (d : DS), (d.st (R ++ [.lst (pt.map Pt.d)] ++ G))[at_ + 2]? = some (.lst [natD u, natD v']) := fun d => by rw [st_get]; exact ge
      mul_fits
      refine w_withL (k1 _ _) ?_
      mul_fits
      refine pickV_w hv.pre.pre fun z hz d3 => ?_
      obtain ⟨c, hc, rfl⟩ := hz
      mul_fits
      refine v_app (k1 _ _) (by rw [List.length_map]; exact le_size (by omega)) ?_
      rw [st_set_mid]
      mul_fits
      refine ⟨_, .inl rfl, ks, pt ++ [⟨u, v', ⟨#[c]⟩⟩], G, _, _, d3, rfl, by rw [List.map_append]; rfl, rfl, by simp; omega, fun p hp => ?_⟩
      rcases List.mem_append.mp hp with hp | hp
      · exact h2 p hp
      · simp at hp
        subst hp
        exact ⟨hu, hv', huv, c, hc, rfl⟩
    · rintro ρ S' ⟨ks, pt, g, o5, o6, d', hds, rfl, rfl, h1, h2⟩
      refine ⟨trivial, ?_⟩
      cases ks with
      | cons q ks => exact absurd hds (by simp)
      | nil =>
      mul_fits
      exact fin d' pt g _ _ h2 (by simp at h1; omega)
  · mul_fits
    have := fin d [] [] none none (by simp) (by simp)
    simpa using this
theorem marks_v {n : Nat} {v : D} (hn : n ≤ 900) (hv : RowV R v) (h : ∀ (ms : List Nat) (d' : DS), ms.length = n → (∀ c ∈ ms, Az c) → Q (.str (stS ms)) (d'.st R)) : W (orc T (k + 3) n__law_marks [.ref 1, .int (n : Int), v] (d.st R)) Q := by
  refine orc_w (ρ := [some (.ref 1), some (.int (n : Int)), some v, none]) rfl rfl rfl ?_
  show W (evSs _ b__law_marks _ _) _
  simp only [b__law_marks]
  mul_fits
  refine ⟨by show (rgD 0 _).length ≤ sizeLine; rw [rgD0]; simp; exact le_size (by omega), ?_⟩
  refine loopQ_w (fun ds r S' => ∃ (l : List Nat) (d' : DS), r = l.map singD ∧ S' = d'.st R ∧ l.length + ds.length = n ∧ ∀ c ∈ l, Az c) ?_ ?_ _ _ ⟨[], d, rfl, rfl, by rw [rgD0]; simp, by simp⟩
  · rintro e ds r S' ⟨l, d', rfl, rfl, h1, h2⟩
    refine ⟨trivial, ?_⟩
    mul_fits
    refine pickV_w hv fun x hx d2 => ?_
    obtain ⟨c, hc, rfl⟩ := hx
    mul_fits
    refine ⟨l ++ [c], d2, by simp, rfl, by simp at h1 ⊢; omega, fun x hx => ?_⟩
    rcases List.mem_append.mp hx with hx | hx
    · exact h2 x hx
    · simp at hx
      subst hx
      exact hc
  · rintro r S' ⟨l, d', rfl, rfl, h1, h2⟩
    refine ⟨trivial, ?_⟩
    have hll : l.length = n := by simpa using h1
    mul_fits
    try (refine w_may (strs_sing _) ?_)
    refine w_ask ?_ ?_
    · rw [sum_ones]
      have : Str.length "" = 0 := by decide
      rw [this]
      omega
    rw [glued_sing]
    mul_fits
    rw [gc_same (by rfl)]
    exact w_ok (h l d' hll h2)
theorem perm_of_map {α : Type} {f : α → D} : ∀ {l : List D} {m : List α}, l.Perm (m.map f) → ∃ l' : List α, l'.Perm m ∧ l = l'.map f := by
  intro l m h
  generalize hm : m.map f = k at h
  induction h generalizing m with
  | nil => exact ⟨[], by rw [List.map_eq_nil_iff.mp hm], rfl⟩
  | cons x _ ih =>
    cases m with
    | nil => cases hm
    | cons y m =>
      rw [List.map_cons, List.cons.injEq] at hm
      obtain ⟨l', h1, h2⟩ := ih hm.2
      exact ⟨y :: l', h1.cons y, by rw [List.map_cons, hm.1, h2]⟩
  | swap x y l =>
    match m, hm with
    | a :: b :: m, hm =>
      simp only [List.map_cons, List.cons.injEq] at hm
      obtain ⟨rfl, rfl, rfl⟩ := hm
      exact ⟨b :: a :: m, List.Perm.swap _ _ _, rfl⟩
  | trans _ _ ih1 ih2 =>
    obtain ⟨l2, h1, rfl⟩ := ih2 hm
    obtain ⟨l1, h3, rfl⟩ := ih1 rfl
    exact ⟨l1, h3.trans h1, rfl⟩
/-- a name: a letter, some signs -/
def hd (s : Str) : Option Nat := s.cps.toList.head?
def signs : Str := "abcdefghijklmnopqrstuvwxyzABCDEFGHIJKLMNOPQRSTUVWXYZ0123456789_"
end
structure Sl where
  nm : Str
  pl : List Nat
abbrev Sl.d (s : Sl) : D := .tup [.str s.nm, .tup (s.pl.map natD)]
structure Rl where
  nm : Str
  ms : List Nat
  ts : List Pt
  sl : List Sl
abbrev Rl.d (r : Rl) : D := .tup [.str r.nm, .str (stS r.ms), .tup (r.ts.map Pt.d), .tup (r.sl.map Sl.d)]
abbrev prD (p : Str × Nat) : D := .tup [.str p.1, natD p.2]
structure Bk where
  top : Str
  nms : List (Str × Nat)
  rls : List Rl
abbrev Bk.d (b : Bk) : D := .tup [.str b.top, .tup (b.nms.map prD), .tup (b.rls.map Rl.d)]
theorem pd_nats (l : List Nat) : Pd (.tup (l.map natD)) := pd_map fun _ _ => trivial
theorem pd_sl (s : Sl) : Pd s.d := ⟨trivial, pd_nats _, trivial⟩
theorem pd_rl (r : Rl) : Pd r.d := ⟨trivial, trivial, below_pts _, pd_map fun s _ => pd_sl s, trivial⟩
theorem pd_pr (p : Str × Nat) : Pd (prD p) := ⟨trivial, trivial, trivial⟩
theorem pd_bk (b : Bk) : Pd b.d := ⟨trivial, pd_map fun p _ => pd_pr p, pd_map fun r _ => pd_rl r, trivial⟩
/-- a rule as it is drawn -/
structure RlOk (r : Rl) (nm : Str) (ar : Nat) (used : List (Str × Nat)) (inner : Nat) : Prop where
  nm : r.nm = nm
  msl : r.ms.length ≤ max inner 3
  sl : All2 (fun (p : Str × Nat) (s : Sl) => s.nm = p.1 ∧ s.pl.length = p.2 ∧ s.pl.Nodup ∧ ∀ x ∈ s.pl, x < ar + r.ms.length) used r.sl
  ts : ∀ p ∈ r.ts, PtIn (ar + r.ms.length) p
  tl : r.ts.length ≤ 12
  ss : srt r.ts = r.ts
  mc : ∀ c ∈ r.ms, Az c
/-- a row of letters of the store -/
structure Row (R : Sto) (b : Nat) : Prop where
  ex : ∃ row : List D, 0 < row.length ∧ row.length < 1000 ∧ R[b]? = some (.lst row) ∧ ∀ x ∈ row, Lt x
theorem Row.pre {R g : Sto} {b : Nat} (h : Row R b) : Row (R ++ g) b := by
  obtain ⟨row, h1, h2, h3, h4⟩ := h.ex
  exact ⟨row, h1, h2, get_pre h3, h4⟩
theorem Row.v {R : Sto} {b : Nat} (h : Row R b) : RowV R (.ref (b + 2)) := by
  obtain ⟨row, h1, h2, h3, h4⟩ := h.ex
  exact .inl ⟨b, row, rfl, h1, h2, h3, h4⟩
section
variable {k : Nat} {R : Sto} {Q : D → Sto → Prop} {d : DS} {m : Int}
theorem rule_v {nm : Str} {ar inner t bs : Nat} {v2 v3 : D} {used : List (Str × Nat)} (har : ar ≤ 3) (hin : inner ≤ 500) (ht : t ≤ 12) (hu : ∀ p ∈ used, p.2 ≤ 3) (hul : used.length ≤ 10) (hbs : R[bs]? = some (.lst (used.map prD))) (hm : RowV R v2) (hs : RowV R v3)
    (h : ∀ (r : Rl) (d' : DS), RlOk r nm ar used inner → Q r.d (d'.st R)) : W (orc T (k + 5) n__law_rule [.ref 1, prD (nm, ar), .ref (bs + 2), natD inner, natD t, v2, v3] (d.st R)) Q := by
  refine orc_w (ρ := [some (.ref 1), some (prD (nm, ar)), some (.ref (bs + 2)), some (natD inner), some (natD t), some v2, some v3, none, none, none, none]) rfl rfl rfl ?_
  show W (evSs _ b__law_rule _ _) _
  simp only [b__law_rule]
  have k1 : ∀ (d : DS) (g : Sto), (d.st (R ++ g))[bs + 2]? = some (.lst (used.map prD)) := fun d g => by rw [st_get]; exact get_pre hbs
  have it : ∀ (d : DS) (g : Sto), itOf (.val (.ref (bs + 2))) (d.st (R ++ g)) = some ⟨used.map prD, some (bs + 2)⟩ := fun d g => by
    simp only [itOf, sqOf, lsOf, k1, Option.map_some]
  have it0 := it d []
  have k10 := k1 d []
  rw [List.append_nil] at it0 k10
  have zl : (used.map prD).length ≤ sizeLine := by rw [List.length_map]; exact le_size (by omega)
  mul_fits
  try (refine w_may it0 ?_)
  mul_fits
  refine loopQ_m prD (fun p => .int ((p.2 : Int) - (ar : Int))) (fun S => S = d.st R) used (fun p hp S e => ?_) (fun S e => ?_) _ rfl
  · subst e
    refine ⟨k10, ?_⟩
    mul_fits
    exact ⟨rfl, rfl⟩
  subst e
  refine ⟨k10, ?_⟩
  mul_fits
  have eints : ([natD inner] ++ used.map fun p => D.int ((p.2 : Int) - (ar : Int))) = ((inner : Int) :: used.map fun p => (p.2 : Int) - (ar : Int)).map D.int := by simp
  refine w_ask (by rw [List.length_map]; exact le_size (by simp; omega)) ?_
  rw [eints]
  mul_fits
  obtain ⟨mx, hmx⟩ : ∃ mx, greatest ((inner : Int) :: used.map fun p => (p.2 : Int) - (ar : Int)) = some mx := by
    cases e : greatest ((inner : Int) :: used.map fun p => (p.2 : Int) - (ar : Int)) with
    | some v => exact ⟨v, rfl⟩
    | none =>
      have : ∀ (x : Int) (l : List Int), greatest (x :: l) ≠ none := by
        intro x l
        induction l generalizing x with
        | nil => intro z; cases z
        | cons y l ih =>
          intro z
          have z : (greatest (y :: l)).map _ = none := z
          rw [Option.map_eq_none_iff] at z
          exact ih y z
      exact absurd e (this _ _)
  obtain ⟨m1, m2⟩ := greatest_spec hmx
  have m0 := m2 (inner : Int) (by simp)
  have m3 : mx ≤ ((max inner 3 : Nat) : Int) := by
    rcases List.mem_cons.mp m1 with e | e
    · omega
    · obtain ⟨p, hp, e⟩ := List.mem_map.mp e
      have := hu p hp
      omega
  have m4 : ∀ p ∈ used, (p.2 : Int) - (ar : Int) ≤ mx := fun p hp => m2 _ (List.mem_cons_of_mem _ (List.mem_map.mpr ⟨p, hp, rfl⟩))
  obtain ⟨own, rfl⟩ := Int.eq_ofNat_of_zero_le (by omega : 0 ≤ mx)
  refine v_max (show lsOf _ (.own _) = some _ from rfl) (ints_map _) hmx ?_
  mul_fits
  try (refine w_may it0 ?_)
  mul_fits
  have e0 : ((ar : Int) + (own : Int)) = ((ar + own : Nat) : Int) := by omega
  rw [e0]
  refine loopQ_e prD Sl.d (fun (p : Str × Nat) (s : Sl) => s.nm = p.1 ∧ s.pl.length = p.2 ∧ s.pl.Nodup ∧ ∀ x ∈ s.pl, x < ar + own) (fun S => ∃ d' g, S = d'.st (R ++ g)) used (fun p hp S e => ?_) (fun sl S a e => ?_) _ ⟨d, [], by rw [List.append_nil]⟩
  · obtain ⟨d', g, rfl⟩ := e
    refine ⟨k1 d' g, ?_⟩
    have rgok : RgOk 0 ((ar + own : Nat) : Int) := by unfold RgOk; omega
    mul_fits
    simp only [st_len, st_app]
    have hn : (rgD 0 ((ar + own : Nat) : Int)).length = ar + own := by rw [rgD0]; simp
    refine some_w (b := (R ++ g).length) (m := p.2) (row := rgD 0 ((ar + own : Nat) : Int)) (by rw [hn]; omega) (get_end _ _) fun full g2 d2 hp2 => ?_
    rw [rgD0] at hp2
    obtain ⟨fl, hp3, rfl⟩ := perm_of_map (f := natD) hp2
    have gg := get_g (R := R ++ g ++ [Ob.lst (rgD 0 ((ar + own : Nat) : Int))]) (d := d2) (g := g2) (o := .lst ((fl.map natD).take p.2))
    have sq : sqOf (d2.st (R ++ g ++ [Ob.lst (rgD 0 ((ar + own : Nat) : Int))] ++ (g2 ++ [Ob.lst ((fl.map natD).take p.2)]))) (.val (.ref ((R ++ g ++ [Ob.lst (rgD 0 ((ar + own : Nat) : Int))]).length + g2.length + 2))) = some ((fl.map natD).take p.2) := by simp only [sqOf, lsOf, gg]
    mul_fits
    refine ⟨⟨p.1, fl.take p.2⟩, by show _ = some (D.tup [.str p.1, .tup ((fl.take p.2).map natD)]); rw [List.map_take], ⟨d2, g ++ [Ob.lst (rgD 0 ((ar + own : Nat) : Int))] ++ (g2 ++ [Ob.lst ((fl.map natD).take p.2)]), by simp⟩, rfl, ?_, ?_, fun x hx => ?_⟩
    · have := hp3.length_eq
      have := m4 p hp
      rw [List.length_take]
      simp at *
      omega
    · exact (hp3.nodup_iff.mpr List.nodup_range).sublist (List.take_sublist _ _)
    · exact List.mem_range.mp (hp3.mem_iff.mp (List.mem_of_mem_take hx))
  obtain ⟨d', g, rfl⟩ := e
  refine ⟨k1 d' g, ?_⟩
  mul_fits
  refine marks_v (n := own) (by omega) hm.pre fun ms d2 hms hmc => ?_
  mul_fits
  refine ties_v (n := ar + own) (t := t) (by omega) (by omega) hs.pre fun pt d3 hpt hpl hps => ?_
  mul_fits
  refine gc_st2 ((pd_rl ⟨nm, ms, pt, sl⟩).b _) ?_
  refine h ⟨nm, ms, pt, sl⟩ d3 ⟨rfl, ?_, ?_, ?_, Nat.le_trans hpl ht, hps, hmc⟩
  · show ms.length ≤ _
    omega
  · show All2 (fun (p : Str × Nat) (s : Sl) => s.nm = p.1 ∧ s.pl.length = p.2 ∧ s.pl.Nodup ∧ ∀ x ∈ s.pl, x < ar + ms.length) used sl
    rw [hms]
    exact a
  · show ∀ p ∈ pt, PtIn (ar + ms.length) p
    rw [hms]
    exact hpt
end
/-- a rule within names -/
structure RlIn (nms : List (Str × Nat)) (r : Rl) : Prop where
  ex : ∃ a, (r.nm, a) ∈ nms ∧ (∀ s ∈ r.sl, ∃ a', (s.nm, a') ∈ nms ∧ s.pl.length = a' ∧ s.pl.Nodup ∧ ∀ x ∈ s.pl, x < a + r.ms.length) ∧ (∀ p ∈ r.ts, PtIn (a + r.ms.length) p)
  sl : r.sl.length ≤ 3
  ms : r.ms.length ≤ 6
  tl : r.ts.length ≤ 12
  ss : srt r.ts = r.ts
  mc : ∀ c ∈ r.ms, Az c
theorem toPs_prs (f : Nat → Option PyData) (l : List (Str × Nat)) : toPsW f (l.map prD) = some (l.map fun p => .tuple [.str p.1, .int (p.2 : Nat)]) := by
  induction l with
  | nil => rfl
  | cons x l ih => simp [toPsW, toPW, ih]
theorem sort_prs {S : Sto} {l : List (Str × Nat)} {Q : List D → Sto → Prop} (h : ∀ l' : List (Str × Nat), l'.Perm l → Q (l'.map prD) S) : W (sortD S (l.map prD)) Q := by
  have e : toPs S (l.map prD) = some _ := toPs_prs _ _
  unfold sortD
  rw [e]
  refine w_ask ⟨fun a ha b hb => ?_, .inl fun a ha => ?_, fun a ha => ?_⟩ (w_ok ?_)
  · obtain ⟨x, _, rfl⟩ := List.mem_map.mp ha
    obtain ⟨y, _, rfl⟩ := List.mem_map.mp hb
    simp [PySem.W.alike, PySem.W.alikeAll]
  · obtain ⟨x, _, rfl⟩ := List.mem_map.mp ha
    exact ⟨_, _, rfl⟩
  · obtain ⟨x, _, rfl⟩ := List.mem_map.mp ha
    simp [PyData.depth, PyData.depthAll]
  · obtain ⟨l', h1, h2⟩ := perm_of_map (List.mergeSort_perm (l.map prD) (PySem.W.dataLe false fun d => (toP S d).getD .none))
    rw [h2]
    exact h l' h1
theorem rlIn_of {nms : List (Str × Nat)} {r : Rl} {nm : Str} {a inner : Nat} {used : List (Str × Nat)} (o : RlOk r nm a used inner) (hin : inner ≤ 6) (ha : (nm, a) ∈ nms) (hu : ∀ p ∈ used, p ∈ nms) (hl : used.length ≤ 3) : RlIn nms r := by
  refine ⟨⟨a, by rw [o.nm]; exact ha, fun s hs => ?_, o.ts⟩, by rw [o.sl.len]; exact hl, by have := o.msl; omega, o.tl, o.ss, o.mc⟩
  obtain ⟨p, hp, h1, h2, h3, h4⟩ := o.sl.mem s hs
  exact ⟨p.2, by rw [h1]; exact hu p hp, h2, h3, h4⟩
section
variable {k : Nat} {R : Sto} {Q : D → Sto → Prop} {d : DS} {m : Int}
end
def gS {α : Type} : List (Str × α) → Str → Option α
  | [], _ => none
  | (j, a) :: r, s => if j = s then some a else gS r s
def pS {α : Type} : List (Str × α) → Str → α → List (Str × α)
  | [], s, a => [(s, a)]
  | (j, b) :: r, s, a => if j = s then (j, a) :: r else (j, b) :: pS r s a
def encK {α : Type} (e : α → D) (l : List (Str × α)) : List (Key × D) := l.map fun p => (.inr p.1, e p.2)
section
variable {α : Type} {e : α → D}
theorem encK_len (l : List (Str × α)) : (encK e l).length = l.length := List.length_map _
theorem gD_enc (s : Str) : ∀ l : List (Str × α), gD (encK e l) (.inr s) = (gS l s).map e
  | [] => rfl
  | (j, a) :: r => by
    show (if (Sum.inr j : Key) = .inr s then some (e a) else gD (encK e r) (.inr s)) = _
    unfold gS
    by_cases h : j = s
    · rw [if_pos (by rw [h]), if_pos h]
      rfl
    · rw [if_neg (fun z => h (Sum.inr.inj z)), if_neg h, gD_enc s r]
theorem pD_enc (s : Str) (a : α) : ∀ l : List (Str × α), pD (encK e l) (.inr s) (e a) = encK e (pS l s a)
  | [] => rfl
  | (j, b) :: r => by
    show (if (Sum.inr j : Key) = .inr s then ((.inr j : Key), e a) :: encK e r else (.inr j, e b) :: pD (encK e r) (.inr s) (e a)) = _
    unfold pS
    by_cases h : j = s
    · rw [if_pos (by rw [h]), if_pos h]
      rfl
    · rw [if_neg (fun z => h (Sum.inr.inj z)), if_neg h, pD_enc s a r]
      rfl
theorem gS_pS (k j : Str) (a : α) : ∀ l : List (Str × α), gS (pS l k a) j = if k = j then some a else gS l j
  | [] => rfl
  | (i, b) :: r => by
    unfold pS
    by_cases h : i = k
    · rw [if_pos h]
      subst h
      unfold gS
      by_cases h2 : i = j
      · rw [if_pos h2, if_pos h2]
      · rw [if_neg h2, if_neg h2, if_neg h2]
    · rw [if_neg h]
      unfold gS
      rw [gS_pS k j a r]
      by_cases h2 : i = j
      · subst h2
        rw [if_pos rfl, if_pos rfl, if_neg (fun z => h z.symm)]
      · rw [if_neg h2, if_neg h2]
theorem pS_len (s : Str) (a : α) : ∀ l : List (Str × α), (pS l s a).length ≤ l.length + 1
  | [] => Nat.le_refl _
  | (i, b) :: r => by
    unfold pS
    split
    · rw [List.length_cons, List.length_cons]; omega
    · rw [List.length_cons, List.length_cons]
      have := pS_len s a r
      omega
end
abbrev Ls := List (Str × Nat)
def inL (l : Ls) (r : Rl) : Bool := r.sl.all fun s => (gS l s.nm).isSome
def smL (l : Ls) (r : Rl) : Nat := (r.sl.map fun s => (gS l s.nm).getD 0).sum
def stp (l : Ls) (r : Rl) : Ls := if inL l r = true then (match gS l r.nm with
  | none => pS l r.nm (1 + smL l r)
  | some w => if 1 + smL l r < w then pS l r.nm (1 + smL l r) else l) else l
def trn (b : Bk) (l : Ls) : Ls := b.rls.foldl stp l
def lsts (b : Bk) : Nat → Ls
  | 0 => []
  | n + 1 => trn b (lsts b n)
def lstB (b : Bk) : Ls := lsts b b.nms.length
theorem stp_len (l : Ls) (r : Rl) : (stp l r).length ≤ l.length + 1 := by
  unfold stp
  split
  · split
    · exact pS_len _ _ _
    · split
      · exact pS_len _ _ _
      · omega
  · omega
/-- less or the same, and no name lost -/
def LeL (l m : Ls) : Prop := ∀ s v, gS l s = some v → ∃ w, gS m s = some w ∧ w ≤ v
theorem LeL.refl {l : Ls} : LeL l l := fun s v h => ⟨v, h, Nat.le_refl _⟩
theorem LeL.trans {l m n : Ls} (a : LeL l m) (b : LeL m n) : LeL l n := fun s v h => by
  obtain ⟨w, h1, h2⟩ := a s v h
  obtain ⟨x, h3, h4⟩ := b s w h1
  exact ⟨x, h3, by omega⟩
theorem stp_le (l : Ls) (r : Rl) : LeL l (stp l r) := fun s v h => by
  unfold stp
  split
  · split
    · rename_i e
      rw [gS_pS, if_neg (fun z => by rw [z, h] at e; cases e)]
      exact ⟨v, h, Nat.le_refl _⟩
    · rename_i w e
      split
      · rename_i hw
        rw [gS_pS]
        by_cases c : r.nm = s
        · rw [if_pos c]
          rw [c, h] at e
          cases e
          exact ⟨_, rfl, Nat.le_of_lt hw⟩
        · rw [if_neg c]
          exact ⟨v, h, Nat.le_refl _⟩
      · exact ⟨v, h, Nat.le_refl _⟩
  · exact ⟨v, h, Nat.le_refl _⟩
theorem inL_iff {l : Ls} {r : Rl} : inL l r = true ↔ ∀ s ∈ r.sl, ∃ v, gS l s.nm = some v := by
  unfold inL
  rw [List.all_eq_true]
  exact ⟨fun h s hs => Option.isSome_iff_exists.mp (h s hs), fun h s hs => Option.isSome_iff_exists.mpr (h s hs)⟩
theorem sum_le {α : Type} {f g : α → Nat} : ∀ {l : List α}, (∀ x ∈ l, f x ≤ g x) → (l.map f).sum ≤ (l.map g).sum
  | [], _ => Nat.le_refl _
  | x :: l, h => by
    rw [List.map_cons, List.map_cons, List.sum_cons, List.sum_cons]
    have := h x (by simp)
    have := sum_le (l := l) fun y hy => h y (by simp [hy])
    omega
theorem inL_le {l m : Ls} {r : Rl} (a : LeL l m) (h : inL l r = true) : inL m r = true ∧ smL m r ≤ smL l r := by
  refine ⟨inL_iff.mpr fun s hs => ?_, sum_le fun s hs => ?_⟩
  · obtain ⟨v, hv⟩ := inL_iff.mp h s hs
    obtain ⟨w, hw, _⟩ := a _ _ hv
    exact ⟨w, hw⟩
  · obtain ⟨v, hv⟩ := inL_iff.mp h s hs
    obtain ⟨w, hw, h2⟩ := a _ _ hv
    rw [hv, hw]
    exact h2
/-- each number is borne by a rule -/
def GoodL (b : Bk) (l : Ls) : Prop := ∀ s v, gS l s = some v → ∃ r ∈ b.rls, r.nm = s ∧ inL l r = true ∧ 1 + smL l r ≤ v
theorem stp_good {b : Bk} {l : Ls} {r : Rl} (hr : r ∈ b.rls) (g : GoodL b l) : GoodL b (stp l r) := fun s v h => by
  have le := stp_le l r
  have keep : gS l s = some v → ∃ r' ∈ b.rls, r'.nm = s ∧ inL (stp l r) r' = true ∧ 1 + smL (stp l r) r' ≤ v := fun h => by
    obtain ⟨r', h1, h2, h3, h4⟩ := g s v h
    obtain ⟨k1, k2⟩ := inL_le le h3
    exact ⟨r', h1, h2, k1, by omega⟩
  by_cases c : inL l r = true
  · obtain ⟨k1, k2⟩ := inL_le le c
    have mine : r.nm = s → v = 1 + smL l r → ∃ r' ∈ b.rls, r'.nm = s ∧ inL (stp l r) r' = true ∧ 1 + smL (stp l r) r' ≤ v := fun e1 e2 => ⟨r, hr, e1, k1, by omega⟩
    have e : stp l r = (match gS l r.nm with
      | none => pS l r.nm (1 + smL l r)
      | some w => if 1 + smL l r < w then pS l r.nm (1 + smL l r) else l) := if_pos c
    have put : stp l r = pS l r.nm (1 + smL l r) → ∃ r' ∈ b.rls, r'.nm = s ∧ inL (stp l r) r' = true ∧ 1 + smL (stp l r) r' ≤ v := fun e => by
      have h' := h
      rw [e, gS_pS] at h'
      by_cases q : r.nm = s
      · rw [if_pos q] at h'
        exact mine q (Option.some.inj h').symm
      · rw [if_neg q] at h'
        exact keep h'
    cases q : gS l r.nm with
    | none =>
      rw [q] at e
      exact put e
    | some w =>
      rw [q] at e
      by_cases hw : 1 + smL l r < w
      · exact put (e.trans (if_pos hw))
      · have e2 : stp l r = l := e.trans (if_neg hw)
        rw [e2] at h
        exact keep h
  · have e : stp l r = l := if_neg c
    rw [e] at h
    exact keep h
theorem foldl_inv {α β : Type} {f : β → α → β} (P : β → Prop) : ∀ (l : List α) (b : β), P b → (∀ x ∈ l, ∀ b, P b → P (f b x)) → P (l.foldl f b)
  | [], _, h, _ => h
  | x :: l, b, h, k => foldl_inv P l (f b x) (k x (by simp) b h) fun y hy => k y (by simp [hy])
theorem trn_good {b : Bk} {l : Ls} (g : GoodL b l) : GoodL b (trn b l) := foldl_inv (GoodL b) _ _ g fun r hr l g => stp_good hr g
theorem lsts_good (b : Bk) : ∀ n, GoodL b (lsts b n)
  | 0 => fun s v h => by cases h
  | n + 1 => trn_good (lsts_good b n)
theorem lstB_good (b : Bk) : GoodL b (lstB b) := lsts_good b _
theorem good_pos {b : Bk} {l : Ls} (g : GoodL b l) {s : Str} {v : Nat} (h : gS l s = some v) : 1 ≤ v := by
  obtain ⟨_, _, _, _, k⟩ := g s v h
  omega

section
variable {k : Nat} {S : Sto} {Q : D → Sto → Prop}
theorem in_enc {S : Sto} {a : Nat} {α : Type} {e : α → D} {l : List (Str × α)} {s : Str} (k1 : S[a]? = some (.dic (encK e l))) : inD (.str s) (.val (.ref a)) S = some (gS l s).isSome := by
  rw [inD_dic k1 rfl, gD_enc, Option.isSome_map]
theorem bools_m {α : Type} (f : α → Bool) (l : List α) : boolsOf (l.map fun x => D.bl (f x)) = some (l.map f) := by
  have := bools_map (l.map f)
  rw [List.map_map] at this
  exact this
theorem ints_m {α : Type} (f : α → Nat) (l : List α) : intsOf (l.map fun x => natD (f x)) = some (l.map fun x => ((f x : Nat) : Int)) := by
  have := PQ.ints_map (l.map fun x => ((f x : Nat) : Int))
  rw [List.map_map] at this
  exact this
theorem sum_cast {α : Type} (f : α → Nat) : ∀ l : List α, (l.map fun x => ((f x : Nat) : Int)).sum = (((l.map f).sum : Nat) : Int)
  | [] => rfl
  | x :: l => by
    rw [List.map_cons, List.map_cons, List.sum_cons, List.sum_cons, sum_cast f l]
    omega
theorem all_m {α : Type} (f : α → Bool) (l : List α) : (l.map f).all id = l.all f := by
  rw [List.all_map]
  rfl
theorem hit_of {C : Orc} {ρ : En} {it : CE} {x : D} {Sx : Sto} (h : W (evE C it ρ Sx) fun d S' => d = x ∧ S' = Sx) : evE C it ρ Sx = .ok x Sx := by
  obtain ⟨_, _, e, rfl, rfl⟩ := h
  exact e
/-- all names of a row of slots are known -/
theorem known_w {α : Type} {e : α → D} {C : Orc} {ρ : En} {a j v : Nat} {l : List (Str × α)} {sl : List Sl} {own : List Nat} {QQ : D → Sto → Prop} (hown : own = [j]) (hv : ρ[v]? = some (some (.ref a))) (hj : j < ρ.length) (hvj : v ≠ j) (hl : sl.length ≤ 100000) {Sx : Sto} (k1 : Sx[a]? = some (.dic (encK e l))) (h : QQ (.bl (sl.all fun s => (gS l s.nm).isSome)) Sx)
    {it : CE} (hit : evE C it ρ Sx = .ok (.tup (sl.map Sl.d)) Sx) :
    W (evE C (.agg .all (.q (.comp own (.nm j) (.r (.e it)) (.inr (.idx (.var j) (.lit (.int 0))) (.e (.var v)))))) ρ Sx) QQ := by
  subst hown
  refine w_agg (w_q (w_comp (w_ir (w_e ?_))))
  rw [hit]
  refine w_ok (w_may (show itOf (.val (.tup (sl.map Sl.d))) Sx = some ⟨sl.map Sl.d, none⟩ from rfl) (w_ok ⟨by rw [List.length_map]; exact le_size hl, ?_⟩))
  refine loopQ_m Sl.d (fun s => .bl (gS l s.nm).isSome) (fun S => S = Sx) sl (fun s _ S eS => ?_) (fun S eS => ?_) _ rfl
  · subst eS
    refine ⟨trivial, ?_⟩
    have e1 : wipeE ρ [j] = ρ.set j none := rfl
    have b1 : bindN (.nm j) s.d (wipeE ρ [j]) S = some ((ρ.set j none).set j (some s.d)) := rfl
    refine w_may b1 (w_bind (w_inr (w_idx (w_var (d := s.d) (by simp [hj]) (w_lit (v_idxT (d := .str s.nm) rfl (w_e (w_var (d := .ref a) ?_ (w_may (in_enc k1) (w_ok (w_ok ⟨rfl, rfl⟩)))))))))))
    rw [List.getElem?_set_ne (Ne.symm hvj), List.getElem?_set_ne (Ne.symm hvj)]
    exact hv
  · subst eS
    refine ⟨trivial, v_all (show lsOf _ (.own _) = some _ from rfl) (bools_m _ _) ?_⟩
    rw [all_m]
    exact h
/-- the sum of their numbers -/
theorem known_sum {C : Orc} {ρ : En} {a j v : Nat} {l : Ls} {sl : List Sl} {own : List Nat} {QQ : D → Sto → Prop} (hown : own = [j]) (hv : ρ[v]? = some (some (.ref a))) (hj : j < ρ.length) (hvj : v ≠ j) (hl : sl.length ≤ 100000) {Sx : Sto} (k1 : Sx[a]? = some (.dic (encK natD l))) (hk : ∀ s ∈ sl, ∃ v, gS l s.nm = some v) (h : QQ (natD (sl.map fun s => (gS l s.nm).getD 0).sum) Sx)
    {it : CE} (hit : evE C it ρ Sx = .ok (.tup (sl.map Sl.d)) Sx) :
    W (evE C (.agg .sum (.q (.comp own (.nm j) (.r (.e it)) (.idx (.var v) (.idx (.var j) (.lit (.int 0))))))) ρ Sx) QQ := by
  subst hown
  refine w_agg (w_q (w_comp (w_ir (w_e ?_))))
  rw [hit]
  refine w_ok (w_may (show itOf (.val (.tup (sl.map Sl.d))) Sx = some ⟨sl.map Sl.d, none⟩ from rfl) (w_ok ⟨by rw [List.length_map]; exact le_size hl, ?_⟩))
  refine loopQ_m Sl.d (fun s => natD ((gS l s.nm).getD 0)) (fun S => S = Sx) sl (fun s hs S e => ?_) (fun S e => ?_) _ rfl
  · subst e
    refine ⟨trivial, ?_⟩
    obtain ⟨x, hx⟩ := hk s hs
    have b1 : bindN (.nm j) s.d (wipeE ρ [j]) S = some ((ρ.set j none).set j (some s.d)) := rfl
    refine w_may b1 (w_bind (w_idx (w_var (d := .ref a) ?_ (w_idx (w_var (d := s.d) (by simp [hj]) (w_lit (v_idxT (d := .str s.nm) rfl (v_idxK k1 rfl (show gD (encK natD l) (.inr s.nm) = some (natD x) from by rw [gD_enc, hx]; rfl) (w_ok ⟨by rw [hx]; rfl, rfl⟩)))))))))
    rw [List.getElem?_set_ne (Ne.symm hvj), List.getElem?_set_ne (Ne.symm hvj)]
    exact hv
  · subst e
    refine ⟨trivial, v_sum (show lsOf _ (.own _) = some _ from rfl) (ints_m _ _) ?_⟩
    rw [sum_cast]
    exact h
theorem least_w {b : Bk} (hz : b.nms.length ≤ 70) (hr : b.rls.length ≤ 1000) (hs : ∀ r ∈ b.rls, r.sl.length ≤ 3) (h : Q (.ref S.length) (S ++ [.dic (encK natD (lstB b))])) : W (orc T (k + 1) n__law_least [b.d] S) Q := by
  refine orc_w (ρ := [some b.d, none, none, none, none, none]) rfl rfl rfl ?_
  show W (evSs _ b__law_least _ _) _
  simp only [b__law_least]
  mul_fits
  rw [List.length_map]
  have bd : bd62 0 ∧ bd62 (b.nms.length : Int) := by unfold bd62; omega
  mul_fits
  rw [rgD_0]
  refine loopS_w (fun ds ρ S' => ∃ (c m : Nat) (o2 o3 o4 o5 : Option D), c + m = b.nms.length ∧ ds = (List.range' c m).map natD ∧ S' = S ++ [.dic (encK natD (lsts b c))] ∧ ρ = [some b.d, some (.ref S.length), o2, o3, o4, none] ∧ (lsts b c).length ≤ c * b.rls.length) ?_ ?_ _ _ _ ⟨0, b.nms.length, _, _, _, none, by omega, rfl, rfl, rfl, by simp [lsts]⟩
  · rintro d ds ρ S' ⟨c, m, o2, o3, o4, o5, hcm, hds, rfl, rfl, hlen⟩
    refine ⟨trivial, ?_⟩
    cases m with
    | zero => exact absurd hds (by simp)
    | succ m =>
    rw [rg'_cons, List.map_cons, List.cons.injEq] at hds
    obtain ⟨rfl, rfl⟩ := hds
    simp only [b__law_least_1]
    mul_fits
    have big : (c + 1) * b.rls.length ≤ 70000 := Nat.le_trans (Nat.mul_le_mul (show c + 1 ≤ 70 by omega) hr) (by decide)
    refine loopS_e Rl.d (fun r ρ S' => ∃ (l : Ls) (o3 o4 : Option D), S' = S ++ [.dic (encK natD l)] ∧ ρ = [some b.d, some (.ref S.length), some (natD c), o3, o4, none] ∧ r.foldl stp l = lsts b (c + 1) ∧ l.length + r.length ≤ (c + 1) * b.rls.length ∧ ∀ x ∈ r, x ∈ b.rls) ?_ ?_ b.rls _ _ ⟨lsts b c, o3, o4, rfl, rfl, rfl, by rw [Nat.succ_mul]; omega, fun x hx => hx⟩
    · rintro x r ρ S' ⟨l, o3, o4, rfl, rfl, h1, h2, h3⟩
      refine ⟨trivial, ?_⟩
      rw [List.length_cons] at h2
      rw [List.foldl_cons] at h1
      have hx := hs x (h3 x (by simp))
      have kd : (S ++ [Ob.dic (encK natD l)])[S.length]? = some (.dic (encK natD l)) := get_end _ _
      have hit : ∀ o4 : Option D, evE (orc T k) (CE.idx (.var 3) (.lit (.int 3))) [some b.d, some (.ref S.length), some (natD c), some x.d, o4, none] (S ++ [.dic (encK natD l)]) = .ok (.tup (x.sl.map Sl.d)) (S ++ [.dic (encK natD l)]) := fun o4 => by
        simp [evE, may, idxD, Rl.d, atI, ixN, Res.bind]
      have next : stp l x = l ∨ stp l x = pS l x.nm (1 + smL l x) → ∀ o4, ∃ ρ', (Fl.nx [some b.d, some (.ref S.length), some (natD c), some x.d, o4, none] = .nx ρ' ∨ Fl.nx [some b.d, some (.ref S.length), some (natD c), some x.d, o4, none] = .ct ρ') ∧ ∃ (l' : Ls) (o3 o4 : Option D), S ++ [.dic (encK natD (stp l x))] = S ++ [.dic (encK natD l')] ∧ ρ' = [some b.d, some (.ref S.length), some (natD c), o3, o4, none] ∧ r.foldl stp l' = lsts b (c + 1) ∧ l'.length + r.length ≤ (c + 1) * b.rls.length ∧ ∀ x ∈ r, x ∈ b.rls := fun _ o4 =>
        ⟨_, .inl rfl, stp l x, _, _, rfl, rfl, h1, by have := stp_len l x; omega, fun y hy => h3 y (by simp [hy])⟩
      simp only [b__law_least_2]
      refine w_may rfl ?_
      refine w_scons (w_ite (w_tv (known_w (l := l) (sl := x.sl) rfl rfl (by simp) (by decide) (by omega) kd ?_ (hit _))))
      refine w_tru_b (w_ok (w_if (fun c1 => ?_) fun c1 => ?_))
      · have c2 : inL l x = true := c1
        refine w_scons (w_set (w_bin (w_lit (known_sum (l := l) (sl := x.sl) rfl rfl (by simp) (by decide) (by omega) kd (inL_iff.mp c2) ?_ (hit _)))))
        have en : (1 : Int) + (((x.sl.map fun s => (gS l s.nm).getD 0).sum : Nat) : Int) = ((1 + smL l x : Nat) : Int) := by
          show (1 : Int) + ((smL l x : Nat) : Int) = _
          omega
        refine v_add ?_
        rw [en]
        mul_fits
        have kin : inD (.str x.nm) (.val (.ref S.length)) (S ++ [Ob.dic (encK natD l)]) = some (gS l x.nm).isSome := in_enc kd
        have zl : (encK natD l).length < sizeLine := Nat.lt_of_lt_of_le (Nat.lt_succ_self _) (by rw [encK_len]; exact le_size (by omega))
        cases q : gS l x.nm with
        | none =>
          rw [q] at kin
          have es : stp l x = pS l x.nm (1 + smL l x) := by
            unfold stp
            rw [if_pos c2, q]
          refine w_may kin ?_
          mul_fits
          rw [set_end, pD_enc, ← es]
          exact next (.inr es) _
        | some w =>
          rw [q] at kin
          refine w_may kin ?_
          have kg : gD (encK natD l) (.inr x.nm) = some (natD w) := by rw [gD_enc, q]; rfl
          mul_fits
          refine w_ifd (fun c3 => ?_) fun c3 => ?_
          · have es : stp l x = pS l x.nm (1 + smL l x) := by
              unfold stp
              rw [if_pos c2, q]
              exact if_pos (by omega)
            mul_fits
            rw [set_end, pD_enc, ← es]
            exact next (.inr es) _
          · have es : stp l x = l := by
              unfold stp
              rw [if_pos c2, q]
              exact if_neg (by omega)
            mul_fits
            have := next (.inl es) (some (natD (1 + smL l x)))
            rw [es] at this
            exact this
      · have es : stp l x = l := if_neg (by rw [show inL l x = false from c1]; decide)
        mul_fits
        have := next (.inl es) o4
        rw [es] at this
        exact this
    · rintro ρ S' ⟨l, o3, o4, rfl, rfl, h1, h2, h3⟩
      refine ⟨trivial, ?_⟩
      rw [List.foldl_nil] at h1
      subst h1
      mul_fits
      exact ⟨_, .inl rfl, c + 1, m, _, _, _, none, by omega, rfl, rfl, rfl, by simpa using h2⟩
  · rintro ρ S' ⟨c, m, o2, o3, o4, o5, hcm, hds, rfl, rfl, hlen⟩
    refine ⟨trivial, ?_⟩
    cases m with
    | succ m => exact absurd hds (by simp [rg'_cons])
    | zero =>
    have hc : c = b.nms.length := by omega
    subst hc
    mul_fits
    simp only [b__law_least_3]
    mul_fits
    rw [gc_out (by simp [below])]
    exact w_ok h
end
inductive Tr where
  | nd (n : Nat) (ps : List Tr)
mutual
def Tr.d : Tr → D
  | .nd n ps => .tup [natD n, .tup (Trs.d ps)]
def Trs.d : List Tr → List D
  | [] => []
  | t :: r => t.d :: Trs.d r
end
theorem trs_d : ∀ ps : List Tr, Trs.d ps = ps.map Tr.d
  | [] => rfl
  | t :: r => by rw [Trs.d, trs_d r]; rfl
theorem tr_d (n : Nat) (ps : List Tr) : (Tr.nd n ps).d = .tup [natD n, .tup (ps.map Tr.d)] := by rw [Tr.d, trs_d]
mutual
theorem pd_tr : ∀ t : Tr, Pd t.d
  | .nd n ps => by
    rw [Tr.d]
    exact ⟨trivial, pd_trs ps, trivial⟩
theorem pd_trs : ∀ ps : List Tr, belows 0 (Trs.d ps)
  | [] => trivial
  | t :: r => ⟨pd_tr t, pd_trs r⟩
end
def Tr.num : Tr → Nat
  | .nd n _ => n
def Tr.kids : Tr → List Tr
  | .nd _ ps => ps
mutual
def Tr.pre : Tr → List Tr
  | .nd n ps => .nd n ps :: pres ps
def pres : List Tr → List Tr
  | [] => []
  | t :: r => t.pre ++ pres r
end
theorem pre_eq (t : Tr) : t.pre = t :: pres t.kids := by
  cases t
  rw [Tr.pre]
  rfl
theorem pres_append : ∀ a b : List Tr, pres (a ++ b) = pres a ++ pres b
  | [], b => rfl
  | t :: r, b => by rw [List.cons_append, pres, pres, pres_append r b, List.append_assoc]
abbrev rwD (p : Nat × Nat) : D := .tup [natD p.1, natD p.2]
/-- a row of trees from its nodes in order -/
def par : List (Nat × Nat) → Option (List Tr)
  | [] => some []
  | (n, m) :: r => (par r).bind fun ts => if m ≤ ts.length then some (.nd n (ts.take m) :: ts.drop m) else none
theorem par_pre : ∀ {rows : List (Nat × Nat)} {ts : List Tr}, par rows = some ts → (pres ts).map Tr.num = rows.map (·.1)
  | [], ts, h => by cases h; rfl
  | (n, m) :: r, ts, h => by
    unfold par at h
    obtain ⟨us, h1, h2⟩ := Option.bind_eq_some_iff.mp h
    by_cases c : m ≤ us.length
    · rw [if_pos c] at h2
      cases h2
      rw [pres, Tr.pre, List.cons_append, ← pres_append, List.take_append_drop, List.map_cons, List.map_cons, par_pre h1]
      rfl
    · rw [if_neg c] at h2
      cases h2
mutual
/-- a build of a name -/
def Wf (b : Bk) (nm : Str) : Tr → Prop
  | .nd n ps => ∃ r, b.rls[n]? = some r ∧ r.nm = nm ∧ Wfs b (r.sl.map (·.nm)) ps
def Wfs (b : Bk) : List Str → List Tr → Prop
  | [], [] => True
  | x :: xs, t :: ts => Wf b x t ∧ Wfs b xs ts
  | [], _ :: _ => False
  | _ :: _, [] => False
end
theorem Wfs.len {b : Bk} : ∀ {xs : List Str} {ts : List Tr}, Wfs b xs ts → ts.length = xs.length
  | [], [], _ => rfl
  | _ :: xs, _ :: ts, h => by
    rw [Wfs] at h
    rw [List.length_cons, List.length_cons, Wfs.len h.2]
  | [], _ :: _, h => by simp [Wfs] at h
  | _ :: _, [], h => by simp [Wfs] at h
theorem Wfs.split {b : Bk} : ∀ {xs ys : List Str} {ts : List Tr}, Wfs b (xs ++ ys) ts → Wfs b xs (ts.take xs.length) ∧ Wfs b ys (ts.drop xs.length)
  | [], ys, ts, h => ⟨by simp [Wfs], h⟩
  | x :: xs, ys, [], h => by simp [Wfs] at h
  | x :: xs, ys, t :: ts, h => by
    rw [List.cons_append, Wfs] at h
    obtain ⟨h1, h2⟩ := Wfs.split h.2
    refine ⟨?_, h2⟩
    rw [List.length_cons, List.take_succ_cons, Wfs]
    exact ⟨h.1, h1⟩
mutual
theorem Wf.lt {b : Bk} : ∀ {nm : Str} (t : Tr), Wf b nm t → ∀ x ∈ t.pre, x.num < b.rls.length
  | nm, .nd n ps, h, x, hx => by
    rw [Wf] at h
    obtain ⟨r, h1, h2, h3⟩ := h
    rw [Tr.pre] at hx
    rcases List.mem_cons.mp hx with rfl | hx
    · exact (List.getElem?_eq_some_iff.mp h1).1
    · exact Wfs.lt ps h3 x hx
theorem Wfs.lt {b : Bk} : ∀ {xs : List Str} (ts : List Tr), Wfs b xs ts → ∀ x ∈ pres ts, x.num < b.rls.length
  | _, [], _, x, hx => by simp [pres] at hx
  | [], t :: ts, h, x, hx => by simp [Wfs] at h
  | _ :: _, t :: ts, h, x, hx => by
    rw [Wfs] at h
    rw [pres] at hx
    rcases List.mem_append.mp hx with hx | hx
    · exact Wf.lt t h.1 x hx
    · exact Wfs.lt ts h.2 x hx
end
/-- the numbers of a name's rules -/
def rlsOf (b : Bk) (nm : Str) : List Nat := (List.range b.rls.length).filter fun i => decide ((b.rls[i]?).map (·.nm) = some nm)
theorem mem_rlsOf {b : Bk} {nm : Str} {i : Nat} : i ∈ rlsOf b nm ↔ ∃ r, b.rls[i]? = some r ∧ r.nm = nm := by
  unfold rlsOf
  rw [List.mem_filter, List.mem_range, decide_eq_true_eq, Option.map_eq_some_iff]
  exact ⟨fun h => h.2, fun h => ⟨(List.getElem?_eq_some_iff.mp h.choose_spec.1).1, h⟩⟩
theorem rlsOf_len (b : Bk) (nm : Str) : (rlsOf b nm).length ≤ b.rls.length := by
  have := List.length_filter_le (fun i => decide ((b.rls[i]?).map (·.nm) = some nm)) (List.range b.rls.length)
  rw [List.length_range] at this
  exact this
section
variable {k : Nat} {S : Sto} {Q : D → Sto → Prop}
theorem at_rl {b : Bk} {i : Nat} (h : i < b.rls.length) : atI (b.rls.map Rl.d) (i : Int) = some (b.rls[i]).d := at_map _ _ _ h
theorem rules_w {b : Bk} {nm : Str} (hr : b.rls.length ≤ 1000) (h : Q (.ref S.length) (S ++ [.lst ((rlsOf b nm).map natD)])) : W (orc T (k + 1) n__law_rules [b.d, .str nm] S) Q := by
  refine orc_w (ρ := [some b.d, some (.str nm), none]) rfl rfl rfl ?_
  show W (evSs _ b__law_rules _ _) _
  simp only [b__law_rules]
  mul_fits
  rw [List.length_map]
  have bd : bd62 0 ∧ bd62 (b.rls.length : Int) := by unfold bd62; omega
  mul_fits
  rw [rgD0]
  refine ⟨by rw [List.length_map, List.length_range]; exact le_size (by omega), ?_⟩
  refine loopQ_f natD (fun i => decide ((b.rls[i]?).map (·.nm) = some nm)) natD (fun S' => S' = S) _ (fun i hi S' e => ?_) (fun S' e => ?_) _ rfl
  · subst e
    refine ⟨trivial, ?_⟩
    have hi := List.mem_range.mp hi
    have k1 := at_rl hi
    have e : (b.rls[i]?).map (·.nm) = some (b.rls[i]).nm := by rw [List.getElem?_eq_getElem hi]; rfl
    have e2 : decide ((b.rls[i]?).map (·.nm) = some nm) = decide ((b.rls[i]).nm = nm) := by
      rw [e]
      simp
    mul_fits
    rw [e2]
    refine w_ifd (fun c => ?_) fun c => ?_
    · mul_fits
      exact ⟨by rw [if_pos (decide_eq_true c)], rfl⟩
    · mul_fits
      exact ⟨by rw [if_neg (by simpa using c)], rfl⟩
  · subst e
    refine ⟨trivial, ?_⟩
    mul_fits
    rw [gc_out (by simp [below])]
    exact w_ok h
end
section
variable {k : Nat} {S : Sto} {Q : D → Sto → Prop}
theorem pop_rev {ts : List Tr} {t : Tr} : ((t :: ts).reverse.map Tr.d)[((t :: ts).reverse.map Tr.d).length - 1]? = some t.d ∧ ((t :: ts).reverse.map Tr.d).dropLast = ts.reverse.map Tr.d := by
  rw [List.reverse_cons, List.map_append]
  simp
theorem joined_w {bs : Nat} {rows : List (Nat × Nat)} {t : Tr} (hb : S[bs]? = some (.lst (rows.map rwD))) (hz : rows.length ≤ 50000) (hp : par rows = some [t]) (hm : ∀ p ∈ rows, p.2 ≤ 50000) (h : Q t.d S) : W (orc T (k + 1) n__law_joined [.ref bs] S) Q := by
  refine orc_w (ρ := [some (.ref bs), none, none, none, none, none, none]) rfl rfl rfl ?_
  show W (evSs _ b__law_joined _ _) _
  simp only [b__law_joined]
  have kb : ∀ g : Sto, (S ++ g)[bs]? = some (.lst (rows.map rwD)) := fun g => get_pre hb
  have sb : ∀ g : Sto, sqOf (S ++ g) (.val (.ref bs)) = some (rows.map rwD) := fun g => by simp only [sqOf, lsOf, kb]
  have sb1 := sb [.lst []]
  mul_fits
  rw [List.length_map]
  have bd : bd62 0 ∧ bd62 (rows.length : Int) := by unfold bd62; omega
  mul_fits
  rw [rgD_0]
  refine loopS_w (fun ds ρ S' => ∃ (c m : Nat) (ts : List Tr) (g : Sto) (o2 o3 o4 o5 : Option D), c + m = rows.length ∧ ds = (List.range' c m).map natD ∧ S' = S ++ [.lst (ts.reverse.map Tr.d)] ++ g ∧ ρ = [some (.ref bs), some (.ref S.length), o2, o3, o4, o5, none] ∧ par (rows.drop m) = some ts) ?_ ?_ _ _ _ ⟨0, rows.length, [], [], _, _, _, _, by omega, rfl, by simp, rfl, by rw [List.drop_length]; rfl⟩
  · rintro d ds ρ S' ⟨c, m, ts, g, o2, o3, o4, o5, hcm, hds, rfl, rfl, h1⟩
    refine ⟨trivial, ?_⟩
    cases m with
    | zero => exact absurd hds (by simp)
    | succ m =>
    rw [rg'_cons, List.map_cons, List.cons.injEq] at hds
    obtain ⟨rfl, rfl⟩ := hds
    have hm' : m < rows.length := by omega
    obtain ⟨p, hp1⟩ : ∃ p, rows[m]? = some p := ⟨_, List.getElem?_eq_getElem hm'⟩
    have hpm := hm p (List.mem_of_getElem? hp1)
    have ed : rows.drop m = p :: rows.drop (m + 1) := by
      rw [List.drop_eq_getElem_cons hm']
      congr 1
      exact (List.getElem?_eq_some_iff.mp hp1).2
    have hpar : ∃ us, par (p :: rows.drop (m + 1)) = some us := by
      have key : ∀ (l : List (Nat × Nat)) (r : List (Nat × Nat)), (∃ us, par (l ++ r) = some us) → ∃ us, par r = some us := by
        intro l
        induction l with
        | nil => intro r h; exact h
        | cons x l ih =>
          rintro r ⟨us, hu⟩
          rw [List.cons_append, par] at hu
          obtain ⟨vs, hv, _⟩ := Option.bind_eq_some_iff.mp hu
          exact ih r ⟨vs, hv⟩
      refine key (rows.take m) _ ⟨[t], ?_⟩
      rw [← ed, List.take_append_drop]
      exact hp
    obtain ⟨us, hu⟩ := hpar
    have hu' := hu
    rw [par, h1] at hu
    have hle : p.2 ≤ ts.length := by
      by_cases z : p.2 ≤ ts.length
      · exact z
      · rw [Option.bind_some, if_neg z] at hu
        cases hu
    rw [Option.bind_some, if_pos hle] at hu
    have eus : us = .nd p.1 (ts.take p.2) :: ts.drop p.2 := (Option.some.inj hu).symm
    have sb2 := sb ([.lst (ts.reverse.map Tr.d)] ++ g)
    rw [← List.append_assoc] at sb2
    have kb2 := kb ([.lst (ts.reverse.map Tr.d)] ++ g)
    rw [← List.append_assoc] at kb2
    have ei : ((rows.map rwD).length : Int) - 1 - (c : Int) = (m : Int) := by rw [List.length_map]; omega
    have ka : atI (rows.map rwD) (m : Int) = some (rwD p) := by
      rw [at_map _ _ _ hm']
      congr 1
      rw [(List.getElem?_eq_some_iff.mp hp1).2]
    simp only [b__law_joined_1]
    mul_fits
    rw [ei]
    mul_fits
    have bd2 : bd62 0 ∧ bd62 (p.2 : Int) := by unfold bd62; omega
    mul_fits
    rw [rgD0]
    refine ⟨by rw [List.length_map, List.length_range]; exact le_size (by omega), ?_⟩
    refine loopQ_w (fun ds r S' => ∃ j, ds.length + j = p.2 ∧ r = (ts.take j).map Tr.d ∧ S' = S ++ [.lst ((ts.drop j).reverse.map Tr.d)] ++ g) ?_ ?_ _ _ ⟨0, by simp, by simp, by simp⟩
    · rintro d ds r S' ⟨j, j1, rfl, rfl⟩
      refine ⟨trivial, ?_⟩
      rw [List.length_cons] at j1
      have hj : j < ts.length := by omega
      have ej : ts.drop j = ts[j] :: ts.drop (j + 1) := List.drop_eq_getElem_cons hj
      obtain ⟨q1, q2⟩ := pop_rev (ts := ts.drop (j + 1)) (t := ts[j])
      have kl : (S ++ [.lst ((ts.drop j).reverse.map Tr.d)] ++ g)[S.length]? = some (.lst ((ts.drop j).reverse.map Tr.d)) := get_mid _ _ _
      rw [ej] at kl ⊢
      mul_fits
      refine v_pop kl q1 ?_
      rw [q2, set_mid]
      mul_fits
      refine ⟨j + 1, by omega, ?_, rfl⟩
      rw [List.take_succ_eq_append_getElem hj, List.map_append]
      rfl
    · rintro r S' ⟨j, j1, rfl, rfl⟩
      refine ⟨trivial, ?_⟩
      have hj : j = p.2 := by simpa using j1
      subst hj
      mul_fits
      have kl : ∀ g2, (S ++ [.lst ((ts.drop p.2).reverse.map Tr.d)] ++ g ++ g2)[S.length]? = some (.lst ((ts.drop p.2).reverse.map Tr.d)) := fun g2 => by
        rw [List.append_assoc]
        exact get_mid _ _ _
      have ge := get_end (S ++ [.lst ((ts.drop p.2).reverse.map Tr.d)] ++ g) (.lst ((ts.take p.2).map Tr.d))
      refine w_withL (kl _) ?_
      mul_fits
      have sq : sqOf (S ++ [Ob.lst ((ts.drop p.2).reverse.map Tr.d)] ++ g ++ [Ob.lst ((ts.take p.2).map Tr.d)]) (.val (.ref (S ++ [Ob.lst ((ts.drop p.2).reverse.map Tr.d)] ++ g).length)) = some ((ts.take p.2).map Tr.d) := by simp only [sqOf, lsOf, ge]
      mul_fits
      have tl : ts.length ≤ rows.length := by
        have key : ∀ (l : List (Nat × Nat)) (us : List Tr), par l = some us → us.length ≤ l.length := by
          intro l
          induction l with
          | nil => intro us h; cases h; simp
          | cons x l ih =>
            intro us h
            rw [par] at h
            obtain ⟨vs, hv, h⟩ := Option.bind_eq_some_iff.mp h
            have := ih vs hv
            by_cases z : x.2 ≤ vs.length
            · rw [if_pos z] at h
              cases h
              simp
              omega
            · rw [if_neg z] at h
              cases h
        have := key _ _ h1
        rw [List.length_drop] at this
        omega
      refine v_app (kl _) (Nat.lt_of_lt_of_le (Nat.lt_succ_self _) (by rw [List.length_map, List.length_reverse, List.length_drop]; exact le_size (by omega))) ?_
      rw [List.append_assoc (S ++ _), set_mid]
      mul_fits
      refine ⟨_, .inl rfl, c + 1, m, us, g ++ [Ob.lst ((ts.take p.2).map Tr.d)], _, _, _, _, by omega, rfl, ?_, rfl, ?_⟩
      · rw [eus, List.reverse_cons, List.map_append, List.map_cons, tr_d]
        rfl
      · rw [ed]
        exact hu'
  · rintro ρ S' ⟨c, m, ts, g, o2, o3, o4, o5, hcm, hds, rfl, rfl, h1⟩
    refine ⟨trivial, ?_⟩
    cases m with
    | succ m => exact absurd hds (by simp [rg'_cons])
    | zero =>
    rw [List.drop_zero, hp] at h1
    cases h1
    have kl : (S ++ [.lst (([t] : List Tr).reverse.map Tr.d)] ++ g)[S.length]? = some (.lst [t.d]) := get_mid _ _ _
    mul_fits
    simp only [b__law_joined_2]
    mul_fits
    rw [List.append_assoc, gc_app ((pd_tr t).b _)]
    exact w_ok h
end
def sumL (l : Ls) (w : List Str) : Nat := (w.map fun s => (gS l s).getD 0).sum
theorem sumL_sl (l : Ls) (r : Rl) : sumL l (r.sl.map (·.nm)) = smL l r := by
  unfold sumL smL
  rw [List.map_map]
  rfl
theorem sumL_app (l : Ls) (a b : List Str) : sumL l (a ++ b) = sumL l a + sumL l b := by
  unfold sumL
  rw [List.map_append, List.sum_append]
theorem sumL_len {b : Bk} {l : Ls} (g : GoodL b l) : ∀ {w : List Str}, (∀ s ∈ w, ∃ v, gS l s = some v) → w.length ≤ sumL l w
  | [], _ => Nat.zero_le _
  | s :: w, h => by
    have ih := sumL_len g (w := w) fun x hx => h x (by simp [hx])
    obtain ⟨v, hv⟩ := h s (by simp)
    have := good_pos g hv
    have e : sumL l (s :: w) = v + sumL l w := by
      unfold sumL
      rw [List.map_cons, List.sum_cons, hv]
      rfl
    rw [e, List.length_cons]
    omega
section
variable {k : Nat} {R : Sto} {Q : D → Sto → Prop} {d : DS} {m : Int}
/-- the store of a build that is drawn -/
abbrev bst (d : DS) (A : Sto) (rows : List (Nat × Nat)) (wt : List Str) (g : Sto) : Sto := d.st (A ++ [.lst (rows.map rwD)] ++ ([.lst (wt.reverse.map D.str)] ++ g))
variable {A g : Sto} {rows : List (Nat × Nat)} {wt : List Str}
theorem bst_r : (bst d A rows wt g)[A.length + 2]? = some (.lst (rows.map rwD)) := st_mid
theorem bst_w : (bst d A rows wt g)[A.length + 1 + 2]? = some (.lst (wt.reverse.map D.str)) := by
  show (d.st _)[_]? = _
  rw [st_get, ← List.append_assoc, show A.length + 1 = (A ++ [Ob.lst (rows.map rwD)]).length by simp]
  exact get_mid _ _ _
theorem bst_sr {l : List D} {rows' : List (Nat × Nat)} (h : l = rows'.map rwD) : (bst d A rows wt g).set (A.length + 2) (.lst l) = bst d A rows' wt g := by
  subst h
  exact st_set_mid
theorem bst_sw {l : List D} {wt' : List Str} (h : l = wt'.reverse.map D.str) : (bst d A rows wt g).set (A.length + 1 + 2) (.lst l) = bst d A rows wt' g := by
  subst h
  show (d.st _).set _ _ = d.st _
  rw [← List.append_assoc, show A.length + 1 = (A ++ [Ob.lst (rows.map rwD)]).length by simp, st_set_mid, List.append_assoc]
theorem bst_d {a : Nat} {o : Ob} (h : A[a]? = some o) : (bst d A rows wt g)[a + 2]? = some o := by
  show (d.st _)[_]? = _
  rw [st_get, List.append_assoc]
  exact get_pre h
theorem bst_app {g2 : Sto} : bst d A rows wt g ++ g2 = bst d A rows wt (g ++ g2) := by
  show d.st _ ++ g2 = d.st _
  rw [st_app]
  simp
theorem bst_g {i : Nat} {o : Ob} (h : g[i]? = some o) : (bst d A rows wt g)[A.length + 2 + i + 2]? = some o := by
  show (d.st _)[_]? = _
  rw [st_get, ← List.append_assoc, List.getElem?_append_right (by simp)]
  rw [← h]
  congr 1
  simp
theorem bst_len : (bst d A rows wt g).length = A.length + 2 + g.length + 2 := by
  show (d.st _).length = _
  rw [st_len]
  simp
  omega
/-- what is open at a name -/
abbrev opD (p : Int × Nat) : D := .tup [.int p.1, natD p.2]
theorem build_w {b : Bk} {nm : Str} {most : Nat} (hz : b.nms.length ≤ 70) (hr : b.rls.length ≤ 900) (hs : ∀ r ∈ b.rls, r.sl.length ≤ 3) (hL : ∀ v, gS (lstB b) nm = some v → v ≤ 1000) (hmost : most ≤ 1000) (h0 : gS (lstB b) nm = none → ∀ d' : DS, Q .non (d'.st R))
    (h : ∀ (t : Tr) (d' : DS), Wf b nm t → (∃ v, gS (lstB b) nm = some v ∧ t.pre.length ≤ max v most) → Q t.d (d'.st R)) : W (orc T (k + 3) n__law_build [.ref 1, b.d, .str nm, natD most] (d.st R)) Q := by
  refine orc_w (ρ := [some (.ref 1), some b.d, some (.str nm), some (natD most), none, none, none, none, none, none, none, none, none, none, none, none]) rfl rfl rfl ?_
  show W (evSs _ b__law_build _ _) _
  simp only [b__law_build]
  mul_fits
  refine least_w hz (by omega) hs ?_
  simp only [st_len, st_app]
  have kd : ∀ (d : DS) (g : Sto), (d.st (R ++ [.dic (encK natD (lstB b))] ++ g))[R.length + 2]? = some (.dic (encK natD (lstB b))) := fun d g => st_mid
  have kd0 : (d.st (R ++ [.dic (encK natD (lstB b))]))[R.length + 2]? = some (.dic (encK natD (lstB b))) := by
    have := kd d []
    rwa [List.append_nil] at this
  have gd := lstB_good b
  generalize hL0 : lstB b = L at *
  mul_fits
  have kin : inD (.str nm) (.val (.ref (R.length + 2))) (d.st (R ++ [Ob.dic (encK natD L)])) = some (gS L nm).isSome := in_enc kd0
  refine w_may kin ?_
  cases hv : gS L nm with
  | none =>
    mul_fits
    refine gc_st2 trivial (h0 hv d)
  | some v =>
  have hv1 := hL v hv
  mul_fits
  simp only [b__law_build_1]
  have kg : gD (encK natD L) (.inr nm) = some (natD v) := by rw [gD_enc, hv]; rfl
  mul_fits
  simp only [st_len, st_app]
  generalize hA : R ++ [Ob.dic (encK natD L)] = A at *
  have kA : A[R.length]? = some (.dic (encK natD L)) := by rw [← hA]; exact get_end _ _
  have hAl : A.length = R.length + 1 := by rw [← hA]; simp
  have spare0 : (if (most : Int) - (v : Int) > 0 then (most : Int) - (v : Int) else 0) = ((max v most - v : Nat) : Int) := by
    split <;> omega
  rw [spare0]
  have e0 : d.st (A ++ [Ob.lst []] ++ [Ob.lst [D.str nm]]) = bst d A [] [nm] [] := rfl
  have e1 : (A ++ [Ob.lst []]).length + 2 = A.length + 1 + 2 := by simp
  rw [e0, e1]
  mul_fits
  rw [show rgD 0 4000 = (List.range 4000).map natD from rgD0 4000]
  refine loopS_re natD (fun r ρ S => ∃ (rows : List (Nat × Nat)) (wt : List Str) (g : Sto) (sp : Nat) (o8 o9 o10 o11 o12 o13 o14 : Option D) (d' : DS), S = bst d' A rows wt g ∧ ρ = [some (.ref 1), some b.d, some (.str nm), some (natD most), some (.ref (R.length + 2)), some (natD sp), some (.ref (A.length + 2)), some (.ref (A.length + 1 + 2)), o8, o9, o10, o11, o12, o13, o14, none] ∧ rows.length + r.length = 4000 ∧ (∀ s ∈ wt, ∃ v, gS L s = some v) ∧ rows.length + sumL L wt + sp = max v most ∧ (∀ rows' ts, par rows' = some ts → Wfs b wt ts → ∃ t, par (rows ++ rows') = some [t] ∧ Wf b nm t) ∧ (∀ p ∈ rows, p.2 ≤ 3)) ?_ ?_ _ _ _ ⟨[], [nm], [], max v most - v, _, _, _, _, _, _, _, d, rfl, rfl, by simp, ?_, ?_, ?_, by simp⟩
  rotate_left
  · rintro ρ S ⟨rows, wt, g, sp, o8, o9, o10, o11, o12, o13, o14, d', rfl, rfl, i1, i2, i3, i4, i5⟩
    exfalso
    simp at i1
    omega
  · intro s hs
    simp at hs
    subst hs
    exact ⟨v, hv⟩
  · have : sumL L [nm] = v := by simp [sumL, hv]
    rw [this]
    simp
    omega
  · intro rows' ts h1 h2
    match ts, h2 with
    | [t], h2 =>
      rw [Wfs] at h2
      exact ⟨t, h1, h2.1⟩
    | [], h2 => simp [Wfs] at h2
    | _ :: _ :: _, h2 => simp [Wfs] at h2
  rintro q r ρ S ⟨rows, wt, g, sp, o8, o9, o10, o11, o12, o13, o14, d', rfl, rfl, i1, i2, i3, i4, i5⟩
  refine ⟨trivial, ?_⟩
  rw [List.length_cons] at i1
  have sqw : sqOf (bst d' A rows wt g) (.val (.ref (A.length + 1 + 2))) = some (wt.reverse.map D.str) := by simp only [sqOf, lsOf, bst_w]
  have wl := sumL_len gd i2
  simp only [b__law_build_2]
  mul_fits
  cases wt with
  | nil =>
    refine w_ifd (fun c => ?_) fun c => (c (by simp)).elim
    obtain ⟨t, ht, hw⟩ := i4 [] [] rfl (by simp [Wfs])
    rw [List.append_nil] at ht
    mul_fits
    refine joined_w bst_r (by omega) ht (fun p hp => by have := i5 p hp; omega) ?_
    mul_fits
    have e : bst d' A rows [] g = d'.st (R ++ ([Ob.dic (encK natD L)] ++ ([.lst (rows.map rwD)] ++ ([.lst (([] : List Str).reverse.map D.str)] ++ g)))) := by
      show d'.st _ = d'.st _
      rw [← hA]
      simp
    rw [e]
    refine gc_st2 ((pd_tr t).b _) (h t d' hw ⟨v, hv, ?_⟩)
    have := congrArg List.length (par_pre ht)
    rw [List.length_map, List.length_map] at this
    rw [show t.pre = pres [t] by simp [pres], this]
    omega
  | cons due w =>
  refine w_ifd (fun c => ?_) fun c => ?_
  · exfalso
    simp at c
    omega
  mul_fits
  simp only [b__law_build_3]
  obtain ⟨lv, hlv⟩ := i2 due (by simp)
  have i2' : ∀ s ∈ w, ∃ v, gS L s = some v := fun s hs => i2 s (by simp [hs])
  have es : sumL L (due :: w) = lv + sumL L w := by
    unfold sumL
    rw [List.map_cons, List.sum_cons, hlv]
    rfl
  have pw : ((due :: w).reverse.map D.str)[((due :: w).reverse.map D.str).length - 1]? = some (.str due) ∧ ((due :: w).reverse.map D.str).dropLast = w.reverse.map D.str := by
    rw [List.reverse_cons, List.map_append]
    simp
  mul_fits
  refine v_pop bst_w pw.1 ?_
  rw [bst_sw (wt' := w) pw.2]
  mul_fits
  rw [bst_app, bst_len]
  refine rules_w (by omega) ?_
  rw [bst_app, bst_len]
  have eg : g ++ [Ob.lst []] ++ [Ob.lst ((rlsOf b due).map natD)] = g ++ [Ob.lst (([] : List (Int × Nat)).map opD)] ++ [Ob.lst ((rlsOf b due).map natD)] := rfl
  rw [eg]
  have gr : ∀ op : List (Int × Nat), (g ++ [Ob.lst (op.map opD)] ++ [Ob.lst ((rlsOf b due).map natD)])[(g ++ [Ob.lst []]).length]? = some (.lst ((rlsOf b due).map natD)) := fun op => by
    rw [show (g ++ [Ob.lst []]).length = (g ++ [Ob.lst (op.map opD)]).length by simp]
    exact get_end _ _
  have go : ∀ op : List (Int × Nat), (g ++ [Ob.lst (op.map opD)] ++ [Ob.lst ((rlsOf b due).map natD)])[g.length]? = some (.lst (op.map opD)) := fun op => get_mid _ _ _
  generalize hi2 : (g ++ [Ob.lst []]).length = j2 at gr ⊢
  have kr : ∀ (d : DS) (op : List (Int × Nat)), (bst d A rows w (g ++ [Ob.lst (op.map opD)] ++ [Ob.lst ((rlsOf b due).map natD)]))[A.length + 2 + j2 + 2]? = some (.lst ((rlsOf b due).map natD)) := fun d op => bst_g (gr op)
  have ko : ∀ (d : DS) (op : List (Int × Nat)), (bst d A rows w (g ++ [Ob.lst (op.map opD)] ++ [Ob.lst ((rlsOf b due).map natD)]))[A.length + 2 + g.length + 2]? = some (.lst (op.map opD)) := fun d op => bst_g (go op)
  have itr : itOf (.val (.ref (A.length + 2 + j2 + 2))) (bst d' A rows w (g ++ [Ob.lst (([] : List (Int × Nat)).map opD)] ++ [Ob.lst ((rlsOf b due).map natD)])) = some ⟨(rlsOf b due).map natD, some (A.length + 2 + j2 + 2)⟩ := by
    simp only [itOf, sqOf, lsOf, kr, Option.map_some]
  obtain ⟨r0, hr0, hn0, hin0, hle0⟩ := gd due lv hlv
  obtain ⟨n0, hn0'⟩ := List.mem_iff_getElem?.mp hr0
  have hmem0 : n0 ∈ rlsOf b due := mem_rlsOf.mpr ⟨r0, hn0', hn0⟩
  have rll := rlsOf_len b due
  mul_fits
  refine w_may itr ?_
  mul_fits
  refine loopS_e natD (fun rest ρ S => ∃ (op : List (Int × Nat)) (o11 o12 o13 : Option D), S = bst d' A rows w (g ++ [Ob.lst (op.map opD)] ++ [Ob.lst ((rlsOf b due).map natD)]) ∧ ρ = [some (.ref 1), some b.d, some (.str nm), some (natD most), some (.ref (R.length + 2)), some (natD sp), some (.ref (A.length + 2)), some (.ref (A.length + 1 + 2)), some (natD q), some (.str due), some (.ref (A.length + 2 + g.length + 2)), o11, o12, o13, o14, none] ∧ op.length + rest.length ≤ (rlsOf b due).length ∧ (∀ n ∈ rest, n ∈ rlsOf b due) ∧ (n0 ∈ rest ∨ op ≠ []) ∧ (∀ x ∈ op, ∃ r, b.rls[x.2]? = some r ∧ r.nm = due ∧ inL L r = true ∧ x.1 = 1 + (smL L r : Int) - (lv : Int) ∧ x.1 ≤ (sp : Int))) ?_ ?_ (rlsOf b due) _ _ ⟨[], o11, o12, o13, rfl, rfl, by simp, fun n hn => hn, .inl hmem0, by simp⟩
  · rintro n rest ρ S ⟨op, o11, o12, o13, rfl, rfl, p1, p2, p3, p4⟩
    refine ⟨kr _ _, ?_⟩
    rw [List.length_cons] at p1
    obtain ⟨rr, hrr, hrn⟩ := mem_rlsOf.mp (p2 n (by simp))
    have hn : n < b.rls.length := (List.getElem?_eq_some_iff.mp hrr).1
    have hrr2 : b.rls[n] = rr := (List.getElem?_eq_some_iff.mp hrr).2
    have hsl := hs rr (List.mem_of_getElem? hrr)
    have k1 := at_rl hn
    rw [hrr2] at k1
    have kdd : ∀ (d : DS) (op : List (Int × Nat)), (bst d A rows w (g ++ [Ob.lst (op.map opD)] ++ [Ob.lst ((rlsOf b due).map natD)]))[R.length + 2]? = some (.dic (encK natD L)) := fun d op => bst_d kA
    have kdx := kdd d' op
    have kox := ko d' op
    have hit : ∀ o13 : Option D, evE (orc T (k + 2)) (CE.var 12) [some (.ref 1), some b.d, some (.str nm), some (natD most), some (.ref (R.length + 2)), some (natD sp), some (.ref (A.length + 2)), some (.ref (A.length + 1 + 2)), some (natD q), some (.str due), some (.ref (A.length + 2 + g.length + 2)), some (natD n), some (.tup (rr.sl.map Sl.d)), o13, o14, none] (bst d' A rows w (g ++ [Ob.lst (op.map opD)] ++ [Ob.lst ((rlsOf b due).map natD)])) = .ok (.tup (rr.sl.map Sl.d)) (bst d' A rows w (g ++ [Ob.lst (op.map opD)] ++ [Ob.lst ((rlsOf b due).map natD)])) := fun o13 => by
      rw [evE]
      rfl
    simp only [b__law_build_4]
    refine w_may rfl ?_
    refine w_scons (w_set (W_mono (Q := fun x S' => x = .tup (rr.sl.map Sl.d) ∧ S' = bst d' A rows w (g ++ [Ob.lst (op.map opD)] ++ [Ob.lst ((rlsOf b due).map natD)])) ?_ ?_))
    · mul_fits
      exact ⟨rfl, rfl⟩
    rintro _ _ ⟨rfl, rfl⟩
    refine w_nx (w_scons (w_ite (w_tv (known_w (l := L) (sl := rr.sl) rfl rfl (by simp) (by decide) (by omega) kdx ?_ (hit _)))))
    refine w_tru_b (w_ok (w_if (fun c1 => ?_) fun c1 => ?_))
    · have c2 : inL L rr = true := c1
      refine w_scons (w_set (w_bin (w_bin (w_lit (known_sum (l := L) (sl := rr.sl) rfl rfl (by simp) (by decide) (by omega) kdx (inL_iff.mp c2) ?_ (hit _))))))
      have kgd : gD (encK natD L) (.inr due) = some (natD lv) := by rw [gD_enc, hlv]; rfl
      have esm : (((rr.sl.map fun s => (gS L s.nm).getD 0).sum : Nat) : Int) = (smL L rr : Int) := rfl
      rw [show natD (rr.sl.map fun s => (gS L s.nm).getD 0).sum = natD (smL L rr) from rfl]
      mul_fits
      refine w_ifd (fun c3 => ?_) fun c3 => ?_
      · mul_fits
        refine v_app kox (Nat.lt_of_lt_of_le (Nat.lt_succ_self _) (by rw [List.length_map]; exact le_size (by omega))) ?_
        have sset : (bst d' A rows w (g ++ [Ob.lst (op.map opD)] ++ [Ob.lst ((rlsOf b due).map natD)])).set (A.length + 2 + g.length + 2) (.lst (op.map opD ++ [.tup [.int (1 + (smL L rr : Int) - (lv : Int)), natD n]])) = bst d' A rows w (g ++ [Ob.lst ((op ++ [(1 + (smL L rr : Int) - (lv : Int), n)]).map opD)] ++ [Ob.lst ((rlsOf b due).map natD)]) := by
          have e3 : ∀ x : List D, bst d' A rows w (g ++ [Ob.lst x] ++ [Ob.lst ((rlsOf b due).map natD)]) = d'.st ((A ++ [.lst (rows.map rwD)] ++ ([.lst (w.reverse.map D.str)] ++ g)) ++ [Ob.lst x] ++ [Ob.lst ((rlsOf b due).map natD)]) := fun x => by
            show d'.st _ = d'.st _
            simp
          rw [e3, e3, show A.length + 2 + g.length = (A ++ [Ob.lst (rows.map rwD)] ++ ([Ob.lst (w.reverse.map D.str)] ++ g)).length by simp; omega, st_set_mid, List.map_append]
          rfl
        rw [sset]
        mul_fits
        refine ⟨_, .inl rfl, op ++ [(1 + (smL L rr : Int) - (lv : Int), n)], _, _, _, rfl, rfl, by simp; omega, fun x hx => p2 x (by simp [hx]), .inr (by simp), fun x hx => ?_⟩
        rcases List.mem_append.mp hx with hx | hx
        · exact p4 x hx
        · simp at hx
          subst hx
          exact ⟨rr, hrr, hrn, c2, rfl, c3⟩
      · mul_fits
        refine ⟨_, .inl rfl, op, _, _, _, rfl, rfl, by omega, fun x hx => p2 x (by simp [hx]), ?_, p4⟩
        rcases p3 with p3 | p3
        · rcases List.mem_cons.mp p3 with e | p3
          · exfalso
            rw [e, hrr] at hn0'
            cases hn0'
            omega
          · exact .inl p3
        · exact .inr p3
    · mul_fits
      refine ⟨_, .inl rfl, op, _, _, _, rfl, rfl, by omega, fun x hx => p2 x (by simp [hx]), ?_, p4⟩
      rcases p3 with p3 | p3
      · rcases List.mem_cons.mp p3 with e | p3
        · exfalso
          rw [e, hrr] at hn0'
          have e9 : rr = r0 := Option.some.inj hn0'
          have : inL L rr = false := c1
          rw [e9, hin0] at this
          cases this
        · exact .inl p3
      · exact .inr p3
  rintro ρ S ⟨op, o11, o12, o13, rfl, rfl, p1, p2, p3, p4⟩
  refine ⟨kr _ _, ?_⟩
  have p3 : op ≠ [] := p3.resolve_left (by simp)
  have opl : 0 < op.length := List.length_pos_iff.mpr p3
  have p1 : op.length ≤ (rlsOf b due).length := by simpa using p1
  mul_fits
  simp only [b__law_build_5]
  mul_fits
  have hrow : (A ++ [.lst (rows.map rwD)] ++ ([.lst (w.reverse.map D.str)] ++ (g ++ [Ob.lst (op.map opD)] ++ [Ob.lst ((rlsOf b due).map natD)])))[A.length + 2 + g.length]? = some (.lst (op.map opD)) := ko d' op
  refine pick_w (row := op.map opD) (by rw [List.length_map]; exact opl) (by rw [List.length_map]; omega) hrow fun x hx d2 => ?_
  obtain ⟨⟨mo, n⟩, hop, rfl⟩ := List.mem_map.mp hx
  obtain ⟨rr, hrr, hrn, hin, hmo, hsp⟩ := p4 _ hop
  simp only at hrr hmo hsp
  have hn : n < b.rls.length := (List.getElem?_eq_some_iff.mp hrr).1
  have hrr2 : b.rls[n] = rr := (List.getElem?_eq_some_iff.mp hrr).2
  have hsl := hs rr (List.mem_of_getElem? hrr)
  have k1 := at_rl hn
  rw [hrr2] at k1
  generalize g ++ [Ob.lst (op.map opD)] ++ [Ob.lst ((rlsOf b due).map natD)] = g2
  have kr2 : (d2.st (A ++ [.lst (rows.map rwD)] ++ ([.lst (w.reverse.map D.str)] ++ g2)))[A.length + 2]? = some (.lst (rows.map rwD)) := bst_r
  mul_fits
  refine v_app kr2 (Nat.lt_of_lt_of_le (Nat.lt_succ_self _) (by rw [List.length_map]; exact le_size (by omega))) ?_
  rw [show (d2.st (A ++ [.lst (rows.map rwD)] ++ ([.lst (w.reverse.map D.str)] ++ g2))) = bst d2 A rows w g2 from rfl, bst_sr (rows' := rows ++ [(n, rr.sl.length)]) (by rw [List.map_append, List.length_map]; rfl)]
  have bd2 : bd62 0 ∧ bd62 ((rr.sl.map Sl.d).length : Int) := by rw [List.length_map]; unfold bd62; omega
  mul_fits
  rw [rgD_0, List.length_map]
  have spn : ∃ sp' : Nat, (sp : Int) - mo = (sp' : Int) := Int.eq_ofNat_of_zero_le (by omega)
  obtain ⟨sp', esp⟩ := spn
  rw [esp]
  have hmo2 : (sp' : Int) = (sp : Int) - (1 + (smL L rr : Int) - (lv : Int)) := by rw [← hmo]; exact esp.symm
  have nl : (rr.sl.map (·.nm)).length = rr.sl.length := List.length_map _
  have ns_in : ∀ s ∈ rr.sl.map (·.nm), ∃ v, gS L s = some v := fun s hs => by
    obtain ⟨x, hx, rfl⟩ := List.mem_map.mp hs
    exact inL_iff.mp hin x hx
  refine loopS_w (fun ds ρ S' => ∃ (c m : Nat) (o14 : Option D), c + m = rr.sl.length ∧ ds = (List.range' c m).map natD ∧ S' = bst d2 A (rows ++ [(n, rr.sl.length)]) (((rr.sl.map (·.nm)).reverse.take c).reverse ++ w) g2 ∧ ρ = [some (.ref 1), some b.d, some (.str nm), some (natD most), some (.ref (R.length + 2)), some (natD sp'), some (.ref (A.length + 2)), some (.ref (A.length + 1 + 2)), some (natD q), some (.str due), some (.ref (A.length + 2 + g.length + 2)), some (natD n), some (.tup (rr.sl.map Sl.d)), some (.int mo), o14, none]) ?_ ?_ _ _ _ ⟨0, rr.sl.length, o14, by omega, rfl, by simp, rfl⟩
  · rintro e ds ρ S' ⟨c, m, o14, hcm, hds, rfl, rfl⟩
    refine ⟨trivial, ?_⟩
    cases m with
    | zero => exact absurd hds (by simp)
    | succ m =>
    rw [rg'_cons, List.map_cons, List.cons.injEq] at hds
    obtain ⟨rfl, rfl⟩ := hds
    have hm' : m < rr.sl.length := by omega
    have ei : ((rr.sl.map Sl.d).length : Int) - 1 - (c : Int) = (m : Int) := by rw [List.length_map]; omega
    have ka : atI (rr.sl.map Sl.d) (m : Int) = some (rr.sl[m]).d := at_map _ _ _ hm'
    have kw := bst_w (d := d2) (A := A) (rows := rows ++ [(n, rr.sl.length)]) (wt := ((rr.sl.map (·.nm)).reverse.take c).reverse ++ w) (g := g2)
    simp only [b__law_build_6]
    mul_fits
    rw [ei]
    mul_fits
    have wl2 : w.length + 1 ≤ max v most := by
      rw [List.length_cons] at wl
      omega
    refine v_app kw (Nat.lt_of_lt_of_le (Nat.lt_succ_self _) (by
      rw [List.length_map, List.length_reverse, List.length_append, List.length_reverse, List.length_take]
      exact le_size (by omega))) ?_
    rw [bst_sw (wt' := ((rr.sl.map (·.nm)).reverse.take (c + 1)).reverse ++ w) (by
      have e5 : (rr.sl.map (·.nm)).reverse.take (c + 1) = (rr.sl.map (·.nm)).reverse.take c ++ [(rr.sl[m]).nm] := by
        have hc : c < (rr.sl.map (·.nm)).reverse.length := by rw [List.length_reverse, nl]; omega
        rw [List.take_succ_eq_append_getElem hc, List.getElem_reverse, List.getElem_map]
        congr 4
        rw [nl]
        omega
      rw [e5]
      simp)]
    mul_fits
    exact ⟨_, .inl rfl, c + 1, m, _, by omega, rfl, rfl, rfl⟩
  rintro ρ S' ⟨c, m, o14, hcm, hds, rfl, rfl⟩
  refine ⟨trivial, ?_⟩
  cases m with
  | succ m => exact absurd hds (by simp [rg'_cons])
  | zero =>
  have hc : c = (rr.sl.map (·.nm)).reverse.length := by rw [List.length_reverse, nl]; omega
  rw [hc, List.take_length, List.reverse_reverse]
  mul_fits
  refine ⟨rows ++ [(n, rr.sl.length)], rr.sl.map (·.nm) ++ w, g2, sp', _, _, _, _, _, _, _, d2, rfl, rfl, by simp; omega, fun s hs => ?_, ?_, fun rows' ts h1 h2 => ?_, fun p hp => ?_⟩
  · rcases List.mem_append.mp hs with hs | hs
    · exact ns_in s hs
    · exact i2' s hs
  · rw [sumL_app, sumL_sl, List.length_append]
    rw [es] at i3
    simp
    omega
  · obtain ⟨q1, q2⟩ := Wfs.split h2
    rw [nl] at q1 q2
    have hlen := h2.len
    have hle : rr.sl.length ≤ ts.length := by
      rw [hlen, List.length_append, nl]
      omega
    have hp : par ((n, rr.sl.length) :: rows') = some (.nd n (ts.take rr.sl.length) :: ts.drop rr.sl.length) := by
      rw [par, h1, Option.bind_some, if_pos hle]
    obtain ⟨t, t1, t2⟩ := i4 _ _ hp (by
      rw [Wfs]
      refine ⟨?_, q2⟩
      rw [Wf]
      exact ⟨rr, hrr, hrn, q1⟩)
    exact ⟨t, by rw [List.append_assoc]; exact t1, t2⟩
  · rcases List.mem_append.mp hp with hp | hp
    · exact i5 p hp
    · simp at hp
      subst hp
      exact hsl
end
def wOf (ws : List Nat) (i : Nat) : Nat := ws.getD i 0
structure WsOk (b : Bk) (ws : List Nat) : Prop where
  len : ws.length = b.rls.length
  lo : ∀ w ∈ ws, 1 ≤ w
  hi : ∀ w ∈ ws, w ≤ 300
theorem WsOk.at {b : Bk} {ws : List Nat} (o : WsOk b ws) {i : Nat} (h : i < b.rls.length) : atI (ws.map natD) (i : Int) = some (natD (wOf ws i)) ∧ 1 ≤ wOf ws i ∧ wOf ws i ≤ 300 := by
  have h' : i < ws.length := by rw [o.len]; exact h
  have e : wOf ws i = ws[i] := by simp [wOf, List.getD, h']
  rw [e]
  exact ⟨at_map _ _ _ h', o.lo _ (List.getElem_mem h'), o.hi _ (List.getElem_mem h')⟩
section
variable {k : Nat} {S : Sto} {Q : D → Sto → Prop} {b : Bk} {ws : List Nat}
theorem arity_in_w {l : List (Str × Nat)} {nm : Str} (hin : nm ∈ l.map (·.1)) (h : ∀ a : Nat, (nm, a) ∈ l → Q (natD a) S) : W (orc T (k + 1) n_arity_in [.tup (l.map prD), .str nm] S) Q := by
  refine orc_w (ρ := [some (.tup (l.map prD)), some (.str nm), none, none]) rfl rfl rfl ?_
  show W (evSs _ b_arity_in _ _) _
  simp only [b_arity_in]
  mul_fits
  refine loopS_re prD (fun r ρ S' => ∃ o2 o3 : Option D, S' = S ∧ ρ = [some (.tup (l.map prD)), some (.str nm), o2, o3] ∧ nm ∈ r.map (·.1) ∧ ∀ p ∈ r, p ∈ l) ?_ ?_ l _ _ ⟨_, _, rfl, rfl, hin, fun p hp => hp⟩
  · rintro p r ρ S' ⟨o2, o3, rfl, rfl, h1, h2⟩
    refine ⟨trivial, ?_⟩
    simp only [b_arity_in_1]
    mul_fits
    refine w_ifd (fun c => ?_) fun c => ?_
    · mul_fits
      refine h _ ?_
      rw [← c]
      exact h2 p (by simp)
    · mul_fits
      refine ⟨_, _, rfl, rfl, ?_, fun q hq => h2 q (by simp [hq])⟩
      rcases List.mem_cons.mp h1 with e | h1
      · exact absurd e.symm c
      · exact h1
  · rintro ρ S' ⟨o2, o3, rfl, rfl, h1, h2⟩
    simp at h1
theorem arity_of_w {nm : Str} (hin : nm ∈ b.nms.map (·.1)) (h : ∀ a : Nat, (nm, a) ∈ b.nms → Q (natD a) S) : W (orc T (k + 2) n_arity_of [b.d, .str nm] S) Q := by
  refine orc_w (ρ := [some b.d, some (.str nm), none]) rfl rfl rfl ?_
  show W (evSs _ b_arity_of _ _) _
  simp only [b_arity_of]
  mul_fits
  refine arity_in_w hin fun a ha => ?_
  mul_fits
  simp only [b_arity_of_1]
  mul_fits
  exact h a ha
end
inductive Gt where
  | nd (x : D) (ks : List Gt)
def Gt.d : Gt → D
  | .nd x _ => x
def Gt.kids : Gt → List Gt
  | .nd _ ks => ks
mutual
def Gt.pre : Gt → List Gt
  | .nd n ps => .nd n ps :: gpres ps
def gpres : List Gt → List Gt
  | [] => []
  | t :: r => t.pre ++ gpres r
end
theorem gpre_eq (t : Gt) : t.pre = t :: gpres t.kids := by
  cases t
  rw [Gt.pre]
  rfl
def gstarts : Nat → List Gt → List Nat
  | _, [] => []
  | s, t :: r => s :: gstarts (s + t.pre.length) r
theorem gstarts_len : ∀ (s : Nat) (ps : List Gt), (gstarts s ps).length = ps.length
  | _, [] => rfl
  | s, t :: r => by rw [gstarts, List.length_cons, List.length_cons, gstarts_len]
/-- where those that wait will stand -/
def gpend (i : Nat) : Nat → List (Gt × Int) → List Nat
  | _, [] => []
  | s, (t, a) :: w => (if a = (i : Int) then [s] else []) ++ gpend i (s + t.pre.length) w
theorem gpend_none {i : Nat} : ∀ {s : Nat} {w : List (Gt × Int)}, (∀ p ∈ w, p.2 ≠ (i : Int)) → gpend i s w = []
  | _, [], _ => rfl
  | s, (t, a) :: w, h => by
    rw [gpend, if_neg (h (t, a) (by simp)), gpend_none fun p hp => h p (by simp [hp])]
    rfl
theorem gpend_kids {i : Nat} : ∀ (s : Nat) (ps : List Gt) (w : List (Gt × Int)), gpend i s (ps.map (fun y => (y, (i : Int))) ++ w) = gstarts s ps ++ gpend i (s + (gpres ps).length) w
  | s, [], w => by simp [gstarts, gpres]
  | s, t :: r, w => by
    rw [List.map_cons, List.cons_append, gpend, if_pos rfl, gpend_kids _ r w, gstarts, gpres, List.length_append]
    simp [Nat.add_assoc]
theorem gpend_other {i j : Nat} (h : j ≠ i) : ∀ (s : Nat) (ps : List Gt) (w : List (Gt × Int)), gpend i s (ps.map (fun y => (y, (j : Int))) ++ w) = gpend i (s + (gpres ps).length) w
  | s, [], w => by simp [gpres]
  | s, t :: r, w => by
    rw [List.map_cons, List.cons_append, gpend, if_neg (by omega), gpend_other h _ r w, gpres, List.length_append]
    simp [Nat.add_assoc]
abbrev gwpre (w : List (Gt × Int)) : List Gt := w.flatMap fun p => p.1.pre
theorem gwpre_kids (a : Int) : ∀ ps : List Gt, gwpre (ps.map fun y => (y, a)) = gpres ps
  | [] => rfl
  | t :: r => by
    rw [List.map_cons, gpres]
    show List.flatMap _ _ = _
    rw [List.flatMap_cons]
    congr 1
    exact gwpre_kids a r
structure GFS (t : Gt) (ns : List Gt) (js : List Nat) (cs : List (List Nat)) (wt : List (Gt × Int)) (g : Sto) : Prop where
  jl : js.length = ns.length
  cl : cs.length = ns.length
  inc : js.Pairwise (· < ·)
  jlt : ∀ j ∈ js, j < g.length
  cell : ∀ (i j : Nat) (c : List Nat), js[i]? = some j → cs[i]? = some c → g[j]? = some (.lst (c.map natD))
  ab : ∀ p ∈ wt, p.2 = -1 ∨ ∃ a : Nat, p.2 = (a : Int) ∧ a < ns.length
  pre : ns ++ gwpre wt = t.pre
  fin : ∀ (i : Nat) (x : Gt) (c : List Nat), ns[i]? = some x → cs[i]? = some c → c ++ gpend i ns.length wt = gstarts (i + 1) x.kids
theorem GFS.start (t : Gt) : GFS t [] [] [] [(t, -1)] [] := ⟨rfl, rfl, .nil, by simp, fun _ _ _ h => by simp at h, fun p hp => by simp at hp; subst hp; exact .inl rfl, by simp [gwpre], fun _ _ _ h => by simp at h⟩
theorem GFS.len {t : Gt} {ns : List Gt} {js : List Nat} {cs : List (List Nat)} {x : Gt} {a : Int} {w : List (Gt × Int)} {g : Sto} (h : GFS t ns js cs ((x, a) :: w) g) : ns.length < t.pre.length := by
  have := congrArg List.length h.pre
  rw [List.length_append] at this
  have e : gwpre ((x, a) :: w) = x.pre ++ gwpre w := rfl
  rw [e, gpre_eq, List.length_append, List.length_cons] at this
  omega
theorem GFS.mem {t : Gt} {ns : List Gt} {js : List Nat} {cs : List (List Nat)} {x : Gt} {a : Int} {w : List (Gt × Int)} {g : Sto} (h : GFS t ns js cs ((x, a) :: w) g) : x ∈ t.pre := by
  rw [← h.pre]
  have e : gwpre ((x, a) :: w) = x.pre ++ gwpre w := rfl
  rw [e, gpre_eq]
  simp
/-- a node goes from those that wait to those that are told -/
theorem GFS.go {t : Gt} {ns : List Gt} {js : List Nat} {cs cs' : List (List Nat)} {x : Gt} {a : Int} {w : List (Gt × Int)} {g g' : Sto} (h : GFS t ns js cs ((x, a) :: w) g) (g2 : Sto) (hl : g'.length = g.length) (hcl : cs'.length = cs.length)
    (hcell : ∀ (i j : Nat) (c : List Nat), js[i]? = some j → cs'[i]? = some c → g'[j]? = some (.lst (c.map natD)))
    (hc : ∀ (i : Nat) (c' : List Nat), cs'[i]? = some c' → ∃ c, cs[i]? = some c ∧ c' = c ++ (if a = (i : Int) then [ns.length] else [])) :
    GFS t (ns ++ [x]) (js ++ [(g' ++ g2).length]) (cs' ++ [[]]) (x.kids.map (fun y => (y, (ns.length : Int))) ++ w) (g' ++ g2 ++ [.lst []]) := by
  have e : gwpre ((x, a) :: w) = x :: gpres x.kids ++ gwpre w := by
    show x.pre ++ gwpre w = _
    rw [gpre_eq]
  have hab : ∀ p ∈ w, p.2 ≠ (ns.length : Int) := fun p hp => by
    rcases h.ab p (by simp [hp]) with e | ⟨b, e, hb⟩ <;> omega
  refine ⟨by simp [h.jl], by simp [hcl, h.cl], ?_, fun j hj => ?_, fun i j c h1 h2 => ?_, fun p hp => ?_, ?_, fun i y c h1 h2 => ?_⟩
  · rw [List.pairwise_append]
    refine ⟨h.inc, by simp, fun j hj k hk => ?_⟩
    simp at hk
    have := h.jlt j hj
    omega
  · rcases List.mem_append.mp hj with hj | hj
    · have := h.jlt j hj
      simp
      omega
    · simp at hj
      simp
      omega
  · by_cases hi : i < js.length
    · rw [List.getElem?_append_left hi] at h1
      rw [List.getElem?_append_left (by rw [hcl, h.cl, ← h.jl]; exact hi)] at h2
      rw [List.append_assoc]
      exact get_pre (hcell i j c h1 h2)
    · have hi2 : i = js.length := by
        have := (List.getElem?_eq_some_iff.mp h1).1
        simp at this
        omega
      subst hi2
      rw [List.getElem?_append_right (Nat.le_refl _), Nat.sub_self] at h1
      rw [show js.length = cs'.length by rw [h.jl, hcl, h.cl], List.getElem?_append_right (Nat.le_refl _), Nat.sub_self] at h2
      cases h1
      cases h2
      exact get_end _ _
  · rcases List.mem_append.mp hp with hp | hp
    · obtain ⟨y, _, rfl⟩ := List.mem_map.mp hp
      exact .inr ⟨ns.length, rfl, by simp⟩
    · rcases h.ab p (by simp [hp]) with e | ⟨b, e, hb⟩
      · exact .inl e
      · exact .inr ⟨b, e, by simp; omega⟩
  · rw [← h.pre, e]
    show ns ++ [x] ++ List.flatMap _ _ = _
    rw [List.flatMap_append]
    have := gwpre_kids (ns.length : Int) x.kids
    show ns ++ [x] ++ (gwpre _ ++ gwpre w) = _
    rw [this]
    simp
  · by_cases hi : i < ns.length
    · rw [List.getElem?_append_left hi] at h1
      rw [List.getElem?_append_left (by rw [hcl, h.cl]; exact hi)] at h2
      obtain ⟨c0, hc0, rfl⟩ := hc i c h2
      have := h.fin i y c0 h1 hc0
      rw [gpend] at this
      rw [List.length_append, List.length_singleton, gpend_other (by omega), ← this, List.append_assoc]
      congr 3
      rw [gpre_eq, List.length_cons]
      omega
    · have hi2 : i = ns.length := by
        have := (List.getElem?_eq_some_iff.mp h1).1
        simp at this
        omega
      subst hi2
      rw [List.getElem?_append_right (Nat.le_refl _), Nat.sub_self] at h1
      rw [show ns.length = cs'.length by rw [hcl, h.cl], List.getElem?_append_right (Nat.le_refl _), Nat.sub_self] at h2
      cases h1
      cases h2
      rw [List.length_append, List.length_singleton, gpend_kids, gpend_none hab, List.append_nil]
      rfl
theorem GFS.root {t : Gt} {ns : List Gt} {js : List Nat} {cs : List (List Nat)} {x : Gt} {w : List (Gt × Int)} {g : Sto} (h : GFS t ns js cs ((x, -1) :: w) g) (g2 : Sto) :
    GFS t (ns ++ [x]) (js ++ [(g ++ g2).length]) (cs ++ [[]]) (x.kids.map (fun y => (y, (ns.length : Int))) ++ w) (g ++ g2 ++ [.lst []]) :=
  h.go g2 rfl rfl h.cell fun i c' hc => ⟨c', hc, by rw [if_neg (by omega), List.append_nil]⟩
theorem GFS.kid {t : Gt} {ns : List Gt} {js : List Nat} {cs : List (List Nat)} {x : Gt} {a : Nat} {w : List (Gt × Int)} {g : Sto} (h : GFS t ns js cs ((x, (a : Int)) :: w) g) : ∃ j c, js[a]? = some j ∧ cs[a]? = some c ∧ g[j]? = some (.lst (c.map natD)) ∧ j < g.length ∧ (∃ y ∈ t.pre, c.length ≤ y.kids.length) ∧
    ∀ g2 : Sto, GFS t (ns ++ [x]) (js ++ [(g.set j (.lst ((c ++ [ns.length]).map natD)) ++ g2).length]) (cs.set a (c ++ [ns.length]) ++ [[]]) (x.kids.map (fun y => (y, (ns.length : Int))) ++ w) (g.set j (.lst ((c ++ [ns.length]).map natD)) ++ g2 ++ [.lst []]) := by
  have ha : a < ns.length := by
    rcases h.ab _ List.mem_cons_self with e | ⟨b, e, hb⟩ <;> simp at e <;> omega
  have hj : a < js.length := by rw [h.jl]; exact ha
  have hcl : a < cs.length := by rw [h.cl]; exact ha
  have h1 := List.getElem?_eq_getElem hj
  have h2 := List.getElem?_eq_getElem hcl
  have h3 := List.getElem?_eq_getElem ha
  have hcell := h.cell _ _ _ h1 h2
  have hjlt := h.jlt _ (List.getElem_mem hj)
  refine ⟨js[a], cs[a], h1, h2, hcell, hjlt, ⟨ns[a], ?_, ?_⟩, fun g2 => h.go g2 (List.length_set) (List.length_set) (fun i j c q1 q2 => ?_) fun i c' hc => ?_⟩
  · rw [← h.pre]
    exact List.mem_append_left _ (List.getElem_mem ha)
  · have := congrArg List.length (h.fin _ _ _ h3 h2)
    rw [List.length_append, gstarts_len] at this
    omega
  · by_cases hi : i = a
    · subst hi
      rw [h1] at q1
      cases q1
      rw [List.getElem?_set_self hcl] at q2
      cases q2
      exact List.getElem?_set_self hjlt
    · rw [List.getElem?_set_ne (Ne.symm hi)] at q2
      have hne : js[a] ≠ j := fun z => by
        have hi2 := (List.getElem?_eq_some_iff.mp q1).1
        have e2 := (List.getElem?_eq_some_iff.mp q1).2
        have := List.pairwise_iff_getElem.mp h.inc
        rcases Nat.lt_or_gt_of_ne hi with q | q
        · have := this i a hi2 hj q
          omega
        · have := this a i hj hi2 q
          omega
      rw [List.getElem?_set_ne hne]
      exact h.cell i j c q1 q2
  · by_cases hi : i = a
    · subst hi
      rw [List.getElem?_set_self hcl] at hc
      cases hc
      exact ⟨cs[i], h2, by rw [if_pos rfl]⟩
    · rw [List.getElem?_set_ne (Ne.symm hi)] at hc
      exact ⟨c', hc, by rw [if_neg (by omega), List.append_nil]⟩
theorem GFS.done {t : Gt} {ns : List Gt} {js : List Nat} {cs : List (List Nat)} {g : Sto} (h : GFS t ns js cs [] g) : ns = t.pre ∧ ∀ (i j : Nat) (x : Gt), js[i]? = some j → t.pre[i]? = some x → g[j]? = some (.lst ((gstarts (i + 1) x.kids).map natD)) := by
  have e : ns = t.pre := by
    have := h.pre
    simpa [gwpre] using this
  refine ⟨e, fun i j x h1 h2 => ?_⟩
  rw [← e] at h2
  have hi : i < cs.length := by rw [h.cl]; exact (List.getElem?_eq_some_iff.mp h2).1
  have h3 := List.getElem?_eq_getElem hi
  have := h.fin i x _ h2 h3
  rw [gpend, List.append_nil] at this
  rw [← this]
  exact h.cell i j _ h1 h3

abbrev gwD (p : Gt × Int) : D := .tup [p.1.d, .int p.2]
abbrev gst_ (S : Sto) (ns : List Gt) (js : List Nat) (wt : List (Gt × Int)) (g : Sto) : Sto := S ++ [.lst (ns.map Gt.d)] ++ ([.lst (js.map fun j => D.ref (S.length + 3 + j))] ++ ([.lst (wt.reverse.map gwD)] ++ g))
structure GFlat (S G : Sto) (t : Gt) (a b : Nat) : Prop where
  na : (S ++ G)[a]? = some (.lst (t.pre.map Gt.d))
  nb : ∃ rs : List Nat, (S ++ G)[b]? = some (.lst (rs.map D.ref)) ∧ rs.length = t.pre.length ∧ ∀ (i r : Nat) (x : Gt), rs[i]? = some r → t.pre[i]? = some x → (S ++ G)[r]? = some (.lst ((gstarts (i + 1) x.kids).map natD))
theorem GFlat.pre {S G g : Sto} {t : Gt} {a b : Nat} (h : GFlat S G t a b) : GFlat S (G ++ g) t a b := by
  obtain ⟨h1, rs, h2, h3, h4⟩ := h
  refine ⟨by rw [← List.append_assoc]; exact get_pre h1, rs, by rw [← List.append_assoc]; exact get_pre h2, h3, fun i r x q1 q2 => by rw [← List.append_assoc]; exact get_pre (h4 i r x q1 q2)⟩
section
variable {k : Nat} {S : Sto} {Q : D → Sto → Prop} {ns : List Gt} {js : List Nat} {wt : List (Gt × Int)} {g : Sto} {t : Gt}
theorem gf_n : (gst_ S ns js wt g)[S.length]? = some (.lst (ns.map Gt.d)) := get_mid _ _ _
theorem gf_b : (gst_ S ns js wt g)[S.length + 1]? = some (.lst (js.map fun j => D.ref (S.length + 3 + j))) := by
  show (_ ++ _)[_]? = _
  rw [← List.append_assoc, show S.length + 1 = (S ++ [Ob.lst (ns.map Gt.d)]).length by simp]
  exact get_mid _ _ _
theorem gf_w : (gst_ S ns js wt g)[S.length + 2]? = some (.lst (wt.reverse.map gwD)) := by
  show (_ ++ _)[_]? = _
  rw [← List.append_assoc, ← List.append_assoc, show S.length + 2 = (S ++ [Ob.lst (ns.map Gt.d)] ++ [Ob.lst (js.map fun j => D.ref (S.length + 3 + j))]).length by simp]
  exact get_mid _ _ _
theorem gf_g {j : Nat} : (gst_ S ns js wt g)[S.length + 3 + j]? = g[j]? := by
  show (_ ++ _)[_]? = _
  rw [← List.append_assoc, ← List.append_assoc, List.getElem?_append_right (by simp)]
  congr 1
  simp
theorem gf_sn {l : List D} {ns' : List Gt} (h : l = ns'.map Gt.d) : (gst_ S ns js wt g).set S.length (.lst l) = gst_ S ns' js wt g := by
  subst h
  exact set_mid _ _ _ _
theorem gf_sb {l : List D} {js' : List Nat} (h : l = js'.map fun j => D.ref (S.length + 3 + j)) : (gst_ S ns js wt g).set (S.length + 1) (.lst l) = gst_ S ns js' wt g := by
  subst h
  show List.set (_ ++ _) _ _ = _ ++ _
  rw [← List.append_assoc, show S.length + 1 = (S ++ [Ob.lst (ns.map Gt.d)]).length by simp, set_mid, List.append_assoc]
theorem gf_sw {l : List D} {wt' : List (Gt × Int)} (h : l = wt'.reverse.map gwD) : (gst_ S ns js wt g).set (S.length + 2) (.lst l) = gst_ S ns js wt' g := by
  subst h
  show List.set (_ ++ _) _ _ = _ ++ _
  rw [← List.append_assoc, ← List.append_assoc, show S.length + 2 = (S ++ [Ob.lst (ns.map Gt.d)] ++ [Ob.lst (js.map fun j => D.ref (S.length + 3 + j))]).length by simp, set_mid, List.append_assoc, List.append_assoc]
theorem gf_sg {j : Nat} {o : Ob} : (gst_ S ns js wt g).set (S.length + 3 + j) o = gst_ S ns js wt (g.set j o) := by
  show List.set (_ ++ _) _ _ = _ ++ _
  rw [← List.append_assoc, ← List.append_assoc, List.set_append_right _ _ (by simp), List.append_assoc, List.append_assoc]
  congr 4
  simp
theorem gf_app {g2 : Sto} : gst_ S ns js wt g ++ g2 = gst_ S ns js wt (g ++ g2) := by
  show _ ++ _ ++ g2 = _ ++ _
  simp
theorem gf_len : (gst_ S ns js wt g).length = S.length + 3 + g.length := by
  show List.length (_ ++ _) = _
  simp
  omega
theorem GFS.wlen {cs : List (List Nat)} (h : GFS t ns js cs wt g) : ns.length + wt.length ≤ t.pre.length := by
  have e := congrArg List.length h.pre
  rw [List.length_append] at e
  have : ∀ w : List (Gt × Int), w.length ≤ (gwpre w).length := by
    intro w
    induction w with
    | nil => simp
    | cons p w ih =>
      show _ ≤ (p.1.pre ++ gwpre w).length
      rw [List.length_append, gpre_eq, List.length_cons, List.length_cons]
      omega
  have := this wt
  omega
theorem GFS.res {cs : List (List Nat)} (h : GFS t ns js cs [] g) (g2 : Sto) : GFlat S ([.lst (ns.map Gt.d)] ++ ([.lst (js.map fun j => D.ref (S.length + 3 + j))] ++ ([.lst (([] : List (Gt × Int)).reverse.map gwD)] ++ g)) ++ g2) t S.length (S.length + 1) := by
  obtain ⟨e, fin⟩ := h.done
  have es : S ++ ([.lst (ns.map Gt.d)] ++ ([.lst (js.map fun j => D.ref (S.length + 3 + j))] ++ ([.lst (([] : List (Gt × Int)).reverse.map gwD)] ++ g)) ++ g2) = gst_ S ns js [] g ++ g2 := by
    show _ = _ ++ _ ++ g2
    simp
  subst e
  refine ⟨by rw [es]; exact get_pre gf_n, js.map fun j => S.length + 3 + j, by rw [es, List.map_map]; exact get_pre gf_b, by rw [List.length_map, h.jl], fun i r x h1 h2 => ?_⟩
  rw [List.getElem?_map, Option.map_eq_some_iff] at h1
  obtain ⟨j, hj, rfl⟩ := h1
  rw [es]
  refine get_pre ?_
  rw [gf_g]
  exact fin i j x hj h2
theorem gpopW {p : Gt × Int} {w : List (Gt × Int)} : ((p :: w).reverse.map gwD)[((p :: w).reverse.map gwD).length - 1]? = some (gwD p) ∧ ((p :: w).reverse.map gwD).dropLast = w.reverse.map gwD := by
  rw [List.reverse_cons, List.map_append]
  simp
/-- the law's parts of a node -/
def LParts (k : Nat) (x : Gt) : Prop := ∀ (S : Sto) (Q : D → Sto → Prop), Q (.ref S.length) (S ++ [.lst (x.kids.map Gt.d)]) → W (orc T (k + 1) n__law_parts [x.d] S) Q
theorem glflat_w (hP : ∀ x ∈ t.pre, LParts k x) (hz : t.pre.length ≤ 3000) (hk : ∀ x ∈ t.pre, x.kids.length ≤ 10) (h : ∀ (G : Sto) (a b c : Nat), GFlat S G t a b → (S ++ G)[c]? = some (.lst [.ref a, .ref b]) → Q (.ref c) (S ++ G)) : W (orc T (k + 2) n__law_flat [t.d] S) Q := by
  refine orc_w (ρ := [some t.d, none, none, none, none, none, none, none]) rfl rfl rfl ?_
  show W (evSs _ b__law_flat _ _) _
  simp only [b__law_flat]
  mul_fits
  have e0 : S ++ [Ob.lst []] ++ [Ob.lst []] ++ [Ob.lst [D.tup [t.d, D.int (-1)]]] = gst_ S [] [] [(t, -1)] [] := by
    show _ = _ ++ _
    simp
  rw [e0, show rgD 0 5000 = (List.range 5000).map natD from rgD0 5000, show (S ++ [Ob.lst []]).length = S.length + 1 by simp, show (S ++ [Ob.lst []] ++ [Ob.lst []]).length = S.length + 2 by simp]
  refine loopS_re natD (fun r ρ S' => ∃ (ns : List Gt) (js : List Nat) (cs : List (List Nat)) (wt : List (Gt × Int)) (g : Sto) (o4 o5 o6 : Option D), S' = gst_ S ns js wt g ∧ ρ = [some t.d, some (.ref S.length), some (.ref (S.length + 1)), some (.ref (S.length + 2)), o4, o5, o6, none] ∧ GFS t ns js cs wt g ∧ ns.length + r.length = 5000) ?_ ?_ _ _ _ ⟨[], [], [], [(t, -1)], [], _, _, _, rfl, rfl, .start t, by simp⟩
  rotate_left
  · rintro ρ S' ⟨ns, js, cs, wt, g, o4, o5, o6, rfl, rfl, fs, hl⟩
    exfalso
    have := fs.wlen
    simp at hl
    omega
  rintro q r ρ S' ⟨ns, js, cs, wt, g, o4, o5, o6, rfl, rfl, fs, hl⟩
  refine ⟨trivial, ?_⟩
  rw [List.length_cons] at hl
  have wl := fs.wlen
  have sqw : sqOf (gst_ S ns js wt g) (.val (.ref (S.length + 2))) = some (wt.reverse.map gwD) := by simp only [sqOf, lsOf, gf_w]
  simp only [b__law_flat_1]
  mul_fits
  cases wt with
  | nil =>
    refine w_ifd (fun c => ?_) fun c => (c (by simp)).elim
    mul_fits
    have e : gst_ S ns js [] g ++ [Ob.lst [D.ref S.length, D.ref (S.length + 1)]] = S ++ ([.lst (ns.map Gt.d)] ++ ([.lst (js.map fun j => D.ref (S.length + 3 + j))] ++ ([.lst (([] : List (Gt × Int)).reverse.map gwD)] ++ g)) ++ [Ob.lst [D.ref S.length, D.ref (S.length + 1)]]) := by
      show _ ++ _ ++ _ = _
      simp
    have ge := get_end (gst_ S ns js [] g) (Ob.lst [D.ref S.length, D.ref (S.length + 1)])
    rw [gf_len] at ge ⊢
    rw [e] at ge ⊢
    rw [gc_out (by simp [below]; omega)]
    exact w_ok (h _ _ _ _ (fs.res _) ge)
  | cons p w =>
  obtain ⟨x, a⟩ := p
  refine w_ifd (fun c => ?_) fun c => ?_
  · exfalso
    simp at c
    omega
  mul_fits
  simp only [b__law_flat_2]
  have pw := gpopW (p := (x, a)) (w := w)
  have hx := fs.mem
  have hxk := hk x hx
  have hlt := fs.len
  rw [List.length_cons] at wl
  mul_fits
  refine v_pop gf_w pw.1 ?_
  rw [gf_sw (wt' := w) pw.2]
  mul_fits
  have sqn : ∀ (js : List Nat) (w : List (Gt × Int)) (g : Sto), sqOf (gst_ S ns js w g) (.val (.ref S.length)) = some (ns.map Gt.d) := fun js w g => by simp only [sqOf, lsOf, gf_n]
  -- what follows the test
  have fin : ∀ (cs' : List (List Nat)) (g' : Sto), (∀ g2 : Sto, GFS t (ns ++ [x]) (js ++ [(g' ++ g2).length]) cs' (x.kids.map (fun y => (y, (ns.length : Int))) ++ w) (g' ++ g2 ++ [.lst []])) → ∀ (C1 : Fl → Sto → Prop), (∀ (js' : List Nat) (wt' : List (Gt × Int)) (gg : Sto), GFS t (ns ++ [x]) js' cs' wt' gg → C1 (.nx [some t.d, some (.ref S.length), some (.ref (S.length + 1)), some (.ref (S.length + 2)), some (natD q), some x.d, some (.int a), none]) (gst_ S (ns ++ [x]) js' wt' gg)) →
      W (evSs (orc T (k + 1)) b__law_flat_3 [some t.d, some (.ref S.length), some (.ref (S.length + 1)), some (.ref (S.length + 2)), some (natD q), some x.d, some (.int a), none] (gst_ S ns js w g')) C1 := by
    intro cs' g' hf C1 hC
    have sqn1 := sqn js w (g' ++ [Ob.lst (x.kids.map Gt.d)])
    simp only [b__law_flat_3]
    mul_fits
    refine w_withL gf_w ?_
    mul_fits
    refine hP x hx _ _ ?_
    rw [gf_app, gf_len]
    have kp : (gst_ S ns js w (g' ++ [Ob.lst (x.kids.map Gt.d)]))[S.length + 3 + g'.length]? = some (.lst (x.kids.map Gt.d)) := by
      rw [gf_g]
      exact get_end _ _
    have lsp : lsOf (gst_ S ns js w (g' ++ [Ob.lst (x.kids.map Gt.d)])) (.val (.ref (S.length + 3 + g'.length))) = some (x.kids.map Gt.d) := by simp only [lsOf, kp]
    mul_fits
    try (refine w_may lsp ?_)
    mul_fits
    refine ⟨by rw [List.length_reverse, List.length_map]; exact le_size (by omega), ?_⟩
    rw [← List.map_reverse]
    refine loopQ_m Gt.d (fun y => gwD (y, (ns.length : Int))) (fun S' => S' = gst_ S ns js w (g' ++ [Ob.lst (x.kids.map Gt.d)])) _ (fun y _ S' e => ?_) (fun S' e => ?_) _ rfl
    · subst e
      refine ⟨trivial, ?_⟩
      mul_fits
      rw [List.length_map]
      exact ⟨rfl, rfl⟩
    subst e
    refine ⟨trivial, ?_⟩
    mul_fits
    refine v_ext (ds := w.reverse.map gwD) (es := x.kids.reverse.map fun y => gwD (y, (ns.length : Int))) gf_w rfl (by
      simp only [List.length_map, List.length_reverse]
      exact le_size (by omega)) ?_
    rw [gf_sw (wt' := x.kids.map (fun y => (y, (ns.length : Int))) ++ w) (by simp)]
    mul_fits
    have hf2 := hf [Ob.lst (x.kids.map Gt.d)]
    generalize (x.kids.map (fun y => (y, (ns.length : Int))) ++ w) = w' at hf2 ⊢
    generalize hg2 : g' ++ [Ob.lst (x.kids.map Gt.d)] = g2 at hf2 ⊢
    refine w_withL gf_n ?_
    mul_fits
    refine v_app (ds := ns.map Gt.d) gf_n (Nat.lt_of_lt_of_le (Nat.lt_succ_self _) (by rw [List.length_map]; exact le_size (by omega))) ?_
    rw [gf_sn (ns' := ns ++ [x]) (by rw [List.map_append]; rfl)]
    mul_fits
    refine w_withL gf_b ?_
    mul_fits
    rw [gf_app, gf_len]
    refine v_app (ds := js.map fun j => D.ref (S.length + 3 + j)) gf_b (Nat.lt_of_lt_of_le (Nat.lt_succ_self _) (by rw [List.length_map, fs.jl]; exact le_size (by omega))) ?_
    rw [gf_sb (js' := js ++ [g2.length]) (by rw [List.map_append]; rfl)]
    mul_fits
    exact hC _ _ _ hf2
  refine w_ifd (fun c => ?_) fun c => ?_
  · obtain ⟨a, rfl⟩ := Int.eq_ofNat_of_zero_le c
    obtain ⟨j, c0, h1, h2, h3, h4, ⟨y, hy, hy2⟩, h5⟩ := fs.kid
    have hyk := hk y hy
    have kg2 : (gst_ S ns js w g)[S.length + 3 + j]? = some (.lst (c0.map natD)) := by rw [gf_g]; exact h3
    have sqn1 := sqn js w g
    have ja := (List.getElem?_eq_some_iff.mp h1).1
    have kb : atI (js.map fun j => D.ref (S.length + 3 + j)) (a : Int) = some (.ref (S.length + 3 + j)) := by
      rw [at_map _ _ _ ja, (List.getElem?_eq_some_iff.mp h1).2]
    mul_fits
    refine v_idx gf_b kb ?_
    mul_fits
    rw [List.length_map]
    refine v_app kg2 (Nat.lt_of_lt_of_le (Nat.lt_succ_self _) (by rw [List.length_map]; exact le_size (by omega))) ?_
    rw [gf_sg]
    mul_fits
    have eo : Ob.lst (c0.map natD ++ [D.int (ns.length : Int)]) = .lst ((c0 ++ [ns.length]).map natD) := by rw [List.map_append]; rfl
    rw [eo]
    refine fin _ _ h5 _ fun js' wt' gg hf => ?_
    exact ⟨_, _, _, _, _, _, _, _, rfl, rfl, hf, by simp; omega⟩
  · have ea : a = -1 := by
      rcases fs.ab _ List.mem_cons_self with e | ⟨b, e, _⟩
      · exact e
      · exfalso
        simp at e
        omega
    subst ea
    mul_fits
    refine fin _ _ fs.root _ fun js' wt' gg hf => ?_
    exact ⟨_, _, _, _, _, _, _, _, rfl, rfl, hf, by simp; omega⟩
end
section
variable {k : Nat} {S : Sto} {Q : D → Sto → Prop} {t : Gt}
end
def goff (k : Nat) (ks : List Gt) : Nat := (gpres (ks.take k)).length
theorem goff_succ (k : Nat) (t : Gt) (ks : List Gt) : goff (k + 1) (t :: ks) = t.pre.length + goff k ks := by
  unfold goff
  rw [List.take_succ_cons, gpres, List.length_append]
theorem gstarts_get : ∀ (s k : Nat) (ks : List Gt), k < ks.length → (gstarts s ks)[k]? = some (s + goff k ks)
  | s, _, [], h => absurd h (by simp)
  | s, 0, t :: ks, _ => by simp [gstarts, goff, gpres]
  | s, k + 1, t :: ks, h => by
    rw [gstarts, List.getElem?_cons_succ, gstarts_get _ k ks (by simpa using h), goff_succ]
    congr 1
    omega
theorem gpres_at : ∀ (ks : List Gt) (k : Nat) (y : Gt), ks[k]? = some y → (gpres ks)[goff k ks]? = some y
  | [], _, _, h => by simp at h
  | t :: ks, 0, y, h => by
    simp at h
    subst h
    rw [gpres, gpre_eq]
    simp [goff, gpres]
  | t :: ks, k + 1, y, h => by
    rw [goff_succ, gpres, List.getElem?_append_right (by omega), Nat.add_sub_cancel_left]
    exact gpres_at ks k y (by simpa using h)
mutual
theorem gpre_kid : ∀ (t : Gt) (i : Nat) (x : Gt) (k : Nat) (y : Gt), t.pre[i]? = some x → x.kids[k]? = some y → t.pre[i + 1 + goff k x.kids]? = some y
  | .nd a ks, 0, x, k, y, h, h2 => by
    rw [Gt.pre] at h ⊢
    simp at h
    subst h
    rw [show 0 + 1 + goff k (Gt.nd a ks).kids = goff k ks + 1 from by simp [Gt.kids]; omega, List.getElem?_cons_succ]
    exact gpres_at ks k y h2
  | .nd a ks, i + 1, x, k, y, h, h2 => by
    rw [Gt.pre] at h ⊢
    rw [show i + 1 + 1 + goff k x.kids = (i + 1 + goff k x.kids) + 1 from by omega, List.getElem?_cons_succ]
    exact gpres_kid ks i x k y (by simpa using h) h2
theorem gpres_kid : ∀ (ts : List Gt) (i : Nat) (x : Gt) (k : Nat) (y : Gt), (gpres ts)[i]? = some x → x.kids[k]? = some y → (gpres ts)[i + 1 + goff k x.kids]? = some y
  | [], i, x, k, y, h, _ => by simp [gpres] at h
  | t :: ts, i, x, k, y, h, h2 => by
    rw [gpres] at h ⊢
    by_cases c : i < t.pre.length
    · rw [List.getElem?_append_left c] at h
      have := gpre_kid t i x k y h h2
      rw [List.getElem?_append_left (List.getElem?_eq_some_iff.mp this).1]
      exact this
    · rw [List.getElem?_append_right (by omega)] at h
      rw [List.getElem?_append_right (by omega), show i + 1 + goff k x.kids - t.pre.length = (i - t.pre.length) + 1 + goff k x.kids from by omega]
      exact gpres_kid ts _ x k y h h2
end
mutual
theorem gparent : ∀ (t : Gt) (p : Nat), p + 1 < t.pre.length → ∃ i x k, i < p + 1 ∧ t.pre[i]? = some x ∧ k < x.kids.length ∧ p + 1 = i + 1 + goff k x.kids
  | .nd a ks, p, h => by
    rw [Gt.pre] at h ⊢
    rw [List.length_cons] at h
    rcases gparents ks p (by omega) with ⟨k, h1, h2⟩ | ⟨i, x, k, h1, h2, h3, h4⟩
    · exact ⟨0, .nd a ks, k, by omega, rfl, h1, by show p + 1 = 0 + 1 + goff k ks; omega⟩
    · exact ⟨i + 1, x, k, by omega, by simpa using h2, h3, by omega⟩
theorem gparents : ∀ (ts : List Gt) (p : Nat), p < (gpres ts).length → (∃ k, k < ts.length ∧ p = goff k ts) ∨ ∃ i x k, i < p ∧ (gpres ts)[i]? = some x ∧ k < x.kids.length ∧ p = i + 1 + goff k x.kids
  | [], p, h => by simp [gpres] at h
  | t :: ts, p, h => by
    rw [gpres, List.length_append] at h
    by_cases c : p < t.pre.length
    · cases p with
      | zero => exact .inl ⟨0, by simp, by simp [goff, gpres]⟩
      | succ p =>
        obtain ⟨i, x, k, h1, h2, h3, h4⟩ := gparent t p c
        refine .inr ⟨i, x, k, h1, ?_, h3, h4⟩
        rw [gpres, List.getElem?_append_left (List.getElem?_eq_some_iff.mp h2).1]
        exact h2
    · rcases gparents ts (p - t.pre.length) (by omega) with ⟨k, h1, h2⟩ | ⟨i, x, k, h1, h2, h3, h4⟩
      · exact .inl ⟨k + 1, by simpa using h1, by rw [goff_succ]; omega⟩
      · refine .inr ⟨i + t.pre.length, x, k, by omega, ?_, h3, by omega⟩
        rw [gpres, List.getElem?_append_right (by omega), Nat.add_sub_cancel]
        exact h2
end
mutual
def Gt.dn {β : Type} (f : Gt → β → Nat → β) : Gt → β → List β
  | .nd x ks, v => v :: gdns f ks (f (.nd x ks) v)
def gdns {β : Type} (f : Gt → β → Nat → β) : List Gt → (Nat → β) → List β
  | [], _ => []
  | t :: ts, g => t.dn f (g 0) ++ gdns f ts fun k => g (k + 1)
end
section
variable {β : Type} {f : Gt → β → Nat → β}
theorem gat_eq (t : Gt) (v : β) : t.dn f v = v :: gdns f t.kids (f t v) := by
  cases t
  rw [Gt.dn]
  rfl
mutual
theorem gat_len : ∀ (t : Gt) (v : β), (t.dn f v).length = t.pre.length
  | .nd x ks, v => by rw [Gt.dn, Gt.pre, List.length_cons, List.length_cons, gats_len ks]
theorem gats_len : ∀ (ts : List Gt) (g : Nat → β), (gdns f ts g).length = (gpres ts).length
  | [], _ => rfl
  | t :: ts, g => by rw [gdns, gpres, List.length_append, List.length_append, gat_len t, gats_len ts]
end
theorem gats_at : ∀ (ks : List Gt) (g : Nat → β) (k : Nat), k < ks.length → (gdns f ks g)[goff k ks]? = some (g k)
  | [], _, _, h => by simp at h
  | t :: ks, g, 0, _ => by
    rw [gdns, gat_eq]
    simp [goff, gpres]
  | t :: ks, g, k + 1, h => by
    rw [goff_succ, gdns, List.getElem?_append_right (by rw [gat_len]; omega), gat_len, Nat.add_sub_cancel_left]
    exact gats_at ks _ k (by simpa using h)
mutual
theorem gat_kid : ∀ (t : Gt) (v : β) (i : Nat) (x : Gt) (u : β) (k : Nat), t.pre[i]? = some x → (t.dn f v)[i]? = some u → k < x.kids.length → (t.dn f v)[i + 1 + goff k x.kids]? = some (f x u k)
  | .nd a ks, v, 0, x, u, k, h, h2, h3 => by
    rw [Gt.pre] at h
    rw [Gt.dn] at h2 ⊢
    simp at h h2
    subst h h2
    rw [show 0 + 1 + goff k (Gt.nd a ks).kids = goff k ks + 1 from by simp [Gt.kids]; omega, List.getElem?_cons_succ]
    exact gats_at ks _ k h3
  | .nd a ks, v, i + 1, x, u, k, h, h2, h3 => by
    rw [Gt.pre] at h
    rw [Gt.dn] at h2 ⊢
    rw [show i + 1 + 1 + goff k x.kids = (i + 1 + goff k x.kids) + 1 from by omega, List.getElem?_cons_succ]
    exact gats_kid ks _ i x u k (by simpa using h) (by simpa using h2) h3
theorem gats_kid : ∀ (ts : List Gt) (g : Nat → β) (i : Nat) (x : Gt) (u : β) (k : Nat), (gpres ts)[i]? = some x → (gdns f ts g)[i]? = some u → k < x.kids.length → (gdns f ts g)[i + 1 + goff k x.kids]? = some (f x u k)
  | [], _, i, x, u, k, h, _, _ => by simp [gpres] at h
  | t :: ts, g, i, x, u, k, h, h2, h3 => by
    rw [gpres] at h
    rw [gdns] at h2 ⊢
    by_cases c : i < t.pre.length
    · rw [List.getElem?_append_left c] at h
      rw [List.getElem?_append_left (by rw [gat_len]; exact c)] at h2
      have := gat_kid t (g 0) i x u k h h2 h3
      rw [List.getElem?_append_left (List.getElem?_eq_some_iff.mp this).1]
      exact this
    · rw [List.getElem?_append_right (by omega)] at h
      rw [List.getElem?_append_right (by rw [gat_len]; omega), gat_len] at h2
      rw [List.getElem?_append_right (by rw [gat_len]; omega), gat_len, show i + 1 + goff k x.kids - t.pre.length = (i - t.pre.length) + 1 + goff k x.kids from by omega]
      exact gats_kid ts _ _ x u k h h2 h3
end
end
mutual
def okD : D → Prop
  | .non => True
  | .bl _ => True
  | .int _ => True
  | .str x => PyData.strOk x = true
  | .tup ds => okDs ds
  | .fix ds => okDs ds
  | .ref _ => False
def okDs : List D → Prop
  | [] => True
  | d :: ds => okD d ∧ okDs ds
end
mutual
def depD : D → Nat
  | .non => 0
  | .bl _ => 0
  | .int _ => 0
  | .str _ => 0
  | .tup ds => depDs ds + 1
  | .fix ds => depDs ds + 1
  | .ref _ => 0
def depDs : List D → Nat
  | [] => 0
  | d :: ds => max (depD d) (depDs ds)
end
mutual
theorem toPW_ok : ∀ d : D, okD d → ∃ p : PyData, (∀ f, toPW f d = some p) ∧ p.canLay0 = true ∧ p.depth = depD d
  | .non, _ => ⟨.none, fun _ => rfl, rfl, rfl⟩
  | .bl b, _ => ⟨.bool b, fun _ => rfl, rfl, rfl⟩
  | .int i, _ => ⟨.int i, fun _ => rfl, rfl, rfl⟩
  | .str x, h => ⟨.str x, fun _ => rfl, by simpa [PyData.canLay0, okD] using h, rfl⟩
  | .tup ds, h => by
    obtain ⟨ps, h1, h2, h3⟩ := toPsW_ok ds h
    exact ⟨.tuple ps, fun f => by rw [toPW, h1]; rfl, by rw [PyData.canLay0]; exact h2, by rw [PyData.depth, depD, h3]⟩
  | .fix ds, h => by
    obtain ⟨ps, h1, h2, h3⟩ := toPsW_ok ds h
    exact ⟨.list ps, fun f => by rw [toPW, h1]; rfl, by rw [PyData.canLay0]; exact h2, by rw [PyData.depth, depD, h3]⟩
  | .ref _, h => h.elim
theorem toPsW_ok : ∀ ds : List D, okDs ds → ∃ ps : List PyData, (∀ f, toPsW f ds = some ps) ∧ PyData.canLayAll0 ps = true ∧ PyData.depthAll ps = depDs ds
  | [], _ => ⟨[], fun _ => rfl, rfl, rfl⟩
  | d :: ds, h => by
    obtain ⟨p, h1, h2, h3⟩ := toPW_ok d h.1
    obtain ⟨ps, h4, h5, h6⟩ := toPsW_ok ds h.2
    exact ⟨p :: ps, fun f => by rw [toPsW, h1, h4], by rw [PyData.canLayAll0, h2, h5]; rfl, by rw [PyData.depthAll, depDs, h3, h6]⟩
end
theorem okDs_iff : ∀ {ds : List D}, okDs ds ↔ ∀ d ∈ ds, okD d
  | [] => by simp [okDs]
  | d :: ds => by simp [okDs, okDs_iff (ds := ds)]
theorem depDs_le {n : Nat} : ∀ {ds : List D}, depDs ds ≤ n ↔ ∀ d ∈ ds, depD d ≤ n
  | [] => by simp [depDs]
  | d :: ds => by simp [depDs, Nat.max_le, depDs_le (ds := ds)]
theorem okD_tup {ds : List D} : okD (.tup ds) ↔ ∀ d ∈ ds, okD d := by rw [okD]; exact okDs_iff
theorem depD_tup {n : Nat} {ds : List D} : depD (.tup ds) ≤ n + 1 ↔ ∀ d ∈ ds, depD d ≤ n := by
  rw [depD, Nat.add_le_add_iff_right]
  exact depDs_le
theorem dEq_self {S : Sto} {d : D} (h : okD d) (hd : depD d ≤ 3000) : dEq S d d = some true := by
  unfold dEq
  by_cases c : scalD d d = true
  · rw [if_pos c]
    cases d <;> first | (cases c; done) | simp [eqSc]
  · rw [if_neg c]
    obtain ⟨p, h1, h2, h3⟩ := toPW_ok d h
    have e : toP S d = some p := h1 _
    have s : shp p = true := by
      unfold shp
      rw [h2, Bool.true_and]
      exact decide_eq_true (by rw [h3]; exact hd)
    simp only [e, s, Bool.and_self, if_true, SeqAt.eqv_refl p h2]
theorem w_eqSelf {S : Sto} {d : D} {Q : D → Sto → Prop} (h : okD d) (hd : depD d ≤ 3000) (q : Q (.bl true) S) : W (cmpD .eq d d S) Q := by
  simp only [cmpD, dEq_self h hd, may_some, W_ok]
  exact q
inductive Ht where
  | nd (n : Nat) (hd : List D) (ks : List Ht)
  | hole
mutual
def Ht.d : Ht → D
  | .nd n hd ks => .tup (natD n :: (hd ++ [.tup (htd ks)]))
  | .hole => .non
def htd : List Ht → List D
  | [] => []
  | t :: r => t.d :: htd r
end
theorem htd_map : ∀ ps : List Ht, htd ps = ps.map Ht.d
  | [] => rfl
  | t :: r => by rw [htd, htd_map r]; rfl
theorem ht_d (n : Nat) (hd : List D) (ks : List Ht) : (Ht.nd n hd ks).d = .tup (natD n :: (hd ++ [.tup (ks.map Ht.d)])) := by rw [Ht.d, htd_map]
theorem ht_hole : Ht.hole.d = .non := by rw [Ht.d]
def Ht.kids : Ht → List Ht
  | .nd _ _ ks => ks
  | .hole => []
def Ht.num : Ht → Nat
  | .nd n _ _ => n
  | .hole => 0
mutual
def Ht.g : Ht → Gt
  | .nd n hd ks => .nd (Ht.nd n hd ks).d (htg ks)
  | .hole => .nd .non []
def htg : List Ht → List Gt
  | [] => []
  | t :: r => t.g :: htg r
end
theorem htg_map : ∀ ps : List Ht, htg ps = ps.map Ht.g
  | [] => rfl
  | t :: r => by rw [htg, htg_map r]; rfl
theorem hg_d (t : Ht) : t.g.d = t.d := by
  cases t with
  | nd n hd ks => rw [Ht.g]; rfl
  | hole => rw [Ht.g, ht_hole]; rfl
theorem hg_kids (t : Ht) : t.g.kids = t.kids.map Ht.g := by
  cases t with
  | nd n hd ks => rw [Ht.g, ← htg_map]; rfl
  | hole => rw [Ht.g]; rfl
mutual
def Ht.pre : Ht → List Ht
  | .nd n hd ks => .nd n hd ks :: hpres ks
  | .hole => [.hole]
def hpres : List Ht → List Ht
  | [] => []
  | t :: r => t.pre ++ hpres r
end
theorem hpre_eq (t : Ht) : t.pre = t :: hpres t.kids := by
  cases t with
  | nd n hd ks => rw [Ht.pre]; rfl
  | hole => rw [Ht.pre]; rfl
mutual
theorem hg_pre : ∀ t : Ht, t.g.pre = t.pre.map Ht.g
  | .nd n hd ks => by
    have := hg_pres ks
    rw [gpre_eq, hg_kids, hpre_eq, List.map_cons]
    exact congrArg _ this
  | .hole => by
    rw [gpre_eq, hg_kids, hpre_eq, List.map_cons]
    rfl
theorem hg_pres : ∀ ts : List Ht, gpres (ts.map Ht.g) = (hpres ts).map Ht.g
  | [] => rfl
  | t :: ts => by rw [List.map_cons, gpres, hpres, List.map_append, hg_pre t, hg_pres ts]
end
theorem hg_preD (t : Ht) : t.g.pre.map Gt.d = t.pre.map Ht.d := by
  rw [hg_pre, List.map_map]
  exact List.map_congr_left fun x _ => hg_d x
theorem hg_kidsD (t : Ht) : t.g.kids.map Gt.d = t.kids.map Ht.d := by
  rw [hg_kids, List.map_map]
  exact List.map_congr_left fun x _ => hg_d x
theorem hg_all {P : Gt → Prop} {t : Ht} (h : ∀ x ∈ t.pre, P x.g) : ∀ x ∈ t.g.pre, P x := fun x hx => by
  rw [hg_pre] at hx
  obtain ⟨y, hy, rfl⟩ := List.mem_map.mp hx
  exact h y hy
theorem hg_klen {m : Nat} {t : Ht} (h : ∀ x ∈ t.pre, x.kids.length ≤ m) : ∀ x ∈ t.g.pre, x.kids.length ≤ m := hg_all fun x hx => by
  rw [hg_kids, List.length_map]
  exact h x hx
theorem hg_len (t : Ht) : t.g.pre.length = t.pre.length := by rw [hg_pre, List.length_map]
mutual
def Tr.h : Tr → Ht
  | .nd n ps => .nd n [] (trh ps)
def trh : List Tr → List Ht
  | [] => []
  | t :: r => t.h :: trh r
end
theorem trh_map : ∀ ps : List Tr, trh ps = ps.map Tr.h
  | [] => rfl
  | t :: r => by rw [trh, trh_map r]; rfl
theorem th_nd (n : Nat) (ps : List Tr) : (Tr.nd n ps).h = .nd n [] (ps.map Tr.h) := by rw [Tr.h, trh_map]
mutual
theorem th_d : ∀ t : Tr, t.h.d = t.d
  | .nd n ps => by rw [Tr.h, Ht.d, Tr.d, trh_d ps]; rfl
theorem trh_d : ∀ ps : List Tr, htd (trh ps) = Trs.d ps
  | [] => rfl
  | t :: r => by rw [trh, htd, Trs.d, th_d t, trh_d r]
end
theorem th_kids (t : Tr) : t.h.kids = t.kids.map Tr.h := by
  cases t
  rw [th_nd]
  rfl
mutual
theorem th_pre : ∀ t : Tr, t.h.pre = t.pre.map Tr.h
  | .nd n ps => by
    have := th_pres ps
    rw [hpre_eq, th_kids, pre_eq, List.map_cons]
    exact congrArg _ this
theorem th_pres : ∀ ts : List Tr, hpres (ts.map Tr.h) = (pres ts).map Tr.h
  | [] => rfl
  | t :: ts => by rw [List.map_cons, hpres, pres, List.map_append, th_pre t, th_pres ts]
end
def Cov (t : Gt) (i m p : Nat) : Prop := p = 0 ∨ (∃ j x k, j < i ∧ t.pre[j]? = some x ∧ k < x.kids.length ∧ p = j + 1 + goff k x.kids) ∨ ∃ x k, k < m ∧ t.pre[i]? = some x ∧ k < x.kids.length ∧ p = i + 1 + goff k x.kids
structure Agr {β : Type} (t : Gt) (A B : List β) (i m : Nat) : Prop where
  len : A.length = B.length
  at_ : ∀ p, Cov t i m p → A[p]? = B[p]?
section
variable {β : Type} {t : Gt} {A B : List β} {i m : Nat} {x : Gt}
theorem Agr.start (h : A.length = B.length) (h0 : A[0]? = B[0]?) : Agr t A B 0 0 := ⟨h, fun p c => by
  rcases c with rfl | ⟨j, _, _, hj, _⟩ | ⟨_, k, hk, _⟩
  · exact h0
  · omega
  · omega⟩
theorem cov_self (h : i < t.pre.length) : Cov t i 0 i := by
  cases i with
  | zero => exact .inl rfl
  | succ p =>
    obtain ⟨j, x, k, h1, h2, h3, h4⟩ := gparent t p h
    exact .inr (.inl ⟨j, x, k, h1, h2, h3, h4⟩)
theorem Agr.step {u : β} (a : Agr t A B i m) (hx : t.pre[i]? = some x) (hu : B[i + 1 + goff m x.kids]? = some u) : Agr t (A.set (i + 1 + goff m x.kids) u) B i (m + 1) := by
  have hlt : i + 1 + goff m x.kids < A.length := by rw [a.len]; exact (List.getElem?_eq_some_iff.mp hu).1
  refine ⟨by rw [List.length_set]; exact a.len, fun p c => ?_⟩
  by_cases e : p = i + 1 + goff m x.kids
  · subst e
    rw [List.getElem?_set_self hlt, hu]
  · rw [List.getElem?_set_ne (fun z => e z.symm)]
    refine a.at_ p ?_
    rcases c with c | c | ⟨y, k, hk, hy, h1, h2⟩
    · exact .inl c
    · exact .inr (.inl c)
    · rw [hx] at hy
      cases hy
      by_cases z : k = m
      · subst z
        exact absurd h2 e
      · exact .inr (.inr ⟨x, k, by omega, hx, h1, h2⟩)
theorem Agr.next (a : Agr t A B i m) (hx : t.pre[i]? = some x) (hm : m = x.kids.length) : Agr t A B (i + 1) 0 := ⟨a.len, fun p c => by
  rcases c with c | ⟨j, y, k, hj, hy, h1, h2⟩ | ⟨_, k, hk, _⟩
  · exact a.at_ p (.inl c)
  · by_cases z : j = i
    · subst z
      rw [hx] at hy
      cases hy
      exact a.at_ p (.inr (.inr ⟨x, k, by omega, hx, h1, h2⟩))
    · exact a.at_ p (.inr (.inl ⟨j, y, k, by omega, hy, h1, h2⟩))
  · omega⟩
theorem Agr.done (a : Agr t A B i 0) (hb : B.length = t.pre.length) (hi : i = t.pre.length) : A = B := by
  refine List.ext_getElem? fun p => ?_
  by_cases c : p < t.pre.length
  · refine a.at_ p ?_
    rcases cov_self (t := t) (i := p) c with z | ⟨j, y, k, hj, hy, h1, h2⟩ | ⟨_, k, hk, _⟩
    · exact .inl z
    · exact .inr (.inl ⟨j, y, k, by omega, hy, h1, h2⟩)
    · omega
  · rw [List.getElem?_eq_none (by rw [a.len]; omega), List.getElem?_eq_none (by omega)]
structure AgU {β : Type} (A B : List β) (i : Nat) : Prop where
  len : A.length = B.length
  at_ : ∀ p, i ≤ p → A[p]? = B[p]?
theorem AgU.start (h : A.length = B.length) : AgU A B A.length := ⟨h, fun p hp => by rw [List.getElem?_eq_none hp, List.getElem?_eq_none (by omega)]⟩
theorem AgU.step {u : β} (a : AgU A B (i + 1)) (hu : B[i]? = some u) : AgU (A.set i u) B i := by
  have hlt : i < A.length := by rw [a.len]; exact (List.getElem?_eq_some_iff.mp hu).1
  refine ⟨by rw [List.length_set]; exact a.len, fun p hp => ?_⟩
  by_cases e : p = i
  · subst e
    rw [List.getElem?_set_self hlt, hu]
  · rw [List.getElem?_set_ne (fun z => e z.symm)]
    exact a.at_ p (by omega)
theorem AgU.done (a : AgU A B 0) : A = B := List.ext_getElem? fun p => a.at_ p (Nat.zero_le _)
theorem gpre_lt {k : Nat} (hx : t.pre[i]? = some x) (hk : k < x.kids.length) : i + 1 + goff k x.kids < t.pre.length := by
  obtain ⟨y, hy⟩ : ∃ y, x.kids[k]? = some y := ⟨_, List.getElem?_eq_getElem hk⟩
  exact (List.getElem?_eq_some_iff.mp (gpre_kid t i x k y hx hy)).1
end
theorem GFlat.below {S G : Sto} {t : Gt} {a b : Nat} (h : GFlat S G t a b) : ∃ rs : List Nat, (S ++ G)[b]? = some (.lst (rs.map D.ref)) ∧ rs.length = t.pre.length ∧ ∀ (i : Nat) (x : Gt), t.pre[i]? = some x → ∃ r, atI (rs.map D.ref) (i : Int) = some (.ref r) ∧ (S ++ G)[r]? = some (.lst ((gstarts (i + 1) x.kids).map natD)) := by
  obtain ⟨rs, h1, h2, h3⟩ := h.nb
  refine ⟨rs, h1, h2, fun i x hx => ?_⟩
  have hi : i < rs.length := by rw [h2]; exact (List.getElem?_eq_some_iff.mp hx).1
  exact ⟨rs[i], at_map _ _ _ hi, h3 i _ x (List.getElem?_eq_getElem hi) hx⟩
theorem at_starts {i k : Nat} {ks : List Gt} (h : k < ks.length) : atI ((gstarts (i + 1) ks).map natD) (k : Int) = some (natD (i + 1 + goff k ks)) := by
  have e := gstarts_get (i + 1) k ks h
  have hk : k < (gstarts (i + 1) ks).length := by rw [gstarts_len]; exact h
  rw [at_map _ _ _ hk]
  rw [List.getElem?_eq_getElem hk] at e
  rw [Option.some.inj e]
def hoff (k : Nat) (ks : List Ht) : Nat := (hpres (ks.take k)).length
theorem hoff_g (k : Nat) (ks : List Ht) : goff k (ks.map Ht.g) = hoff k ks := by
  unfold goff hoff
  rw [← List.map_take, hg_pres, List.length_map]
theorem hoff_succ (k : Nat) (t : Ht) (ks : List Ht) : hoff (k + 1) (t :: ks) = t.pre.length + hoff k ks := by
  unfold hoff
  rw [List.take_succ_cons, hpres, List.length_append]
theorem hpres_at : ∀ (ks : List Ht) (k : Nat) (y : Ht), ks[k]? = some y → (hpres ks)[hoff k ks]? = some y
  | [], _, _, h => by simp at h
  | t :: ks, 0, y, h => by
    simp at h
    subst h
    rw [hpres, hpre_eq]
    simp [hoff, hpres]
  | t :: ks, k + 1, y, h => by
    rw [hoff_succ, hpres, List.getElem?_append_right (by omega), Nat.add_sub_cancel_left]
    exact hpres_at ks k y (by simpa using h)
mutual
theorem hpre_kid' : ∀ (t : Ht) (i : Nat) (x : Ht) (k : Nat) (y : Ht), t.pre[i]? = some x → x.kids[k]? = some y → t.pre[i + 1 + hoff k x.kids]? = some y
  | .nd a b ks, 0, x, k, y, h, h2 => by
    rw [Ht.pre] at h ⊢
    simp at h
    subst h
    rw [show 0 + 1 + hoff k (Ht.nd a b ks).kids = hoff k ks + 1 from by simp [Ht.kids]; omega, List.getElem?_cons_succ]
    exact hpres_at ks k y h2
  | .nd a b ks, i + 1, x, k, y, h, h2 => by
    rw [Ht.pre] at h ⊢
    rw [show i + 1 + 1 + hoff k x.kids = (i + 1 + hoff k x.kids) + 1 from by omega, List.getElem?_cons_succ]
    exact hpres_kid ks i x k y (by simpa using h) h2
  | .hole, 0, x, k, y, h, h2 => by
    rw [Ht.pre] at h
    simp at h
    subst h
    simp [Ht.kids] at h2
  | .hole, i + 1, x, k, y, h, h2 => by
    rw [Ht.pre] at h
    simp at h
theorem hpres_kid : ∀ (ts : List Ht) (i : Nat) (x : Ht) (k : Nat) (y : Ht), (hpres ts)[i]? = some x → x.kids[k]? = some y → (hpres ts)[i + 1 + hoff k x.kids]? = some y
  | [], i, x, k, y, h, _ => by simp [hpres] at h
  | t :: ts, i, x, k, y, h, h2 => by
    rw [hpres] at h ⊢
    by_cases c : i < t.pre.length
    · rw [List.getElem?_append_left c] at h
      have := hpre_kid' t i x k y h h2
      rw [List.getElem?_append_left (List.getElem?_eq_some_iff.mp this).1]
      exact this
    · rw [List.getElem?_append_right (by omega)] at h
      rw [List.getElem?_append_right (by omega), show i + 1 + hoff k x.kids - t.pre.length = (i - t.pre.length) + 1 + hoff k x.kids from by omega]
      exact hpres_kid ts _ x k y h h2
end
theorem hpre_kid (t : Ht) (i : Nat) (x : Ht) (k : Nat) (y : Ht) (h : t.pre[i]? = some x) (h2 : x.kids[k]? = some y) : t.pre[i + 1 + goff k (x.kids.map Ht.g)]? = some y := by
  rw [hoff_g]
  exact hpre_kid' t i x k y h h2
def Ht.sub : Ht → List Nat → Option Ht
  | t, [] => some t
  | t, k :: p => (t.kids[k]?).bind fun y => y.sub p
def Ht.put : Ht → List Nat → Ht → Ht
  | _, [], o => o
  | .hole, _ :: _, _ => .hole
  | .nd n hd ks, k :: p, o => .nd n hd (match ks[k]? with
    | some y => ks.set k (y.put p o)
    | none => ks)
theorem sub_app : ∀ (t : Ht) (p : List Nat) (k : Nat), t.sub (p ++ [k]) = (t.sub p).bind fun x => x.kids[k]?
  | t, [], k => by
    show (t.kids[k]?).bind (fun y => y.sub []) = _
    simp [Ht.sub]
  | t, j :: p, k => by
    rw [List.cons_append, Ht.sub, Ht.sub]
    cases t.kids[j]? with
    | none => rfl
    | some y => exact sub_app y p k
def paths (t : Ht) : List (List Nat) := t.g.dn (fun _ u k => u ++ [k]) []
theorem paths_len (t : Ht) : (paths t).length = t.pre.length := by
  unfold paths
  rw [gat_len, hg_len]
theorem hg_get {t : Ht} {i : Nat} {x : Gt} (h : t.g.pre[i]? = some x) : ∃ y, t.pre[i]? = some y ∧ x = y.g := by
  rw [hg_pre, List.getElem?_map] at h
  cases e : t.pre[i]? with
  | none => rw [e] at h; cases h
  | some y => rw [e] at h; cases h; exact ⟨y, rfl, rfl⟩
theorem paths_sub (t : Ht) : ∀ (i : Nat) (x : Ht) (p : List Nat), t.pre[i]? = some x → (paths t)[i]? = some p → t.sub p = some x := by
  intro i
  induction i using Nat.strongRecOn with
  | _ i ih =>
  intro x p hx hp
  cases i with
  | zero =>
    rw [hpre_eq] at hx
    unfold paths at hp
    rw [gat_eq] at hp
    simp at hx hp
    subst hx hp
    rfl
  | succ q =>
    have hq : q + 1 < t.g.pre.length := by rw [hg_len]; exact (List.getElem?_eq_some_iff.mp hx).1
    obtain ⟨j, y, k, h1, h2, h3, h4⟩ := gparent t.g q hq
    obtain ⟨z, hz, rfl⟩ := hg_get h2
    have hu : ∃ u, (paths t)[j]? = some u := ⟨_, List.getElem?_eq_getElem (by rw [paths_len]; exact (List.getElem?_eq_some_iff.mp hz).1)⟩
    obtain ⟨u, hu⟩ := hu
    have := ih j h1 z u hz hu
    have hk := gat_kid (f := fun _ u k => u ++ [k]) t.g [] j z.g u k h2 hu h3
    rw [← h4] at hk
    have hp : (t.g.dn (fun _ u k => u ++ [k]) [])[q + 1]? = some p := hp
    rw [hk] at hp
    cases hp
    rw [sub_app, this]
    rw [hg_kids, List.length_map] at h3
    have e : z.kids[k]? = some z.kids[k] := List.getElem?_eq_getElem h3
    have := hpre_kid t j z k (z.kids[k]) hz e
    rw [← hg_kids, ← h4, hx] at this
    rw [Option.some.inj this]
    exact e

theorem pd_nd {n : Nat} {hd : List D} {ks : List Ht} : Pd (Ht.nd n hd ks).d ↔ (∀ d ∈ hd, Pd d) ∧ ∀ y ∈ ks, Pd y.d := by
  rw [ht_d, pd_tup]
  constructor
  · intro h
    refine ⟨fun d hd' => h d (by simp [hd']), fun y hy => ?_⟩
    have := h (.tup (ks.map Ht.d)) (by simp)
    rw [pd_tup] at this
    exact this _ (List.mem_map_of_mem hy)
  · rintro ⟨h1, h2⟩ d hd'
    simp only [List.mem_cons, List.mem_append, List.not_mem_nil, or_false] at hd'
    rcases hd' with rfl | hd' | rfl
    · trivial
    · exact h1 d hd'
    · exact pd_map h2
theorem pd_hole : Pd Ht.hole.d := by rw [ht_hole]; trivial
theorem pd_sub : ∀ (t : Ht) (p : List Nat) (y : Ht), Pd t.d → t.sub p = some y → Pd y.d
  | t, [], y, h, e => by
    rw [Ht.sub] at e
    rw [← Option.some.inj e]
    exact h
  | .hole, k :: p, y, h, e => by
    rw [Ht.sub] at e
    simp [Ht.kids] at e
  | .nd n hd ks, k :: p, y, h, e => by
    rw [Ht.sub] at e
    obtain ⟨z, e1, e2⟩ := Option.bind_eq_some_iff.mp e
    exact pd_sub z p y ((pd_nd.mp h).2 z (List.mem_of_getElem? e1)) e2
theorem hok_nd {n : Nat} {hd : List D} {ks : List Ht} : okD (Ht.nd n hd ks).d ↔ (∀ d ∈ hd, okD d) ∧ ∀ y ∈ ks, okD y.d := by
  rw [ht_d, okD_tup]
  constructor
  · intro h
    refine ⟨fun d hd' => h d (by simp [hd']), fun y hy => ?_⟩
    have := h (.tup (ks.map Ht.d)) (by simp)
    rw [okD_tup] at this
    exact this _ (List.mem_map_of_mem hy)
  · rintro ⟨h1, h2⟩ d hd'
    simp only [List.mem_cons, List.mem_append, List.not_mem_nil, or_false] at hd'
    rcases hd' with rfl | hd' | rfl
    · trivial
    · exact h1 d hd'
    · rw [okD_tup]
      intro d hd'
      obtain ⟨y, hy, rfl⟩ := List.mem_map.mp hd'
      exact h2 y hy
theorem hpre_pos (t : Ht) : 0 < t.pre.length := by
  rw [hpre_eq]
  exact Nat.succ_pos _
theorem kid_nd {z y : Ht} {k : Nat} (h : z.kids[k]? = some y) : ∃ n hd ks, z = .nd n hd ks ∧ ks[k]? = some y := by
  cases z with
  | nd n hd ks => exact ⟨n, hd, ks, rfl, h⟩
  | hole => simp [Ht.kids] at h
theorem kid_mem : ∀ {ks : List Ht} {k : Nat} {y : Ht}, ks[k]? = some y → ∀ x ∈ y.pre, x ∈ hpres ks
  | [], _, _, h, _, _ => by simp at h
  | t :: ks, 0, y, h, x, hx => by
    simp at h
    subst h
    rw [hpres]
    exact List.mem_append_left _ hx
  | t :: ks, k + 1, y, h, x, hx => by
    rw [hpres]
    exact List.mem_append_right _ (kid_mem (by simpa using h) x hx)
theorem sub_pre : ∀ {p : List Nat} {t y : Ht}, t.sub p = some y → ∀ x ∈ y.pre, x ∈ t.pre
  | [], t, y, h, x, hx => by
    rw [Ht.sub] at h
    rw [Option.some.inj h]
    exact hx
  | k :: p, t, y, h, x, hx => by
    rw [Ht.sub] at h
    obtain ⟨z, e1, e2⟩ := Option.bind_eq_some_iff.mp h
    rw [hpre_eq]
    exact List.mem_cons_of_mem _ (kid_mem e1 x (sub_pre e2 x hx))
theorem sub_mem {p : List Nat} {t y : Ht} (h : t.sub p = some y) : y ∈ t.pre := sub_pre h y (by rw [hpre_eq]; simp)
section
variable {k : Nat} {S : Sto} {Q : D → Sto → Prop} {t o y : Ht} {p : List Nat}
end
abbrev pD (p : List Nat) : D := .tup (p.map natD)
def Blw (S : Sto) (t : Gt) (b : Nat) : Prop := ∃ rs : List Nat, S[b]? = some (.lst (rs.map D.ref)) ∧ rs.length = t.pre.length ∧ ∀ (i : Nat) (x : Gt), t.pre[i]? = some x → ∃ r, atI (rs.map D.ref) (i : Int) = some (.ref r) ∧ S[r]? = some (.lst ((gstarts (i + 1) x.kids).map natD))
theorem GFlat.blw {S G : Sto} {t : Gt} {a b : Nat} (h : GFlat S G t a b) : Blw (S ++ G) t b := h.below
theorem Blw.pre {S R : Sto} {t : Gt} {b : Nat} (h : Blw S t b) : Blw (S ++ R) t b := by
  obtain ⟨rs, h1, h2, h3⟩ := h
  refine ⟨rs, get_pre h1, h2, fun i x hx => ?_⟩
  obtain ⟨r, h4, h5⟩ := h3 i x hx
  exact ⟨r, h4, get_pre h5⟩
section
variable {k : Nat} {S : Sto} {Q : D → Sto → Prop} {t : Ht}
end
section
variable {k : Nat} {S : Sto} {Q : D → Sto → Prop} {t : Ht}
end
section
variable {k : Nat}
theorem lparts_ht (t : Ht) : LParts k t.g := fun S Q h => by
  rw [hg_d]
  rw [hg_kidsD] at h
  refine orc_w (ρ := [some t.d]) rfl rfl rfl ?_
  show W (evSs _ b__law_parts _ _) _
  simp only [b__law_parts]
  cases t with
  | hole =>
    rw [ht_hole]
    mul_fits
    rw [gc_out (by simp [below])]
    exact w_ok h
  | nd n hd ks =>
    rw [ht_d]
    have k1 : atI (natD n :: (hd ++ [D.tup (ks.map Ht.d)])) 0 = some (natD n) := at_nat (k := 0) _ (by simp)
    have k2 : atI (natD n :: (hd ++ [D.tup (ks.map Ht.d)])) (-1) = some (.tup (ks.map Ht.d)) := at_last (natD n :: hd) _
    mul_fits
    simp only [b__law_parts_1]
    mul_fits
    rw [gc_out (by simp [below])]
    exact w_ok h
end
mutual
def Ht.dn {β : Type} (f : Ht → β → Nat → β) : Ht → β → List β
  | .nd n hd ks, v => v :: hdns f ks (f (.nd n hd ks) v)
  | .hole, v => [v]
def hdns {β : Type} (f : Ht → β → Nat → β) : List Ht → (Nat → β) → List β
  | [], _ => []
  | t :: ts, g => t.dn f (g 0) ++ hdns f ts fun k => g (k + 1)
end
section
variable {β : Type} {f : Ht → β → Nat → β}
theorem hdn_eq (t : Ht) (v : β) : t.dn f v = v :: hdns f t.kids (f t v) := by
  cases t with
  | nd n hd ks => rw [Ht.dn]; rfl
  | hole => rw [Ht.dn]; rfl
mutual
theorem hdn_len : ∀ (t : Ht) (v : β), (t.dn f v).length = t.pre.length
  | .nd n hd ks, v => by
    have := hdns_len ks (f (.nd n hd ks) v)
    rw [Ht.dn, Ht.pre, List.length_cons, List.length_cons, this]
  | .hole, v => by rw [Ht.dn, Ht.pre]; rfl
theorem hdns_len : ∀ (ts : List Ht) (g : Nat → β), (hdns f ts g).length = (hpres ts).length
  | [], _ => rfl
  | t :: ts, g => by rw [hdns, hpres, List.length_append, List.length_append, hdn_len t, hdns_len ts]
end
theorem hdns_at : ∀ (ks : List Ht) (g : Nat → β) (k : Nat), k < ks.length → (hdns f ks g)[hoff k ks]? = some (g k)
  | [], _, _, h => by simp at h
  | t :: ks, g, 0, _ => by
    rw [hdns, hdn_eq]
    simp [hoff, hpres]
  | t :: ks, g, k + 1, h => by
    rw [hoff_succ, hdns, List.getElem?_append_right (by rw [hdn_len]; omega), hdn_len, Nat.add_sub_cancel_left]
    exact hdns_at ks _ k (by simpa using h)
mutual
theorem hdn_kid' : ∀ (t : Ht) (v : β) (i : Nat) (x : Ht) (u : β) (k : Nat), t.pre[i]? = some x → (t.dn f v)[i]? = some u → k < x.kids.length → (t.dn f v)[i + 1 + hoff k x.kids]? = some (f x u k)
  | .nd n hd ks, v, 0, x, u, k, h, h2, h3 => by
    rw [Ht.pre] at h
    rw [Ht.dn] at h2 ⊢
    simp at h h2
    subst h h2
    rw [show 0 + 1 + hoff k (Ht.nd n hd ks).kids = hoff k ks + 1 from by simp [Ht.kids]; omega, List.getElem?_cons_succ]
    exact hdns_at ks _ k h3
  | .nd n hd ks, v, i + 1, x, u, k, h, h2, h3 => by
    rw [Ht.pre] at h
    rw [Ht.dn] at h2 ⊢
    rw [show i + 1 + 1 + hoff k x.kids = (i + 1 + hoff k x.kids) + 1 from by omega, List.getElem?_cons_succ]
    exact hdns_kid ks _ i x u k (by simpa using h) (by simpa using h2) h3
  | .hole, v, 0, x, u, k, h, h2, h3 => by
    rw [Ht.pre] at h
    simp at h
    subst h
    simp [Ht.kids] at h3
  | .hole, v, i + 1, x, u, k, h, h2, h3 => by
    rw [Ht.pre] at h
    simp at h
theorem hdns_kid : ∀ (ts : List Ht) (g : Nat → β) (i : Nat) (x : Ht) (u : β) (k : Nat), (hpres ts)[i]? = some x → (hdns f ts g)[i]? = some u → k < x.kids.length → (hdns f ts g)[i + 1 + hoff k x.kids]? = some (f x u k)
  | [], _, i, x, u, k, h, _, _ => by simp [hpres] at h
  | t :: ts, g, i, x, u, k, h, h2, h3 => by
    rw [hpres] at h
    rw [hdns] at h2 ⊢
    by_cases c : i < t.pre.length
    · rw [List.getElem?_append_left c] at h
      rw [List.getElem?_append_left (by rw [hdn_len]; exact c)] at h2
      have := hdn_kid' t (g 0) i x u k h h2 h3
      rw [List.getElem?_append_left (List.getElem?_eq_some_iff.mp this).1]
      exact this
    · rw [List.getElem?_append_right (by omega)] at h
      rw [List.getElem?_append_right (by rw [hdn_len]; omega), hdn_len] at h2
      rw [List.getElem?_append_right (by rw [hdn_len]; omega), hdn_len, show i + 1 + hoff k x.kids - t.pre.length = (i - t.pre.length) + 1 + hoff k x.kids from by omega]
      exact hdns_kid ts _ _ x u k h h2 h3
end
theorem hdn_kid {t : Ht} {v : β} {i : Nat} {x : Ht} {u : β} {k : Nat} (h : t.pre[i]? = some x) (h2 : (t.dn f v)[i]? = some u) (h3 : k < x.kids.length) : (t.dn f v)[i + 1 + goff k x.g.kids]? = some (f x u k) := by
  rw [hg_kids, hoff_g]
  exact hdn_kid' t v i x u k h h2 h3
theorem hpre_kidG {t : Ht} {i : Nat} {x : Ht} {k : Nat} {y : Ht} (h : t.pre[i]? = some x) (h2 : x.kids[k]? = some y) : t.pre[i + 1 + goff k x.g.kids]? = some y := by
  rw [hg_kids]
  exact hpre_kid t i x k y h h2
/-- what stays true on the way down -/
theorem hdn_inv (P : Ht → β → Prop) {t : Ht} {v : β} (h0 : P t v) (hs : ∀ x u k y, P x u → x.kids[k]? = some y → P y (f x u k)) : ∀ (i : Nat) (x : Ht) (u : β), t.pre[i]? = some x → (t.dn f v)[i]? = some u → P x u := by
  intro i
  induction i using Nat.strongRecOn with
  | _ i ih =>
  intro x u hx hu
  cases i with
  | zero =>
    rw [hpre_eq] at hx
    rw [hdn_eq] at hu
    simp at hx hu
    subst hx hu
    exact h0
  | succ q =>
    have hq : q + 1 < t.g.pre.length := by rw [hg_len]; exact (List.getElem?_eq_some_iff.mp hx).1
    obtain ⟨j, y, k, h1, h2, h3, h4⟩ := gparent t.g q hq
    obtain ⟨z, hz, rfl⟩ := hg_get h2
    obtain ⟨w, hw⟩ : ∃ w, (t.dn f v)[j]? = some w := ⟨_, List.getElem?_eq_getElem (by rw [hdn_len]; exact (List.getElem?_eq_some_iff.mp hz).1)⟩
    have hk : k < z.kids.length := by rw [hg_kids, List.length_map] at h3; exact h3
    have e := hdn_kid hz hw hk
    rw [← h4, hu] at e
    rw [Option.some.inj e]
    have e2 := hpre_kidG hz (List.getElem?_eq_getElem hk)
    rw [← h4, hx] at e2
    rw [Option.some.inj e2]
    exact hs z w k _ (ih j h1 z w hz hw) (List.getElem?_eq_getElem hk)
end
mutual
def WfH (b : Bk) (nm : Str) : Ht → Prop
  | .nd n _ ks => ∃ r, b.rls[n]? = some r ∧ r.nm = nm ∧ WfHs b (r.sl.map (·.nm)) ks
  | .hole => False
def WfHs (b : Bk) : List Str → List Ht → Prop
  | [], [] => True
  | x :: xs, t :: ts => WfH b x t ∧ WfHs b xs ts
  | [], _ :: _ => False
  | _ :: _, [] => False
end
theorem WfHs.len {b : Bk} : ∀ {xs : List Str} {ts : List Ht}, WfHs b xs ts → ts.length = xs.length
  | [], [], _ => rfl
  | _ :: xs, _ :: ts, h => by
    rw [WfHs] at h
    rw [List.length_cons, List.length_cons, WfHs.len h.2]
  | [], _ :: _, h => by simp [WfHs] at h
  | _ :: _, [], h => by simp [WfHs] at h
theorem WfHs.get {b : Bk} : ∀ {xs : List Str} {ts : List Ht} {k : Nat} {y : Ht}, WfHs b xs ts → ts[k]? = some y → ∃ x, xs[k]? = some x ∧ WfH b x y
  | [], [], k, y, _, h => by simp at h
  | x :: xs, t :: ts, 0, y, w, h => by
    rw [WfHs] at w
    simp at h
    subst h
    exact ⟨x, rfl, w.1⟩
  | x :: xs, t :: ts, k + 1, y, w, h => by
    rw [WfHs] at w
    obtain ⟨z, h1, h2⟩ := WfHs.get w.2 (by simpa using h)
    exact ⟨z, by simpa using h1, h2⟩
  | [], _ :: _, _, _, w, _ => by simp [WfHs] at w
  | _ :: _, [], _, _, _, h => by simp at h
mutual
theorem wfh_of {b : Bk} : ∀ {nm : Str} (t : Tr), Wf b nm t → WfH b nm t.h
  | nm, .nd n ps, h => by
    rw [Wf] at h
    obtain ⟨r, h1, h2, h3⟩ := h
    rw [Tr.h, WfH]
    exact ⟨r, h1, h2, wfhs_of ps h3⟩
theorem wfhs_of {b : Bk} : ∀ {xs : List Str} (ts : List Tr), Wfs b xs ts → WfHs b xs (trh ts)
  | [], [], _ => by rw [trh, WfHs]; trivial
  | x :: xs, t :: ts, h => by
    rw [Wfs] at h
    rw [trh, WfHs]
    exact ⟨wfh_of t h.1, wfhs_of ts h.2⟩
  | [], _ :: _, h => by simp [Wfs] at h
  | _ :: _, [], h => by simp [Wfs] at h
end
def rlI (b : Bk) (n : Nat) : Rl := (b.rls[n]?).getD ⟨"", [], [], []⟩
theorem rlI_eq {b : Bk} {n : Nat} {r : Rl} (h : b.rls[n]? = some r) : rlI b n = r := by
  unfold rlI
  rw [h]
  rfl
theorem WfH.kid {b : Bk} {nm : Str} {x y : Ht} {k : Nat} (w : WfH b nm x) (h : x.kids[k]? = some y) : ∃ s, (rlI b x.num).sl[k]? = some s ∧ WfH b s.nm y := by
  cases x with
  | hole => simp [WfH] at w
  | nd n hd ks =>
    rw [WfH] at w
    obtain ⟨r, h1, h2, h3⟩ := w
    obtain ⟨z, e1, e2⟩ := h3.get (k := k) (y := y) h
    rw [List.getElem?_map] at e1
    obtain ⟨s, q1, rfl⟩ := Option.map_eq_some_iff.mp e1
    exact ⟨s, by rw [show (Ht.nd n hd ks).num = n from rfl, rlI_eq h1]; exact q1, e2⟩
theorem WfH.top {b : Bk} {nm : Str} {x : Ht} (w : WfH b nm x) : ∃ n hd ks, x = .nd n hd ks ∧ b.rls[n]? = some (rlI b n) ∧ (rlI b n).nm = nm ∧ ks.length = (rlI b n).sl.length := by
  cases x with
  | hole => simp [WfH] at w
  | nd n hd ks =>
    rw [WfH] at w
    obtain ⟨r, h1, h2, h3⟩ := w
    have := h3.len
    rw [List.length_map] at this
    exact ⟨n, hd, ks, rfl, by rw [rlI_eq h1]; exact h1, by rw [rlI_eq h1]; exact h2, by rw [rlI_eq h1]; exact this⟩
theorem WfH.node {b : Bk} {nm : Str} {t : Ht} (w : WfH b nm t) : ∀ x ∈ t.pre, ∃ nm', WfH b nm' x := fun x hx => by
  obtain ⟨i, hi, rfl⟩ := List.mem_iff_getElem.mp hx
  exact hdn_inv (f := fun _ (_ : Unit) _ => ()) (fun x _ => ∃ nm', WfH b nm' x) ⟨nm, w⟩ (fun x u k y ⟨nm', w⟩ h => by
    obtain ⟨s, _, q⟩ := w.kid h
    exact ⟨_, q⟩) i _ () (List.getElem?_eq_getElem hi) (by
      have : i < (t.dn (fun _ (_ : Unit) _ => ()) ()).length := by rw [hdn_len]; exact hi
      rw [List.getElem?_eq_getElem this])

def own (b : Bk) (x : Ht) : Nat := (rlI b x.num).ms.length
def cnt_ (b : Bk) (t : Ht) : Nat := ((t.pre).map (own b)).sum
def cntF (b : Bk) (ts : List Ht) : Nat := ((hpres ts).map (own b)).sum
def spo (b : Bk) (x : Ht) (u : List Nat × Nat) : List Nat := u.1 ++ List.range' u.2 (own b x)
def plI (b : Bk) (x : Ht) (k : Nat) : List Nat := ((rlI b x.num).sl.getD k ⟨"", []⟩).pl
def fL (b : Bk) (x : Ht) (u : List Nat × Nat) (k : Nat) : List Nat × Nat := ((plI b x k).map fun a => (spo b x u).getD a 0, u.2 + own b x + cntF b (x.kids.take k))
def arF (b : Bk) (nm : Str) : Nat := (gS b.nms nm).getD 0
theorem cnt_eq (b : Bk) (t : Ht) : cnt_ b t = own b t + cntF b t.kids := by
  unfold cnt_ cntF
  rw [hpre_eq, List.map_cons, List.sum_cons]
theorem cntF_cons (b : Bk) (t : Ht) (ts : List Ht) : cntF b (t :: ts) = cnt_ b t + cntF b ts := by
  unfold cnt_ cntF
  rw [hpres, List.map_append, List.sum_append]
theorem cntF_take_le (b : Bk) : ∀ (ts : List Ht) (k : Nat) (y : Ht), ts[k]? = some y → cntF b (ts.take k) + cnt_ b y ≤ cntF b ts
  | [], _, _, h => by simp at h
  | t :: ts, 0, y, h => by
    simp at h
    subst h
    rw [List.take_zero, cntF_cons]
    simp [cntF, hpres]
  | t :: ts, k + 1, y, h => by
    have := cntF_take_le b ts k y (by simpa using h)
    rw [List.take_succ_cons, cntF_cons, cntF_cons]
    omega
/-- names and arities fit -/
structure BkA (b : Bk) : Prop where
  ar : ∀ (n : Nat) (r : Rl), b.rls[n]? = some r → (∀ s ∈ r.sl, s.pl.length = arF b s.nm ∧ s.pl.Nodup ∧ ∀ x ∈ s.pl, x < arF b r.nm + r.ms.length) ∧ (∀ p ∈ r.ts, PtIn (arF b r.nm + r.ms.length) p)
  nm : ∀ r ∈ b.rls, r.nm ∈ b.nms.map (·.1)
  a3 : ∀ nm, arF b nm ≤ 3
  m6 : ∀ r ∈ b.rls, r.ms.length ≤ 6
  s3 : ∀ r ∈ b.rls, r.sl.length ≤ 3
  t60 : ∀ r ∈ b.rls, r.ts.length ≤ 12
/-- what a node's attributes keep -/
structure LayOk (b : Bk) (N : Nat) (x : Ht) (u : List Nat × Nat) : Prop where
  wf : ∃ nm, WfH b nm x ∧ u.1.length = arF b nm
  lt : ∀ q ∈ u.1, q < N
  st : u.2 + cnt_ b x ≤ N
theorem LayOk.spo_len {b : Bk} {N : Nat} {x : Ht} {u : List Nat × Nat} (o : LayOk b N x u) : ∃ n hd ks, x = .nd n hd ks ∧ b.rls[n]? = some (rlI b n) ∧ ks.length = (rlI b n).sl.length ∧ (spo b x u).length = arF b (rlI b n).nm + (rlI b n).ms.length := by
  obtain ⟨nm, w, h1⟩ := o.wf
  obtain ⟨n, hd, ks, rfl, h2, h3, h4⟩ := w.top
  refine ⟨n, hd, ks, rfl, h2, h4, ?_⟩
  unfold spo own
  rw [List.length_append, List.length_range', h1, h3]
  rfl
theorem LayOk.spo_lt {b : Bk} {N : Nat} {x : Ht} {u : List Nat × Nat} (o : LayOk b N x u) : ∀ q ∈ spo b x u, q < N := fun q hq => by
  unfold spo at hq
  rcases List.mem_append.mp hq with h | h
  · exact o.lt q h
  · have := o.st
    rw [cnt_eq] at this
    rw [List.mem_range'_1] at h
    omega
theorem LayOk.kid {b : Bk} (A : BkA b) {N : Nat} {x : Ht} {u : List Nat × Nat} {k : Nat} {y : Ht} (o : LayOk b N x u) (h : x.kids[k]? = some y) : LayOk b N y (fL b x u k) := by
  obtain ⟨n, hd, ks, rfl, h1, h2, h3⟩ := o.spo_len
  obtain ⟨nm, w, _⟩ := o.wf
  obtain ⟨s, e1, e2⟩ := w.kid h
  have e1 : (rlI b n).sl[k]? = some s := e1
  have epl : plI b (.nd n hd ks) k = s.pl := by
    unfold plI
    rw [show (Ht.nd n hd ks).num = n from rfl, List.getD_eq_getElem?_getD, e1]
    rfl
  have hs := (A.ar n _ h1).1 s (List.mem_of_getElem? e1)
  refine ⟨⟨s.nm, e2, ?_⟩, fun q hq => ?_, ?_⟩
  · unfold fL
    rw [epl]
    show (s.pl.map _).length = _
    rw [List.length_map]
    exact hs.1
  · unfold fL at hq
    rw [epl] at hq
    obtain ⟨a, ha, rfl⟩ := List.mem_map.mp hq
    have hlt : a < (spo b (.nd n hd ks) u).length := by rw [h3]; exact hs.2.2 a ha
    rw [List.getD_eq_getElem?_getD, List.getElem?_eq_getElem hlt]
    exact o.spo_lt _ (List.getElem_mem hlt)
  · have := o.st
    rw [cnt_eq] at this
    have q := cntF_take_le b ks k y h
    show u.2 + own b _ + cntF b (ks.take k) + cnt_ b y ≤ N
    have : u.2 + (own b (.nd n hd ks) + cntF b ks) ≤ N := this
    omega
def v0 (b : Bk) (nm : Str) : List Nat × Nat := (List.range (arF b nm), arF b nm)
section
variable {k : Nat} {S : Sto} {Q : D → Sto → Prop} {b : Bk} {t : Ht} {nm : Str}
theorem wf_klen (A : BkA b) {t : Ht} (w : WfH b nm t) : ∀ x ∈ t.pre, x.kids.length ≤ 10 := fun x hx => by
  obtain ⟨nm', w'⟩ := w.node x hx
  obtain ⟨n, hd, ks, rfl, h1, h2, h3⟩ := w'.top
  have := A.s3 _ (List.mem_of_getElem? h1)
  show ks.length ≤ 10
  omega
end
section
variable {k : Nat} {S : Sto} {Q : D → Sto → Prop} {b : Bk} {t : Ht} {nm : Str}
end
section
variable {k : Nat} {S : Sto} {Q : D → Sto → Prop} {b : Bk} {t : Ht} {nm : Str}
theorem hlflat_w (hz : t.pre.length ≤ 3000) (hk : ∀ x ∈ t.pre, x.kids.length ≤ 10) (h : ∀ (G : Sto) (a b c : Nat), (S ++ G)[a]? = some (.lst (t.pre.map Ht.d)) → Blw (S ++ G) t.g b → (S ++ G)[c]? = some (.lst [.ref a, .ref b]) → Q (.ref c) (S ++ G)) : W (orc T (k + 2) n__law_flat [t.d] S) Q := by
  rw [← hg_d]
  refine glflat_w (hg_all fun x _ => lparts_ht x) (by rw [hg_len]; exact hz) (hg_klen hk) fun G a b c fl kc => ?_
  have ka := fl.na
  rw [hg_preD] at ka
  exact h G a b c ka fl.blw kc
end
section
variable {k : Nat} {S : Sto} {Q : D → Sto → Prop} {b : Bk} {t : Ht} {nm : Str} {τs : List Nat}
end
theorem WfH.put {b : Bk} : ∀ (p : List Nat) (nm : Str) (t x y : Ht) (nmx : Str), WfH b nm t → t.sub p = some x → WfH b nmx x → WfH b nmx y → WfH b nm (t.put p y)
  | [], nm, t, x, y, nmx, w, h, wx, wy => by
    rw [Ht.sub] at h
    cases h
    have e1 : t.put [] y = y := by cases t <;> rw [Ht.put]
    rw [e1]
    obtain ⟨n, hd, ks, e, h1, h2, h3⟩ := w.top
    obtain ⟨n', hd', ks', e', h1', h2', h3'⟩ := wx.top
    rw [e] at e'
    cases e'
    rw [← h2, h2']
    exact wy
  | k :: p, nm, .hole, x, y, nmx, w, h, wx, wy => by simp [WfH] at w
  | k :: p, nm, .nd n hd ks, x, y, nmx, w, h, wx, wy => by
    rw [Ht.sub] at h
    obtain ⟨z, e1, e2⟩ := Option.bind_eq_some_iff.mp h
    have e1 : ks[k]? = some z := e1
    rw [Ht.put, e1]
    rw [WfH] at w ⊢
    obtain ⟨r, h1, h2, h3⟩ := w
    refine ⟨r, h1, h2, ?_⟩
    have : ∀ (xs : List Str) (ks : List Ht) (k : Nat), WfHs b xs ks → ks[k]? = some z → WfHs b xs (ks.set k (z.put p y)) := by
      intro xs ks
      induction ks generalizing xs with
      | nil => intro k _ h; simp at h
      | cons t ks ih =>
        intro k w h
        cases xs with
        | nil => simp [WfHs] at w
        | cons a xs =>
        rw [WfHs] at w
        cases k with
        | zero =>
          simp at h
          subst h
          rw [List.set_cons_zero, WfHs]
          exact ⟨WfH.put p a t x y nmx w.1 e2 wx wy, w.2⟩
        | succ k =>
          rw [List.set_cons_succ, WfHs]
          exact ⟨w.1, ih xs k w.2 (by simpa using h)⟩
    exact this _ ks k h3 e1

section
variable {k : Nat} {S : Sto} {Q : D → Sto → Prop} {t o y : Ht} {p : List Nat}
end
section
variable {k : Nat} {S : Sto} {Q : D → Sto → Prop}
end
def gN {α : Type} : List (Nat × α) → Nat → Option α
  | [], _ => none
  | (j, a) :: r, s => if j = s then some a else gN r s
section
variable {α : Type} {e : α → D}
theorem gN_some {s : Nat} : ∀ {l : List (Nat × α)}, s ∈ l.map (·.1) → ∃ a, gN l s = some a ∧ (s, a) ∈ l
  | (j, b) :: r, h => by
    unfold gN
    by_cases c : j = s
    · subst c
      exact ⟨b, by rw [if_pos rfl], by simp⟩
    · rw [if_neg c]
      rw [List.map_cons] at h
      rcases List.mem_cons.mp h with h | h
      · exact absurd h.symm c
      · obtain ⟨a, h1, h2⟩ := gN_some h
        exact ⟨a, h1, by simp [h2]⟩
end
/-- tags put down so far -/
structure TgOk (τ : Nat → Nat) (N : Nat) (l : List (Nat × Nat)) : Prop where
  nd : (l.map (·.1)).Nodup
  val : ∀ p ∈ l, p.2 = τ p.1 ∧ p.1 < N
theorem TgOk.full {τ : Nat → Nat} {N : Nat} {l : List (Nat × Nat)} (o : TgOk τ N l) (h : ∀ q, q < N → q ∈ l.map (·.1)) : l.length = N ∧ ∀ q, q < N → gN l q = some (τ q) := by
  constructor
  · have hp : (l.map (·.1)).Perm (List.range N) := (List.perm_ext_iff_of_nodup o.nd List.nodup_range).mpr fun a => by
      rw [List.mem_range]
      constructor
      · intro ha
        obtain ⟨p, hp, rfl⟩ := List.mem_map.mp ha
        exact (o.val p hp).2
      · exact h a
    have := hp.length_eq
    simpa using this
  · intro q hq
    obtain ⟨a, h1, h2⟩ := gN_some (h q hq)
    rw [h1]
    exact congrArg some (o.val _ h2).1
section
variable {k : Nat} {S : Sto} {Q : D → Sto → Prop} {b : Bk} {t : Tr} {nm : Str} {τs : List Nat}
end
structure TtOk (l : List Str) : Prop where
  nd : l.Nodup
  ne : ∀ s ∈ l, s.length ≠ 0
  le : ∀ s ∈ l, s.length ≤ 64
  ok : ∀ s ∈ l, PyData.strOk s = true
def Asc (l : List Nat) : Prop := ∀ c ∈ l, c < 1114112
theorem Asc.take {a : List Nat} (h : Asc a) (n : Nat) : Asc (a.take n) := fun c hc => h c (List.mem_of_mem_take hc)
theorem Asc.drop {a : List Nat} (h : Asc a) (n : Nat) : Asc (a.drop n) := fun c hc => h c (List.mem_of_mem_drop hc)
theorem TtOk.perm {l m : List Str} (o : TtOk l) (h : m.Perm l) : TtOk m := ⟨h.nodup_iff.mpr o.nd, fun s hs => o.ne s (h.mem_iff.mp hs), fun s hs => o.le s (h.mem_iff.mp hs), fun s hs => o.ok s (h.mem_iff.mp hs)⟩
section
variable {k : Nat} {R : Sto} {Q : D → Sto → Prop} {d : DS} {m : Nat}
end
section
variable {k : Nat} {R : Sto} {Q : D → Sto → Prop} {d : DS} {m : Nat}
end
section
variable {k : Nat} {R : Sto} {Q : D → Sto → Prop} {d : DS} {m : Nat}
structure LdOk (b : Bk) : Prop where
  tt : TtOk (b.nms.map (·.1))
  top : (b.top, 0) ∈ b.nms
  ar : ∀ p ∈ b.nms, p.2 ≤ 3
  rl : ∀ r ∈ b.rls, RlIn b.nms r
  lr : ∀ r ∈ b.rls, (∃ x ∈ b.rls, x.nm = r.nm ∧ x.sl = []) ∧ ∃ x ∈ b.rls, x.nm = r.nm ∧ x.sl.map (·.nm) = [r.nm]
  nz : b.nms.length ≤ 64
  r0 : 0 < b.rls.length
  rz : b.rls.length ≤ 400
def LR (acc : List Rl) (s : Str) : Prop := (∃ x ∈ acc, x.nm = s ∧ x.sl = []) ∧ ∃ x ∈ acc, x.nm = s ∧ x.sl.map (·.nm) = [s]
theorem LR.mono {acc acc' : List Rl} {s : Str} (h : ∀ x ∈ acc, x ∈ acc') (o : LR acc s) : LR acc' s :=
  ⟨let ⟨x, h1, h2⟩ := o.1; ⟨x, h x h1, h2⟩, let ⟨x, h1, h2⟩ := o.2; ⟨x, h x h1, h2⟩⟩
end
section
variable {k : Nat} {R : Sto} {Q : D → Sto → Prop} {d0 : DS} {m : Nat}
theorem RlIn.perm {ps ps' : List (Str × Nat)} (hmem : ∀ p, p ∈ ps' ↔ p ∈ ps) {r : Rl} (this : RlIn ps r) : RlIn ps' r := by
  obtain ⟨x, x1, x2, x3⟩ := this.ex
  exact ⟨⟨x, (hmem _).mpr x1, fun s hs => let ⟨a', u1, u2⟩ := x2 s hs; ⟨a', (hmem _).mpr u1, u2⟩, x3⟩, this.sl, this.ms, this.tl, this.ss, this.mc⟩
/-- what is known of the rows before the last lines -/
structure LdC (n0 : Str) (nr : List Str) (ps : List (Str × Nat)) (acc : List Rl) : Prop where
  tt : TtOk (n0 :: nr)
  pn : ps.map (·.1) = n0 :: nr
  p0 : (n0, 0) ∈ ps
  pa : ∀ p ∈ ps, p.2 ≤ 3
  pz : ps.length ≤ 64
  rl : ∀ x ∈ acc, RlIn ps x
  lr : ∀ x ∈ acc, LR acc x.nm
  r0 : 0 < acc.length
  rz : acc.length ≤ 400
theorem LdC.of {n0 : Str} {nr : List Str} {ps : List (Str × Nat)} {acc acc' : List Rl} (c : LdC n0 nr ps acc) (h : ∀ x, x ∈ acc' ↔ x ∈ acc) (hz : acc'.length ≤ 400) : LdC n0 nr ps acc' :=
  ⟨c.tt, c.pn, c.p0, c.pa, c.pz, fun x hx => c.rl x ((h x).mp hx), fun x hx => (c.lr x ((h x).mp hx)).mono fun y hy => (h y).mpr hy, by
    obtain ⟨y, hy⟩ := List.exists_mem_of_length_pos c.r0
    exact List.length_pos_of_mem ((h y).mpr hy), hz⟩
end
section
variable {k : Nat} {R : Sto} {Q : D → Sto → Prop} {d d0 : DS} {m : Nat}
end
section
variable {k : Nat} {R : Sto} {Q : D → Sto → Prop} {d d0 : DS} {m : Nat}
end
section
variable {k : Nat} {R : Sto} {Q : D → Sto → Prop} {d d0 : DS} {m : Nat}
end
section
variable {k : Nat} {R : Sto} {Q : D → Sto → Prop} {d d0 : DS} {m : Nat}
end
section
variable {S : Sto} {a b : Nat} {xs ys : List Str}
end
def LpAt (b : Bk) (s : Str) (i : Nat) : Prop := ∃ r, b.rls[i]? = some r ∧ r.nm = s ∧ r.sl.map (·.nm) = [s]
/-- the dict of loops: names and the places of their lists -/
structure LpD (b : Bk) (n : Nat) (St : Sto) (a : Nat) (ks : List (Str × Nat)) : Prop where
  at_ : St[a]? = some (.dic (encK D.ref ks))
  ls : ∀ s j, gS ks s = some j → a < j ∧ ∃ nums : List Nat, St[j]? = some (.lst (nums.map natD)) ∧ 0 < nums.length ∧ nums.length ≤ n ∧ ∀ i ∈ nums, LpAt b s i
  all : ∀ i < n, ∀ s, LpAt b s i → (gS ks s).isSome = true
  len : ks.length ≤ n
theorem LpD.pre {b : Bk} {n : Nat} {St g : Sto} {a : Nat} {ks : List (Str × Nat)} (L : LpD b n St a ks) : LpD b n (St ++ g) a ks :=
  ⟨get_pre L.at_, fun s j h => let ⟨h1, nums, h2, h3⟩ := L.ls s j h; ⟨h1, nums, get_pre h2, h3⟩, L.all, L.len⟩
theorem LpD.st {b : Bk} {n : Nat} {d d' : DS} {X g : Sto} {a : Nat} {ks : List (Str × Nat)} (h2 : 2 ≤ a) (L : LpD b n (d.st X) a ks) : LpD b n (d'.st (X ++ g)) a ks := by
  have key : ∀ (j : Nat) (o : Ob), 2 ≤ j → (d.st X)[j]? = some o → (d'.st (X ++ g))[j]? = some o := fun j o hj e => by
    obtain ⟨i, rfl⟩ : ∃ i, j = i + 2 := ⟨j - 2, by omega⟩
    rw [st_get] at e ⊢
    exact get_pre e
  exact ⟨key _ _ h2 L.at_, fun s j h => let ⟨h1, nums, h3, h4⟩ := L.ls s j h; ⟨h1, nums, key _ _ (by omega) h3, h4⟩, L.all, L.len⟩
section
variable {k : Nat} {S : Sto} {Q : D → Sto → Prop} {b : Bk}
end
/-- each node's rule is in the book and has slots enough -/
def Nw (b : Bk) (t : Ht) : Prop := ∀ y ∈ t.pre, y = .hole ∨ ∃ n hd ks r, y = .nd n hd ks ∧ b.rls[n]? = some r ∧ ks.length ≤ r.sl.length
def snm (b : Bk) (n k : Nat) : Str := (((rlI b n).sl[k]?).map (·.nm)).getD ""
def nml (b : Bk) (t : Ht) (nm : Str) : List Str := t.dn (fun x _ k => snm b x.num k) nm
theorem nml_len (b : Bk) (t : Ht) (nm : Str) : (nml b t nm).length = t.pre.length := hdn_len t nm
section
variable {k : Nat} {S : Sto} {Q : D → Sto → Prop} {t : Ht} {b : Bk} {nm : Str}
theorem nml_kid {i j : Nat} {x : Gt} (hx : t.g.pre[i]? = some x) (hj : j < x.kids.length) : ∃ y : Ht, t.pre[i]? = some y ∧ x = y.g ∧ j < y.kids.length ∧ (nml b t nm)[i + 1 + goff j x.kids]? = some (snm b y.num j) := by
  obtain ⟨y, h1, rfl⟩ := hg_get hx
  rw [hg_kids] at hj ⊢
  rw [List.length_map] at hj
  have hi : i < (nml b t nm).length := by rw [nml_len]; exact (List.getElem?_eq_some_iff.mp h1).1
  refine ⟨y, h1, rfl, hj, ?_⟩
  rw [hoff_g]
  exact hdn_kid' t nm i y _ j h1 (List.getElem?_eq_getElem hi) hj
theorem lnames_w (hw : Nw b t) (hb : b.rls.length ≤ 1000) (h3 : ∀ r ∈ b.rls, r.sl.length ≤ 3) (hz : t.pre.length ≤ 3000) (hk : ∀ x ∈ t.pre, x.kids.length ≤ 10) (h : ∀ (G : Sto) (c : Nat), S.length ≤ c → (S ++ G)[c]? = some (.lst ((nml b t nm).map D.str)) → Q (.ref c) (S ++ G)) : W (orc T (k + 3) n__law_names_along [b.d, .str nm, t.d] S) Q := by
  refine orc_w (ρ := [some b.d, some (.str nm), some t.d, none, none, none, none, none, none]) rfl rfl rfl ?_
  show W (evSs _ b__law_names_along _ _) _
  simp only [b__law_names_along]
  mul_fits
  refine hlflat_w hz hk fun G a bb c ka hB kc => ?_
  obtain ⟨rs, kb, hrl, hbl⟩ := hB
  rw [hg_len] at hrl
  refine w_may (show bindN (.tup [3, 4]) (.ref c) _ _ = some [some b.d, some (.str nm), some t.d, some (.ref a), some (.ref bb), none, none, none, none] from by simp only [bindN, sq_lst kc, Option.bind_some]; rfl) ?_
  generalize hSx : S ++ G = Sx at *
  mul_fits
  refine ⟨by rw [List.length_map]; exact le_size (by omega), ?_⟩
  refine loopQ_m Ht.d (fun _ => .str nm) (fun Sy => Sy = Sx) _ (fun r _ Sy e => ?_) (fun Sy e => ?_) _ rfl
  · subst e
    refine ⟨ka, ?_⟩
    mul_fits
    exact ⟨rfl, rfl⟩
  subst e
  refine ⟨ka, ?_⟩
  have ka' : ∀ o, (Sy ++ [o])[a]? = some (.lst (t.pre.map Ht.d)) := fun o => get_pre ka
  have em : (t.pre.map fun _ => D.str nm) = (t.pre.map fun _ => nm).map D.str := by rw [List.map_map]; rfl
  rw [em]
  have ka1 := ka' (.lst ((t.pre.map fun _ => nm).map D.str))
  have kb' : ∀ o, (Sy ++ [o])[bb]? = some (.lst (rs.map D.ref)) := fun o => get_pre kb
  mul_fits
  rw [List.length_map]
  have bd : bd62 0 ∧ bd62 (t.pre.length : Int) := by unfold bd62; omega
  mul_fits
  rw [rgD_0]
  refine loopS_e natD (fun r ρ S' => ∃ (i m : Nat) (A : List Str) (o2 o3 : Option D), i + m = t.pre.length ∧ r = List.range' i m ∧ S' = Sy ++ [.lst (A.map D.str)] ∧ ρ = [some b.d, some (.str nm), some t.d, some (.ref a), some (.ref bb), some (.ref Sy.length), o2, o3, none] ∧ Agr t.g A (nml b t nm) i 0) ?_ ?_ _ _ _ ⟨0, t.pre.length, t.pre.map fun _ => nm, _, _, by omega, rfl, rfl, rfl, .start (by rw [List.length_map, nml_len]) (by
    unfold nml
    rw [hdn_eq]
    have : 0 < t.pre.length := hpre_pos t
    simp [this])⟩
  · rintro i r ρ S' ⟨i', m, A, o2, o3, him, hr, rfl, rfl, ag⟩
    refine ⟨trivial, ?_⟩
    cases m with
    | zero => exact absurd hr (by simp)
    | succ m =>
    rw [rg'_cons, List.cons.injEq] at hr
    obtain ⟨rfl, rfl⟩ := hr
    have hi0 : i < t.pre.length := by omega
    have hi : i < t.g.pre.length := by rw [hg_len]; omega
    have hx : t.g.pre[i]? = some t.g.pre[i] := List.getElem?_eq_getElem hi
    generalize t.g.pre[i] = x at hx
    obtain ⟨xr, kr, kx⟩ := hbl i x hx
    have hxk : x.kids.length ≤ 10 := hg_klen hk x (List.mem_of_getElem? hx)
    obtain ⟨y, hy, rfl⟩ := hg_get hx
    have hya : atI (t.pre.map Ht.d) (i : Int) = some y.d := by
      rw [at_map _ _ _ hi0, (List.getElem?_eq_some_iff.mp hy).2]
    simp only [b__law_names_along_1]
    have ka2 := ka' (.lst (A.map D.str))
    have kb2 := kb' (.lst (A.map D.str))
    have kx2 : (Sy ++ [Ob.lst (A.map D.str)])[xr]? = some (.lst ((gstarts (i + 1) y.g.kids).map natD)) := get_pre kx
    rcases hw y (List.mem_of_getElem? hy) with rfl | ⟨n, hd, ks, r, rfl, hr, hkr⟩
    · mul_fits
      exact ⟨_, .inl rfl, i + 1, m, A, _, _, by omega, rfl, rfl, rfl, ag.next hx (by rw [hg_kids]; rfl)⟩
    generalize hyy : Ht.nd n hd ks = y at *
    have hyd : y.d = .tup (natD n :: (hd ++ [.tup (htd ks)])) := by rw [← hyy, Ht.d]
    have hyn : y.num = n := by rw [← hyy]; rfl
    have hyk : y.kids = ks := by rw [← hyy]; rfl
    rw [hyd] at hya
    have hnl : n < b.rls.length := (List.getElem?_eq_some_iff.mp hr).1
    have hatn : atI (b.rls.map Rl.d) (n : Int) = some r.d := by rw [at_rl hnl, (List.getElem?_eq_some_iff.mp hr).2]
    have hrI := rlI_eq hr
    mul_fits
    rw [List.length_map, gstarts_len]
    have bd : bd62 0 ∧ bd62 (y.g.kids.length : Int) := by unfold bd62; omega
    mul_fits
    rw [rgD_0]
    refine loopS_e natD (fun r ρ S' => ∃ (j m : Nat) (A : List Str) (o3 : Option D), j + m = y.g.kids.length ∧ r = List.range' j m ∧ S' = Sy ++ [.lst (A.map D.str)] ∧ ρ = [some b.d, some (.str nm), some t.d, some (.ref a), some (.ref bb), some (.ref Sy.length), some (natD i), o3, none] ∧ Agr t.g A (nml b t nm) i j) ?_ ?_ _ _ _ ⟨0, y.g.kids.length, A, _, by omega, rfl, rfl, rfl, ag⟩
    · rintro j r' ρ S' ⟨j', m', A, o3, hjm, hr', rfl, rfl, ag⟩
      refine ⟨trivial, ?_⟩
      cases m' with
      | zero => exact absurd hr' (by simp)
      | succ m' =>
      rw [rg'_cons, List.cons.injEq] at hr'
      obtain ⟨rfl, rfl⟩ := hr'
      have hj : j < y.g.kids.length := by omega
      have hjk : j < r.sl.length := by rw [hg_kids, List.length_map, hyk] at hj; omega
      have hlt := gpre_lt hx hj
      have ka3 := ka' (.lst (A.map D.str))
      have kb3 := kb' (.lst (A.map D.str))
      have kx3 : (Sy ++ [Ob.lst (A.map D.str)])[xr]? = some (.lst ((gstarts (i + 1) y.g.kids).map natD)) := get_pre kx
      have kA : (Sy ++ [Ob.lst (A.map D.str)])[Sy.length]? = some (.lst (A.map D.str)) := get_end _ _
      have ks' := at_starts (i := i) hj
      have hAl : A.length = t.pre.length := by rw [ag.len, nml_len]
      have hsl : atI (r.sl.map Sl.d) (j : Int) = some (r.sl[j]).d := at_map _ _ _ hjk
      obtain ⟨y', z1, z2, z3, z4⟩ := nml_kid (b := b) (nm := nm) hx hj
      have ey : y' = y := Option.some.inj (z1.symm.trans hy)
      subst ey
      have esn : snm b y'.num j = (r.sl[j]).nm := by
        unfold snm
        rw [hyn, hrI, List.getElem?_eq_getElem hjk]
        rfl
      rw [esn] at z4
      simp only [b__law_names_along_2]
      mul_fits
      refine v_idxT (at_nat (k := 0) _ (by simp)) ?_
      mul_fits
      refine v_idxT hatn ?_
      mul_fits
      refine v_set kA (ix_nat (by rw [List.length_map, hAl, ← hg_len]; exact hlt)) ?_
      rw [set_end]
      mul_fits
      exact ⟨_, .inl rfl, j + 1, m', A.set (i + 1 + goff j y'.g.kids) (r.sl[j]).nm, _, by omega, rfl, by rw [List.map_set], rfl, ag.step hx z4⟩
    · rintro ρ S' ⟨j, m', A, o3, hjm, hr', rfl, rfl, ag⟩
      refine ⟨trivial, ?_⟩
      cases m' with
      | succ m' => exact absurd hr' (by simp [rg'_cons])
      | zero =>
      mul_fits
      exact ⟨_, .inl rfl, i + 1, m, A, _, _, by omega, rfl, rfl, rfl, ag.next hx (by omega)⟩
  · rintro ρ S' ⟨i, m, A, o2, o3, him, hr, rfl, rfl, ag⟩
    refine ⟨trivial, ?_⟩
    cases m with
    | succ m => exact absurd hr (by simp [rg'_cons])
    | zero =>
    have := ag.done (by rw [nml_len, hg_len]) (by rw [hg_len]; omega)
    subst this
    mul_fits
    simp only [b__law_names_along_3]
    mul_fits
    subst hSx
    rw [gc_out (by simp [below])]
    have h2 := h (G ++ [Ob.lst ((nml b t nm).map D.str)]) (S ++ G).length (by simp) (by
      rw [← List.append_assoc]
      exact get_end _ _)
    rw [← List.append_assoc] at h2
    exact w_ok h2
end
/-- rows and names of the builds of the names due -/
def Tp (b : Bk) : List Str → List (Nat × Nat) → List Str → Prop
  | w, [], [] => w = []
  | [], _ :: _, _ => False
  | _, [], _ :: _ => False
  | _ :: _, _ :: _, [] => False
  | s :: w, (n, m) :: rows, s' :: nms => s' = s ∧ ∃ r, b.rls[n]? = some r ∧ r.nm = s ∧ m = r.sl.length ∧ Tp b (r.sl.map (·.nm) ++ w) rows nms
theorem Tp.len {b : Bk} : ∀ {w : List Str} {rows : List (Nat × Nat)} {nms : List Str}, Tp b w rows nms → nms.length = rows.length
  | _, [], [], _ => rfl
  | [], _ :: _, _, h => by simp [Tp] at h
  | _, [], _ :: _, h => by cases ‹List Str› <;> simp [Tp] at h
  | _ :: _, _ :: _, [], h => by simp [Tp] at h
  | s :: w, (n, m) :: rows, s' :: nms, h => by
    rw [Tp] at h
    obtain ⟨_, r, _, _, _, h⟩ := h
    rw [List.length_cons, List.length_cons, Tp.len h]
theorem LpD.set {b : Bk} {n : Nat} {St : Sto} {a p : Nat} {o : Ob} {ks : List (Str × Nat)} (hp : a ≠ p) (hj : ∀ s j, gS ks s = some j → j ≠ p) (L : LpD b n St a ks) : LpD b n (St.set p o) a ks :=
  ⟨by rw [List.getElem?_set_ne (Ne.symm hp)]; exact L.at_, fun s j h => let ⟨h1, nums, h2, h3⟩ := L.ls s j h; ⟨h1, nums, by rw [List.getElem?_set_ne (Ne.symm (hj s j h))]; exact h2, h3⟩, L.all, L.len⟩
theorem LpD.lt {b : Bk} {n : Nat} {St : Sto} {a : Nat} {ks : List (Str × Nat)} (L : LpD b n St a ks) : ∀ s j, gS ks s = some j → j < St.length := fun s j h =>
  let ⟨_, _, h2, _⟩ := L.ls s j h; (List.getElem?_eq_some_iff.mp h2).1
section
variable {k : Nat} {R : Sto} {Q : D → Sto → Prop} {d : DS} {b : Bk} {nm : Str}
theorem LdOk.mem {b : Bk} (o : LdOk b) : ∀ r ∈ b.rls, r.nm ∈ b.nms.map (·.1) ∧ ∀ s ∈ r.sl, s.nm ∈ b.nms.map (·.1) := fun r hr => by
  obtain ⟨a, h1, h2, _⟩ := (o.rl r hr).ex
  refine ⟨List.mem_map.mpr ⟨_, h1, rfl⟩, fun s hs => ?_⟩
  obtain ⟨a', h3, _⟩ := h2 s hs
  exact List.mem_map.mpr ⟨_, h3, rfl⟩
theorem LdOk.ok {b : Bk} (o : LdOk b) : ∀ r ∈ b.rls, PyData.strOk r.nm = true ∧ ∀ s ∈ r.sl, PyData.strOk s.nm = true := fun r hr =>
  ⟨o.tt.ok _ (o.mem r hr).1, fun s hs => o.tt.ok _ ((o.mem r hr).2 s hs)⟩
theorem Tp.names {b : Bk} : ∀ {rows : List (Nat × Nat)} {w nms : List Str}, Tp b w rows nms → ∀ s ∈ nms, ∃ r ∈ b.rls, r.nm = s
  | [], w, [], h, s, hs => by simp at hs
  | [], w, _ :: _, h, _, _ => by cases w <;> simp [Tp] at h
  | _ :: _, [], _, h, _, _ => by simp [Tp] at h
  | _ :: _, _ :: _, [], h, _, _ => by simp [Tp] at h
  | (n, m) :: rows, s :: w, s' :: nms, h, x, hx => by
    rw [Tp] at h
    obtain ⟨e, r, h1, h2, _, h3⟩ := h
    rcases List.mem_cons.mp hx with rfl | hx
    · exact ⟨r, List.mem_of_getElem? h1, h2.trans e.symm⟩
    · exact h3.names x hx
theorem Tp.few {b : Bk} (h3 : ∀ r ∈ b.rls, r.sl.length ≤ 3) : ∀ {rows : List (Nat × Nat)} {w nms : List Str}, Tp b w rows nms → ∀ p ∈ rows, p.2 ≤ 3
  | [], w, _, h, s, hs => by simp at hs
  | _ :: _, [], _, h, _, _ => by simp [Tp] at h
  | _ :: _, _ :: _, [], h, _, _ => by simp [Tp] at h
  | (n, m) :: rows, s :: w, s' :: nms, h, x, hx => by
    rw [Tp] at h
    obtain ⟨e, r, h1, h2, h4, h5⟩ := h
    rcases List.mem_cons.mp hx with rfl | hx
    · show m ≤ 3
      rw [h4]
      exact h3 r (List.mem_of_getElem? h1)
    · exact h5.few h3 x hx
theorem wf_nw {t : Ht} (w : WfH b nm t) : Nw b t := fun y hy => by
  obtain ⟨nm', w'⟩ := w.node y hy
  obtain ⟨n, hd, ks, e, h1, h2, h3⟩ := w'.top
  exact .inr ⟨n, hd, ks, _, e, h1, by omega⟩
end
section
variable {k : Nat} {S : Sto} {Q : D → Sto → Prop} {t y : Ht} {p : List Nat}
end
section
variable {k : Nat} {S : Sto} {Q : D → Sto → Prop} {b : Bk}
end
section
variable {k : Nat} {S : Sto} {Q : D → Sto → Prop} {b : Bk}
end
section
variable {k : Nat} {S : Sto} {Q : D → Sto → Prop} {b : Bk}
end
section
variable {k : Nat} {S : Sto} {Q : D → Sto → Prop} {b : Bk}
end
/-- a tree that can be walked and compared -/
structure Hk (u : Ht) : Prop where
  z : u.pre.length ≤ 1200
  kd : ∀ x ∈ u.pre, x.kids.length ≤ 10
  hh : ∀ x ∈ u.pre, ∀ n hd ks, x = .nd n hd ks → hd.length ≤ 5
  dp : ∀ x ∈ u.pre, ∀ n hd ks, x = .nd n hd ks → ∀ d ∈ hd, depD d ≤ 1
  pd : Pd u.d
  ok : okD u.d
theorem ok_pre {u : Ht} (h : okD u.d) : ∀ x ∈ u.pre, okD x.d := fun x hx => by
  obtain ⟨i, hi⟩ := List.getElem?_of_mem hx
  have hl : i < (paths u).length := by rw [paths_len]; exact (List.getElem?_eq_some_iff.mp hi).1
  have hs := paths_sub u i x _ hi (List.getElem?_eq_getElem hl)
  generalize (paths u)[i] = p at hs
  clear hi hl i hx
  induction p generalizing u with
  | nil => cases hs; exact h
  | cons k p ih =>
    obtain ⟨y, e1, e2⟩ := Option.bind_eq_some_iff.mp (show (u.kids[k]?).bind (fun y => y.sub p) = some x from hs)
    obtain ⟨n, hd, ks, rfl, e3⟩ := kid_nd e1
    exact ih ((hok_nd.mp h).2 y (List.mem_of_getElem? e3)) e2
theorem hpres_ge : ∀ (ks : List Ht) (k : Nat) (y : Ht), ks[k]? = some y → y.pre.length ≤ (hpres ks).length
  | [], k, y, h => by simp at h
  | a :: ks, 0, y, h => by
    simp at h
    subst h
    rw [hpres, List.length_append]
    omega
  | a :: ks, k + 1, y, h => by
    have := hpres_ge ks k y (by simpa using h)
    rw [hpres, List.length_append]
    omega
theorem sub_pre_len : ∀ (p : List Nat) (u x : Ht), u.sub p = some x → x.pre.length ≤ u.pre.length
  | [], u, x, h => by cases h; exact Nat.le_refl _
  | k :: p, u, x, h => by
    obtain ⟨y, e1, e2⟩ := Option.bind_eq_some_iff.mp (show (u.kids[k]?).bind (fun y => y.sub p) = some x from h)
    obtain ⟨n, hd, ks, rfl, e3⟩ := kid_nd e1
    have h1 := sub_pre_len p y x e2
    have h3 := hpres_ge ks k y e3
    have e0 : (Ht.nd n hd ks).pre.length = (hpres ks).length + 1 := by rw [Ht.pre, List.length_cons]
    omega
theorem Hk.sub {u x : Ht} {p : List Nat} (g : Hk u) (h : u.sub p = some x) : Hk x := by
  have hx := sub_pre h
  have := sub_pre_len p u x h
  have := g.z
  exact ⟨by omega, fun y hy => g.kd y (hx y hy), fun y hy => g.hh y (hx y hy), fun y hy => g.dp y (hx y hy), pd_sub u p x g.pd h, ok_pre g.ok x (sub_mem h)⟩
theorem Hk.hole : Hk .hole := by
  refine ⟨by rw [Ht.pre]; decide, fun x hx => ?_, fun x hx n hd ks e => ?_, fun x hx n hd ks e => ?_, pd_hole, by rw [ht_hole]; trivial⟩
  all_goals (rw [Ht.pre] at hx; rw [List.mem_singleton] at hx; subst hx)
  · simp [Ht.kids]
  · cases e
  · cases e
mutual
theorem ok_tr : ∀ t : Tr, okD t.d
  | .nd n ps => by
    rw [Tr.d]
    exact ⟨trivial, ok_trs ps, trivial⟩
theorem ok_trs : ∀ ps : List Tr, okDs (Trs.d ps)
  | [] => trivial
  | t :: r => ⟨ok_tr t, ok_trs r⟩
end
theorem Hk.tr {t : Tr} (hz : t.pre.length ≤ 1200) (hk : ∀ x ∈ t.pre, x.kids.length ≤ 10) : Hk t.h := by
  refine ⟨by rw [th_pre, List.length_map]; exact hz, fun x hx => ?_, fun x hx n hd ks e => ?_, fun x hx n hd ks e => ?_, by rw [th_d]; exact pd_tr t, by rw [th_d]; exact ok_tr t⟩
  all_goals (rw [th_pre] at hx; obtain ⟨y, hy, rfl⟩ := List.mem_map.mp hx)
  · rw [th_kids, List.length_map]
    exact hk y hy
  · cases y with
    | nd m ps => rw [th_nd] at e; cases e; simp
  · cases y with
    | nd m ps => rw [th_nd] at e; cases e; simp
section
variable {k : Nat} {S : Sto} {Q : D → Sto → Prop} {b : Bk}
end
section
variable {k : Nat} {S : Sto} {Q : D → Sto → Prop} {b : Bk}
end
section
variable {k : Nat} {S : Sto} {Q : D → Sto → Prop} {b : Bk}
end
theorem cut_drop {l : List D} {m : Nat} : PQ.cutD l (some (m : Int)) none = l.drop m := by
  unfold PQ.cutD
  simp only [HT.sIx]
  rw [if_neg (by omega), Int.toNat_natCast]
  by_cases h : m ≤ l.length
  · rw [Nat.min_eq_left h, List.take_of_length_le (by simp)]
  · rw [Nat.min_eq_right (by omega), Nat.sub_self, List.take_zero, List.drop_of_length_le (by omega)]
section
variable {k : Nat} {R : Sto} {Q : D → Sto → Prop} {d : DS} {b : Bk} {nm : Str}
end
section
variable {k : Nat} {S : Sto} {Q : D → Sto → Prop} {b : Bk}
end
section
variable {k : Nat} {S : Sto} {Q : D → Sto → Prop} {b : Bk}
theorem Hk.wf {t : Tr} {nm : Str} (A : BkA b) (w : Wf b nm t) (hz : t.pre.length ≤ 1200) : Hk t.h := .tr hz fun x hx => by
  have := wf_klen A (wfh_of t w) x.h (by rw [th_pre]; exact List.mem_map_of_mem hx)
  rwa [th_kids, List.length_map] at this
theorem Nw.hole : Nw b .hole := fun x hx => by
  rw [Ht.pre, List.mem_singleton] at hx
  exact .inl hx
end
structure Wb where
  ar : Nat
  cs : List Nat
  ts : List Pt
abbrev Wb.spots (w : Wb) : Nat := w.ar + w.cs.length
abbrev Wb.d (w : Wb) : D := .tup [.int (w.ar : Nat), .str (stS w.cs), .tup (w.ts.map Pt.d)]
/-- places for a guest -/
structure PlOk (h : Wb) (pl : List Nat) (a : Nat) : Prop where
  len : pl.length = a
  nd : pl.Nodup
  lt : ∀ x ∈ pl, x < h.spots
theorem PlOk.at {h : Wb} {pl : List Nat} {a q : Nat} (o : PlOk h pl a) (hq : q < a) : pl.getD q 0 < h.spots := by
  have hl := o.len
  have e : pl.getD q 0 = pl[q] := by simp [List.getD, hl, hq]
  rw [e]
  exact o.lt _ (List.getElem_mem (by omega))
theorem PlOk.ne {h : Wb} {pl : List Nat} {a q r : Nat} (o : PlOk h pl a) (hq : q < a) (hr : r < a) (hqr : q ≠ r) : pl.getD q 0 ≠ pl.getD r 0 := by
  have hl := o.len
  have e1 : pl.getD q 0 = pl[q] := by simp [List.getD, hl, hq]
  have e2 : pl.getD r 0 = pl[r] := by simp [List.getD, hl, hr]
  rw [e1, e2]
  intro e
  have f1 := List.Nodup.idxOf_getElem o.nd q (by omega)
  have f2 := List.Nodup.idxOf_getElem o.nd r (by omega)
  rw [e, f2] at f1
  exact hqr f1.symm
structure Bij (im inv : Nat → Nat) (ar n : Nat) : Prop where
  j1 : ∀ q, q < ar → im q = q
  j2 : ∀ q, q < ar → inv q = q
  h1 : ∀ q, ar ≤ q → q < ar + n → ar ≤ im q ∧ im q < ar + n ∧ inv (im q) = q
  h2 : ∀ q, ar ≤ q → q < ar + n → ar ≤ inv q ∧ inv q < ar + n ∧ im (inv q) = q
theorem Bij.symm {im inv : Nat → Nat} {ar n : Nat} (b : Bij im inv ar n) : Bij inv im ar n := ⟨b.j2, b.j1, b.h2, b.h1⟩
theorem Bij.lt {im inv : Nat → Nat} {ar n q : Nat} (b : Bij im inv ar n) (h : q < ar + n) : im q < ar + n := by
  by_cases e : q < ar
  · rw [b.j1 q e]
    omega
  · exact (b.h1 q (by omega) h).2.1
section
variable {k : Nat} {S : Sto} {Q : D → Sto → Prop} {w h g : Wb} {im inv : Nat → Nat} {pl : List Nat}
end
theorem stok {cs : List Nat} (h : ∀ c ∈ cs, c < 1114112) : PyData.strOk (stS cs) = true := by
  unfold PyData.strOk stS
  simp
  intro i hi
  exact h _ hi
section
variable {k : Nat} {S : Sto} {Q : D → Sto → Prop} {w h g : Wb} {im inv : Nat → Nat} {pl : List Nat}
end
section
variable {k : Nat} {S : Sto} {Q : D → Sto → Prop} {b : Bk} {t : Ht} {nm : Str}
end
section
variable {k : Nat} {S : Sto} {Q : D → Sto → Prop}
end
def idn (k : Nat) : List Nat := (Str.ofString (toString (k : Int))).cps.toList
theorem idn_len : ∀ k, k < 64 → 95 ∉ idn k ∧ (idn k).length ≤ 2 := by decide +kernel
theorem idn_lt : ∀ k, k < 64 → ∀ c ∈ idn k, c < 128 := by decide +kernel
theorem idn_inj : ∀ i, i < 64 → ∀ j, j < 64 → idn i = idn j → i = j := by decide +kernel
def idl (c : Nat) (k : Nat) (t : List Nat) : List Nat := c :: (idn k ++ 95 :: t)
theorem app_95 : ∀ {a b : List Nat} {s t : List Nat}, 95 ∉ a → 95 ∉ b → a ++ 95 :: s = b ++ 95 :: t → a = b
  | [], [], _, _, _, _, _ => rfl
  | [], x :: b, _, _, _, hb, e => by
    rw [List.nil_append, List.cons_append, List.cons.injEq] at e
    exact absurd e.1 (fun z => hb (by simp [z]))
  | x :: a, [], _, _, ha, _, e => by
    rw [List.nil_append, List.cons_append, List.cons.injEq] at e
    exact absurd e.1.symm (fun z => ha (by simp [z]))
  | x :: a, y :: b, s, t, ha, hb, e => by
    rw [List.cons_append, List.cons_append, List.cons.injEq] at e
    rw [e.1, app_95 (fun z => ha (by simp [z])) (fun z => hb (by simp [z])) e.2]
theorem idl_inj {c c' k k' : Nat} {t t' : List Nat} (hk : k < 64) (hk' : k' < 64) (e : idl c k t = idl c' k' t') : k = k' := by
  unfold idl at e
  rw [List.cons.injEq] at e
  exact idn_inj k hk k' hk' (app_95 (idn_len k hk).1 (idn_len k' hk').1 e.2)
theorem fold_sing (x : Nat) : ∀ (n : Nat) (a : Array Nat), (List.replicate n #[x]).foldl (· ++ ·) a = a ++ (List.replicate n x).toArray
  | 0, a => by simp
  | n + 1, a => by
    rw [List.replicate_succ, List.foldl_cons, fold_sing x n, List.replicate_succ, Array.append_assoc]
    congr 1
    simp
theorem mul_sing (x : Nat) (n : Nat) (h : n ≤ 56) : Txt.mul ⟨#[x]⟩ (n : Int) = stS (List.replicate n x) ∧ MulOk ⟨#[x]⟩ (n : Int) := by
  have l1 : Str.length ⟨#[x]⟩ = 1 := rfl
  refine ⟨?_, ?_, fun h1 _ => ?_, fun _ _ => ?_⟩
  · unfold Txt.mul
    by_cases h0 : (n : Int) < 1
    · rw [if_pos h0]
      obtain rfl : n = 0 := by omega
      rfl
    · rw [if_neg h0, l1]
      by_cases h2 : n = 1
      · subst h2
        rfl
      · rw [if_neg (by simp; omega), fold_sing, Int.toNat_natCast]
        simp [stS]
  · simp
    omega
  · rw [l1]
    have : (1 : Int) ≤ (2 ^ 63 - 1) / (n : Int) := by
      refine (Int.le_ediv_iff_mul_le (by omega)).mpr (by omega)
    have e : ((1 : Nat) : Int) = 1 := rfl
    rw [e]
    exact Int.not_lt.mpr this
  · unfold Builtin.Str.tooLong
    rw [l1, Int.toNat_natCast]
    have := le_size (n := n) (by omega)
    simp
    omega
structure IdOk (l : List Str) : Prop where
  nd : l.Nodup
  ok : ∀ s ∈ l, PyData.strOk s = true
  ne : ∀ s ∈ l, s.length ≠ 0
  le : ∀ s ∈ l, s.length ≤ 60
section
variable {k : Nat} {R : Sto} {Q : D → Sto → Prop} {d : DS}
theorem ids_w {m : Nat} (hm : m ≤ 64) (h : ∀ (l : List Str) (b : Nat) (g : Sto) (d' : DS), l.length = m → IdOk l → R.length ≤ b → (R ++ g)[b]? = some (.lst (l.map .str)) → Q (.ref (b + 2)) (d'.st (R ++ g))) : W (orc T (k + 4) n__law_ids [.ref 1, natD m] (d.st R)) Q := by
  refine orc_w (ρ := [some (.ref 1), some (natD m), none, none, none, none]) rfl rfl rfl ?_
  show W (evSs _ b__law_ids _ _) _
  simp only [b__law_ids]
  mul_fits
  rw [rgD0]
  simp only [st_len, st_app]
  refine shuffled_w (b := (R ++ [Ob.lst []]).length) (row := (List.range m).map natD) (by rw [List.length_map, List.length_range]; omega) (get_end _ _) fun full g d' hp => ?_
  obtain ⟨ls, hp2, rfl⟩ := perm_of_map hp
  have nd : ls.Nodup := hp2.nodup_iff.mpr List.nodup_range
  have fm : ls.length = m := by rw [hp2.length_eq, List.length_range]
  have lt : ∀ x ∈ ls, x < m := fun x hx => List.mem_range.mp (hp2.mem_iff.mp hx)
  have gg := get_g (R := R ++ [Ob.lst []] ++ [Ob.lst ((List.range m).map natD)]) (d := d') (g := g) (o := .lst (ls.map natD))
  have eA : R ++ [Ob.lst []] ++ [Ob.lst ((List.range m).map natD)] ++ (g ++ [Ob.lst (ls.map natD)]) = R ++ [Ob.lst []] ++ ([Ob.lst ((List.range m).map natD)] ++ (g ++ [Ob.lst (ls.map natD)])) := by simp
  rw [eA] at gg ⊢
  generalize ha : (R ++ [Ob.lst []] ++ [Ob.lst ((List.range m).map natD)]).length + g.length = at_ at gg ⊢
  have hat : R.length < at_ := by
    rw [← ha]
    simp
    omega
  generalize [Ob.lst ((List.range m).map natD)] ++ (g ++ [Ob.lst (ls.map natD)]) = G at gg ⊢
  have gf : ∀ (d : DS) (l : List D) (g2 : Sto), (d.st (R ++ [Ob.lst l] ++ (G ++ g2)))[at_ + 2]? = some (.lst (ls.map natD)) := fun d l g2 => by
    rw [st_get] at gg ⊢
    rw [← List.append_assoc]
    exact get_pre (get_far hat gg)
  mul_fits
  refine loopS_e natD (fun r ρ S' => ∃ (l : List (Nat × Nat × List Nat)) (g2 : Sto) (o4 o5 : Option D) (d' : DS), S' = d'.st (R ++ [.lst (l.map fun x => D.str (stS (idl x.1 x.2.1 x.2.2)))] ++ (G ++ g2)) ∧ ρ = [some (.ref 1), some (natD m), some (.str signs), some (.ref (R.length + 2)), o4, o5] ∧ l.map (·.2.1) ++ r = ls ∧ (∀ x ∈ l, x.2.2.length ≤ 56 ∧ x.1 < 128 ∧ ∀ c ∈ x.2.2, c < 128)) ?_ ?_ _ _ _ ⟨[], [], _, _, d', by simp, rfl, rfl, by simp⟩
  · rintro q r ρ S' ⟨l, g2, o4, o5, d', rfl, rfl, h1, h2⟩
    refine ⟨gf d' _ _, ?_⟩
    have ll : l.length < 1000 := by
      have := congrArg List.length h1
      simp at this
      omega
    have hq : q < 64 := by have := lt q (by rw [← h1]; simp); omega
    simp only [b__law_ids_1]
    mul_fits
    refine draw_ (by decide) (by decide) fun u d3 u0 u1 => ?_
    have hu : u.toNat < signs.cps.toList.length := by
      have : signs.cps.toList.length = 63 := by decide
      omega
    have k2 : atI signs.cps.toList u = some (signs.cps.toList[u.toNat]) := by
      unfold atI ixN
      have : signs.cps.toList.length = 63 := by decide
      rw [if_pos u0, if_pos (by omega)]
      simp only [List.getElem?_eq_getElem hu, Option.bind_some]
    refine v_idxS (le64 (by decide)) k2 ?_
    have hx : signs.cps.toList[u.toNat] < 128 := (show ∀ c ∈ signs.cps.toList, c < 128 by decide) _ (List.getElem_mem hu)
    generalize signs.cps.toList[u.toNat] = x at hx
    mul_fits
    simp only [st_len, st_app]
    refine pick_w (b := (R ++ [Ob.lst (l.map fun x => D.str (stS (idl x.1 x.2.1 x.2.2)))] ++ (G ++ g2)).length) (row := [0, 0, 1, 2, 56].map natD) (by decide) (by decide) (get_end _ _) fun y hy d4 => ?_
    obtain ⟨n, hn, rfl⟩ := List.mem_map.mp hy
    have hn4 : n ≤ 56 := by
      simp only [List.mem_cons, List.not_mem_nil, or_false] at hn
      omega
    obtain ⟨e1, e2⟩ := mul_sing x n hn4
    refine v_mulS e2 ?_
    rw [e1]
    mul_fits
    rw [List.append_assoc (R ++ [_]), List.append_assoc G]
    have k1 : ∀ (d : DS) l g2, (d.st (R ++ [.lst l] ++ (G ++ g2)))[R.length + 2]? = some (.lst l) := fun d l g2 => st_mid
    refine w_withL (k1 _ _ _) ?_
    mul_fits
    refine draw_ (by decide) (by decide) fun w d5 w0 w1 => ?_
    have lABC : (Str.ofString "ABCDEFGHIJKLMNOPQRSTUVWXYZ").cps.toList.length = 26 := by decide
    have hw : w.toNat < (Str.ofString "ABCDEFGHIJKLMNOPQRSTUVWXYZ").cps.toList.length := by omega
    have k3 : atI (Str.ofString "ABCDEFGHIJKLMNOPQRSTUVWXYZ").cps.toList w = some ((Str.ofString "ABCDEFGHIJKLMNOPQRSTUVWXYZ").cps.toList[w.toNat]) := by
      unfold atI ixN
      rw [if_pos w0, if_pos (by omega)]
      simp only [List.getElem?_eq_getElem hw, Option.bind_some]
    refine v_idxS (le64 (by decide)) k3 ?_
    have hc : (Str.ofString "ABCDEFGHIJKLMNOPQRSTUVWXYZ").cps.toList[w.toNat] < 128 := (show ∀ c ∈ (Str.ofString "ABCDEFGHIJKLMNOPQRSTUVWXYZ").cps.toList, c < 128 by decide) _ (List.getElem_mem hw)
    generalize (Str.ofString "ABCDEFGHIJKLMNOPQRSTUVWXYZ").cps.toList[w.toNat] = c at hc
    mul_fits
    refine v_str (by
      rw [Int.natAbs_natCast]
      refine Nat.lt_of_le_of_lt (Nat.log2_le_self q) (by omega)) ?_
    have ek : ((toString (q : Int) : String) : Str) = stS (idn q) := rfl
    have e1 : (⟨#[c]⟩ : Str) = stS [c] := rfl
    have e9 : Str.ofString "_" = stS [95] := by decide
    have lq := (idn_len q hq).2
    rw [ek, e1]
    refine v_addS (by rw [st_length, st_length]; exact le_size (by simp; omega)) ?_
    rw [st_append]
    mul_fits
    rw [e9]
    refine v_addS (by rw [st_length, st_length]; exact le_size (by simp; omega)) ?_
    rw [st_append]
    mul_fits
    refine v_addS (by rw [st_length, st_length]; exact le_size (by simp; omega)) ?_
    rw [st_append]
    refine v_app (k1 _ _ _) (by rw [List.length_map]; exact le_size (by omega)) ?_
    rw [st_set_mid]
    mul_fits
    have ei : [c] ++ idn q ++ [95] ++ List.replicate n x = idl c q (List.replicate n x) := by simp [idl]
    refine ⟨_, .inl rfl, l ++ [(c, q, List.replicate n x)], g2 ++ [Ob.lst [D.int 0, D.int 0, D.int 1, D.int 2, D.int 56]], _, _, d5, by rw [List.map_append, ei]; rfl, rfl, by rw [← h1]; simp, fun y hy => ?_⟩
    rcases List.mem_append.mp hy with hy | hy
    · exact h2 y hy
    · simp at hy
      subst hy
      exact ⟨by simp; omega, hc, fun z hz => by rw [List.eq_of_mem_replicate hz]; exact hx⟩
  · rintro ρ S' ⟨l, g2, o4, o5, d', rfl, rfl, h1, h2⟩
    refine ⟨gf d' _ _, ?_⟩
    rw [List.append_nil] at h1
    mul_fits
    simp only [b__law_ids_2]
    mul_fits
    rw [List.append_assoc, gc_out (by simp [below, st_len])]
    refine w_ok (h (l.map fun x => stS (idl x.1 x.2.1 x.2.2)) R.length _ d' ?_ ⟨?_, fun s hs => ?_, fun s hs => ?_, fun s hs => ?_⟩ (Nat.le_refl _) ?_)
    · have := congrArg List.length h1
      rw [List.length_map] at this ⊢
      omega
    · subst h1
      rw [List.Nodup, List.pairwise_map] at nd ⊢
      refine nd.imp_of_mem fun {a b} ha hb hab e => ?_
      have e2 : idl a.1 a.2.1 a.2.2 = idl b.1 b.2.1 b.2.2 := by
        have := congrArg (fun z : Str => z.cps.toList) e
        simpa [stS] using this
      exact hab (idl_inj (by have := lt a.2.1 (List.mem_map.mpr ⟨a, ha, rfl⟩); omega) (by have := lt b.2.1 (List.mem_map.mpr ⟨b, hb, rfl⟩); omega) e2)
    · obtain ⟨x, hx, rfl⟩ := List.mem_map.mp hs
      obtain ⟨_, h4, h5⟩ := h2 x hx
      have h6 := idn_lt x.2.1 (by have := lt x.2.1 (by rw [← h1]; exact List.mem_map.mpr ⟨x, hx, rfl⟩); omega)
      refine stok fun c hc => ?_
      unfold idl at hc
      rcases List.mem_cons.mp hc with rfl | hc
      · omega
      · rcases List.mem_append.mp hc with hc | hc
        · have := h6 c hc; omega
        · rcases List.mem_cons.mp hc with rfl | hc
          · omega
          · have := h5 c hc; omega
    · obtain ⟨x, _, rfl⟩ := List.mem_map.mp hs
      rw [st_length]
      simp [idl]
    · obtain ⟨x, hx, rfl⟩ := List.mem_map.mp hs
      rw [st_length]
      have := (h2 x hx).1
      have := (idn_len x.2.1 (by have := lt x.2.1 (by rw [← h1]; exact List.mem_map.mpr ⟨x, hx, rfl⟩); omega)).2
      simp [idl]
      omega
    · rw [← List.append_assoc, List.map_map]
      exact get_mid _ _ _
end
theorem row_ab {R : Sto} : RowV R (.str (Str.ofString "ab")) := .inr ⟨[97, 98], rfl, by decide, by decide, fun c hc => by
  simp only [List.mem_cons, List.not_mem_nil, or_false] at hc
  rcases hc with rfl | rfl <;> decide⟩
theorem row_pq {R : Sto} : RowV R (.str (Str.ofString "pq")) := .inr ⟨[112, 113], rfl, by decide, by decide, fun c hc => by
  simp only [List.mem_cons, List.not_mem_nil, or_false] at hc
  rcases hc with rfl | rfl <;> decide⟩
/-- pairs of the names, the first one closed -/
structure PsOk (ns : List Str) (ps : List (Str × Nat)) : Prop where
  nm : ps.map (·.1) = ns
  ar : ∀ p ∈ ps, p.2 ≤ 3
  hd : ∃ n pr, ps = (n, 0) :: pr
section
variable {k : Nat} {R : Sto} {Q : D → Sto → Prop} {d : DS}
theorem pairs_w {ns : List Str} {b v : Nat} {ρ : En} {own : List Nat} {c d0 : Nat} (hown : own = [v]) (hv : v < ρ.length) (hc : ρ[c]? = some (some (.ref (b + 2)))) (hd : ρ[d0]? = some (some (.ref 1))) (hcv : c ≠ v) (hdv : d0 ≠ v) (hn : 1 ≤ ns.length ∧ ns.length ≤ 1000) (hb : R[b]? = some (.lst (ns.map .str)))
    (h : ∀ (ps : List (Str × Nat)) (d' : DS), PsOk ns ps → Q (.ref (R.length + 2)) (d'.st (R ++ [.lst (ps.map prD)]))) : W (evE (orc T (k + 1)) (.alloc (.comp own (.nm v) (.r (.e (.var c))) (.tup (.cons (.var v) (.cons (.ife (.v (.cmp .eq (.var v) (.idx (.var c) (.lit (.int 0))))) (.lit (.int 0)) (.call n__law_draw (.cons (.var d0) (.cons (.lit (.int 4)) .nil)))) .nil))))) ρ (d.st R)) Q := by
  subst hown
  obtain ⟨n0, nr, rfl⟩ : ∃ n0 nr, ns = n0 :: nr := by
    cases ns with
    | nil => simp at hn
    | cons a r => exact ⟨a, r, rfl⟩
  have k0 : ∀ d : DS, (d.st R)[b + 2]? = some (.lst ((n0 :: nr).map .str)) := fun d => by rw [st_get]; exact hb
  have it0 : itOf (.val (.ref (b + 2))) (d.st R) = some ⟨(n0 :: nr).map .str, some (b + 2)⟩ := by
    simp only [itOf, sqOf, lsOf, k0, Option.map_some]
  refine w_alloc (w_comp (w_ir (w_e (w_var hc (w_may it0 (w_ok ⟨by rw [List.length_map]; exact le_size (by omega), ?_⟩))))))
  have hwv : wipeE ρ [v] = ρ.set v none := rfl
  have hb1 : ∀ (x : D) (S : Sto), bindN (.nm v) x (wipeE ρ [v]) S = some (ρ.set v (some x)) := fun x S => by
    show some _ = _
    rw [hwv, List.set_set]
  have g1 : ∀ x : D, (ρ.set v (some x))[v]? = some (some x) := fun x => by simp [hv]
  have g2 : ∀ x : D, (ρ.set v (some x))[c]? = some (some (.ref (b + 2))) := fun x => by rw [List.getElem?_set_ne (Ne.symm hcv)]; exact hc
  have g3 : ∀ x : D, (ρ.set v (some x))[d0]? = some (some (.ref 1)) := fun x => by rw [List.getElem?_set_ne (Ne.symm hdv)]; exact hd
  refine loopQ_w (fun ds r S => ∃ (rest : List Str) (dn : List Str) (ps : List (Str × Nat)) (d' : DS), ds = rest.map D.str ∧ dn ++ rest = n0 :: nr ∧ r = ps.map prD ∧ ps.map (·.1) = dn ∧ (∀ p ∈ ps, p.2 ≤ 3) ∧ (dn = [] ∨ ∃ n pr, ps = (n, 0) :: pr) ∧ S = d'.st R) ?_ ?_ _ _ ⟨n0 :: nr, [], [], d, rfl, rfl, rfl, rfl, by simp, .inl rfl, rfl⟩
  · rintro x ds r S ⟨rest, dn, ps, d', hds, hdn, rfl, hp, ha, hh, rfl⟩
    refine ⟨k0 d', ?_⟩
    cases rest with
    | nil => exact absurd hds (by simp)
    | cons s rest =>
    rw [List.map_cons, List.cons.injEq] at hds
    obtain ⟨rfl, rfl⟩ := hds
    refine w_may (hb1 _ _) (w_bind (w_tup (w_cons (w_var (g1 _) (w_cons (w_ife (w_tv (w_cmp (w_var (g1 _) (w_idx (w_var (g2 _) (w_lit ?_))))))))))))
    refine v_idx (k0 d') (show atI ((n0 :: nr).map D.str) 0 = some (.str n0) from by rw [List.map_cons]; exact at_nat (k := 0) _ (by simp)) ?_
    refine v_eqS (w_tru_b (w_ok ?_))
    have fin : ∀ (y : Nat) (d2 : DS), y ≤ 3 → (dn = [] → y = 0) → ∃ (rest' : List Str) (dn' : List Str) (ps' : List (Str × Nat)) (d' : DS), rest.map D.str = rest'.map D.str ∧ dn' ++ rest' = n0 :: nr ∧ ps.map prD ++ (some (prD (s, y))).toList = ps'.map prD ∧ ps'.map (·.1) = dn' ∧ (∀ p ∈ ps', p.2 ≤ 3) ∧ (dn' = [] ∨ ∃ n pr, ps' = (n, 0) :: pr) ∧ d2.st R = d'.st R := by
      intro y d2 hy h0
      refine ⟨rest, dn ++ [s], ps ++ [(s, y)], d2, rfl, by rw [← hdn]; simp, by simp, by rw [List.map_append, hp]; rfl, fun p hp => ?_, .inr ?_, rfl⟩
      · rcases List.mem_append.mp hp with hp | hp
        · exact ha p hp
        · simp at hp
          subst hp
          exact hy
      · rcases hh with hh | ⟨n, pr, hh⟩
        · subst hh
          rw [List.map_eq_nil_iff] at hp
          subst hp
          exact ⟨s, [], by rw [h0 rfl]; rfl⟩
        · exact ⟨n, pr ++ [(s, y)], by rw [hh]; rfl⟩
    refine w_ifd (fun c => ?_) fun c => ?_
    · mul_fits
      exact fin 0 d' (by omega) fun _ => rfl
    · refine w_call (w_cons (w_var (g3 _) (w_cons (w_lit (w_nil ?_)))))
      refine draw_ (by decide) (by decide) fun y d2 y0 y1 => ?_
      obtain ⟨y, rfl⟩ := Int.eq_ofNat_of_zero_le y0
      mul_fits
      refine fin y d2 (by omega) fun e => ?_
      subst e
      rw [List.nil_append, List.cons.injEq] at hdn
      exact absurd hdn.1 c
  · rintro r S ⟨rest, dn, ps, d', hds, hdn, rfl, hp, ha, hh, rfl⟩
    refine ⟨k0 d', ?_⟩
    cases rest with
    | cons s rest => exact absurd hds (by simp)
    | nil =>
    rw [List.append_nil] at hdn
    rw [st_len, st_app]
    exact h ps d' ⟨by rw [hp, hdn], ha, hh.resolve_left (by rw [hdn]; simp)⟩
/-- names and rules side by side -/
structure PrOk (R g : Sto) (r p q : Nat) (ns : List Str) (ps : List (Str × Nat)) (rs : List Rl) (m : Nat) : Prop where
  psk : PsOk ns ps
  rl : ∀ r ∈ rs, RlIn ps r
  len : rs.length ≤ m
  lr : R.length ≤ r
  lp : R.length ≤ p
  lq : R.length ≤ q
  kr : (R ++ g)[r]? = some (.lst [.ref (p + 2), .ref (q + 2)])
  kp : (R ++ g)[p]? = some (.lst (ps.map prD))
  kq : (R ++ g)[q]? = some (.lst (rs.map Rl.d))
  pq : p ≠ q
theorem wild_w {ns : List Str} {b : Nat} (hn : 1 ≤ ns.length ∧ ns.length ≤ 64) (hb : R[b]? = some (.lst (ns.map .str)))
    (h : ∀ (r p q : Nat) (ps : List (Str × Nat)) (rs : List Rl) (g : Sto) (d' : DS), PrOk R g r p q ns ps rs 9 → Q (.ref (r + 2)) (d'.st (R ++ g))) : W (orc T (k + 6) n__law_wild [.ref 1, .ref (b + 2)] (d.st R)) Q := by
  refine orc_w (ρ := [some (.ref 1), some (.ref (b + 2)), none, none, none, none, none, none, none]) rfl rfl rfl ?_
  show W (evSs _ b__law_wild _ _) _
  simp only [b__law_wild]
  refine w_scons (w_set ?_)
  refine pairs_w rfl (by simp) rfl rfl (by decide) (by decide) (by omega) hb fun ps d1 hps => ?_
  have pl : ps.length = ns.length := by rw [← hps.nm, List.length_map]
  mul_fits
  refine draw_ (by decide) (by decide) fun y d2 y0 y1 => ?_
  obtain ⟨y, rfl⟩ := Int.eq_ofNat_of_zero_le y0
  mul_fits
  rw [rgD_0]
  simp only [st_len, st_app]
  have kP' : ∀ g2 : Sto, (R ++ [Ob.lst (ps.map prD)] ++ g2)[R.length]? = some (.lst (ps.map prD)) := fun g2 => get_mid _ _ _
  have kL : ∀ (d : DS) (l : List D) (g2 : Sto), (d.st (R ++ [Ob.lst (ps.map prD)] ++ [Ob.lst l] ++ g2))[R.length + 1 + 2]? = some (.lst l) := fun d l g2 => by
    have := st_mid (R := R ++ [Ob.lst (ps.map prD)]) (d := d) (o := .lst l) (g := g2)
    simpa using this
  have sL : ∀ (d : DS) (l l2 : List D) (g2 : Sto), (d.st (R ++ [Ob.lst (ps.map prD)] ++ [Ob.lst l] ++ g2)).set (R.length + 1 + 2) (.lst l2) = d.st (R ++ [Ob.lst (ps.map prD)] ++ [Ob.lst l2] ++ g2) := fun d l l2 g2 => by
    have := st_set_mid (R := R ++ [Ob.lst (ps.map prD)]) (d := d) (o := .lst l) (p := .lst l2) (g := g2)
    simpa using this
  have eL : (R ++ [Ob.lst (ps.map prD)]).length = R.length + 1 := by simp
  rw [eL]
  refine loop_rg (fun c ρ S => ∃ (acc : List Rl) (g2 : Sto) (o4 o5 o6 : Option D) (d' : DS), S = d'.st (R ++ [Ob.lst (ps.map prD)] ++ [.lst (acc.map Rl.d)] ++ g2) ∧ ρ = [some (.ref 1), some (.ref (b + 2)), some (.ref (R.length + 2)), some (.ref (R.length + 1 + 2)), o4, o5, o6, none, none] ∧ (∀ x ∈ acc, RlIn ps x) ∧ acc.length = c) ?_ ?_ _ _ ⟨[], [], _, _, _, d2, by simp, rfl, by simp, rfl⟩
  · rintro c ρ S _ hc ⟨acc, g2, o4, o5, o6, d', rfl, rfl, a1, a2⟩
    refine ⟨trivial, ?_⟩
    simp only [b__law_wild_1]
    mul_fits
    refine pick_w (row := ps.map prD) (by rw [List.length_map]; omega) (by rw [List.length_map]; omega) (by rw [List.append_assoc]; exact kP' _) fun x hx d4 => ?_
    obtain ⟨p, hp, rfl⟩ := List.mem_map.mp hx
    mul_fits
    refine draw_ (by decide) (by decide) fun y d3 y0 y1 => ?_
    obtain ⟨y, rfl⟩ := Int.eq_ofNat_of_zero_le y0
    mul_fits
    rw [rgD0]
    refine ⟨by simp; exact le_size (by omega), ?_⟩
    refine loopQ_e (fun k : Nat => D.int (k : Int)) prD (fun _ p => p ∈ ps) (fun S => ∃ d', S = d'.st (R ++ [Ob.lst (ps.map prD)] ++ [.lst (acc.map Rl.d)] ++ g2)) _ (fun _ _ S e => ?_) (fun used S a e => ?_) _ ⟨d3, rfl⟩
    · obtain ⟨d', rfl⟩ := e
      refine ⟨trivial, ?_⟩
      mul_fits
      refine pick_w (row := ps.map prD) (by rw [List.length_map]; omega) (by rw [List.length_map]; omega) (by rw [List.append_assoc]; exact kP' _) fun x hx d4 => ?_
      obtain ⟨u, hu, rfl⟩ := List.mem_map.mp hx
      mul_fits
      exact ⟨⟨d4, rfl⟩, hu⟩
    obtain ⟨d4, rfl⟩ := e
    refine ⟨trivial, ?_⟩
    have ul : used.length = y := by rw [a.len, List.length_range]
    have uin : ∀ p ∈ used, p ∈ ps := fun p hp => (a.mem p hp).elim fun _ z => z.2
    mul_fits
    simp only [st_len, st_app]
    rw [List.append_assoc (R ++ _ ++ [Ob.lst (acc.map Rl.d)])]
    refine w_withL (kL _ _ _) ?_
    mul_fits
    refine draw_ (by decide) (by decide) fun u d5 u0 u1 => ?_
    obtain ⟨u, rfl⟩ := Int.eq_ofNat_of_zero_le u0
    mul_fits
    refine draw_ (by decide) (by decide) fun v d6 v0 v1 => ?_
    obtain ⟨v, rfl⟩ := Int.eq_ofNat_of_zero_le v0
    mul_fits
    refine rule_v (nm := p.1) (ar := p.2) (inner := u) (t := v) (bs := (R ++ [Ob.lst (ps.map prD)] ++ [Ob.lst (acc.map Rl.d)] ++ g2).length) (used := used) (hps.ar p hp) (by omega) (by omega) (fun q hq => hps.ar q (uin q hq)) (by omega) (by rw [← List.append_assoc]; exact get_end _ _) row_ab row_pq fun x d7 hx => ?_
    mul_fits
    refine v_app (kL _ _ _) (by rw [List.length_map]; exact le_size (by omega)) ?_
    rw [sL]
    mul_fits
    have xi := rlIn_of hx (by omega) hp uin (by omega)
    refine ⟨_, .inl rfl, acc ++ [x], _, _, _, _, d7, by rw [List.map_append]; rfl, rfl, fun w hw => ?_, by simp; omega⟩
    rcases List.mem_append.mp hw with hw | hw
    · exact a1 w hw
    · simp at hw
      subst hw
      exact xi
  · rintro ρ S ⟨acc, g2, o4, o5, o6, d', rfl, rfl, a1, a2⟩
    refine ⟨trivial, ?_⟩
    simp only [b__law_wild_2]
    mul_fits
    have e : ∀ o, R ++ [Ob.lst (ps.map prD)] ++ [Ob.lst (acc.map Rl.d)] ++ g2 ++ [o] = R ++ ([Ob.lst (ps.map prD)] ++ [Ob.lst (acc.map Rl.d)] ++ g2 ++ [o]) := fun o => by simp
    simp only [st_len, st_app]
    rw [gc_out (by simp [below, st_len]), e]
    refine w_ok (h (R ++ [Ob.lst (ps.map prD)] ++ [Ob.lst (acc.map Rl.d)] ++ g2).length R.length (R.length + 1) ps acc _ d' ⟨hps, a1, by omega, by simp, Nat.le_refl _, by omega, ?_, ?_, ?_, by omega⟩)
    · rw [← e]; exact get_end _ _
    · rw [← e]
      have := get_mid R ([Ob.lst (acc.map Rl.d)] ++ g2 ++ [Ob.lst [D.ref (R.length + 2), D.ref (R.length + 1 + 2)]]) (Ob.lst (ps.map prD))
      simpa using this
    · rw [← e]
      have := get_mid (R ++ [Ob.lst (ps.map prD)]) (g2 ++ [Ob.lst [D.ref (R.length + 2), D.ref (R.length + 1 + 2)]]) (Ob.lst (acc.map Rl.d))
      simpa using this
end
theorem cut_mid {l : List D} {i j : Nat} (hij : i ≤ j) : PQ.cutD l (some (i : Int)) (some (j : Int)) = (l.drop i).take (j - i) := by
  unfold PQ.cutD
  simp only [HT.sIx]
  rw [if_neg (by omega), if_neg (by omega), Int.toNat_natCast, Int.toNat_natCast]
  by_cases h : i ≤ l.length
  · rw [Nat.min_eq_left h]
    by_cases h2 : j ≤ l.length
    · rw [Nat.min_eq_left h2]
    · rw [Nat.min_eq_right (by omega), List.take_of_length_le (by simp), List.take_of_length_le (by simp; omega)]
  · rw [Nat.min_eq_right (by omega), List.drop_of_length_le (l := l) (i := i) (by omega)]
    simp
    omega
section
variable {k : Nat} {R : Sto} {Q : D → Sto → Prop} {d : DS}
theorem ladder_w {ns : List Str} {b : Nat} (hn : 1 ≤ ns.length ∧ ns.length ≤ 64) (hb : R[b]? = some (.lst (ns.map .str)))
    (h : ∀ (r p q : Nat) (ps : List (Str × Nat)) (rs : List Rl) (g : Sto) (d' : DS), PrOk R g r p q ns ps rs (ns.length + 3) → Q (.ref (r + 2)) (d'.st (R ++ g))) : W (orc T (k + 6) n__law_ladder [.ref 1, .ref (b + 2)] (d.st R)) Q := by
  refine orc_w (ρ := [some (.ref 1), some (.ref (b + 2)), none, none, none, none, none, none, none]) rfl rfl rfl ?_
  show W (evSs _ b__law_ladder _ _) _
  simp only [b__law_ladder]
  refine w_scons (w_set ?_)
  refine pairs_w rfl (by simp) rfl rfl (by decide) (by decide) (by omega) hb fun ps d1 hps => ?_
  have pl : ps.length = ns.length := by rw [← hps.nm, List.length_map]
  mul_fits
  refine draw_ (by decide) (by decide) fun s d2 s0 s1 => ?_
  obtain ⟨s, rfl⟩ := Int.eq_ofNat_of_zero_le s0
  have kP0 : ∀ (d : DS) (g2 : Sto), (d.st (R ++ [Ob.lst (ps.map prD)] ++ g2))[R.length + 2]? = some (.lst (ps.map prD)) := fun d g2 => st_mid
  have kP' : ∀ g2 : Sto, (R ++ [Ob.lst (ps.map prD)] ++ g2)[R.length]? = some (.lst (ps.map prD)) := fun g2 => get_mid _ _ _
  have kL : ∀ (d : DS) (l : List D) (g2 : Sto), (d.st (R ++ [Ob.lst (ps.map prD)] ++ [Ob.lst l] ++ g2))[R.length + 1 + 2]? = some (.lst l) := fun d l g2 => by
    have := st_mid (R := R ++ [Ob.lst (ps.map prD)]) (d := d) (o := .lst l) (g := g2)
    simpa using this
  have sL : ∀ (d : DS) (l l2 : List D) (g2 : Sto), (d.st (R ++ [Ob.lst (ps.map prD)] ++ [Ob.lst l] ++ g2)).set (R.length + 1 + 2) (.lst l2) = d.st (R ++ [Ob.lst (ps.map prD)] ++ [Ob.lst l2] ++ g2) := fun d l l2 g2 => by
    have := st_set_mid (R := R ++ [Ob.lst (ps.map prD)]) (d := d) (o := .lst l) (p := .lst l2) (g := g2)
    simpa using this
  have eL : (R ++ [Ob.lst (ps.map prD)]).length = R.length + 1 := by simp
  have kPP : ∀ (d : DS) (l : List D) (g2 : Sto), (d.st (R ++ [Ob.lst (ps.map prD)] ++ [Ob.lst l] ++ g2))[R.length + 2]? = some (.lst (ps.map prD)) := fun d l g2 => by rw [List.append_assoc (R ++ _)]; exact kP0 d _
  mul_fits
  simp only [st_len, st_app]
  rw [eL]
  have kS := kP0 d2 [Ob.lst []]
  mul_fits
  rw [List.length_map, show ((ps.length : Int) - 1) = ((ps.length - 1 : Nat) : Int) from by omega]
  refine ⟨_, _, rfl, rfl, by unfold bd62; omega, ?_⟩
  rw [rgD_0]
  refine loop_rg (fun c ρ S => ∃ (acc : List Rl) (g2 : Sto) (o5 o6 : Option D) (d' : DS), S = d'.st (R ++ [Ob.lst (ps.map prD)] ++ [.lst (acc.map Rl.d)] ++ g2) ∧ ρ = [some (.ref 1), some (.ref (b + 2)), some (.ref (R.length + 2)), some (.int (1 + (s : Int))), some (.ref (R.length + 1 + 2)), o5, o6, none, none] ∧ (∀ x ∈ acc, RlIn ps x) ∧ acc.length = c) ?_ ?_ _ _ ⟨[], [], _, _, d2, by simp, rfl, by simp, rfl⟩
  · rintro c ρ S _ hc ⟨acc, g2, o5, o6, d', rfl, rfl, a1, a2⟩
    refine ⟨trivial, ?_⟩
    simp only [b__law_ladder_1]
    mul_fits
    have at1 : atI (ps.map prD) ((c : Int) + 1) = some (prD ps[c + 1]) := at_map prD ps (c + 1) (by omega)
    have at0 : atI (ps.map prD) (c : Int) = some (prD ps[c]) := at_map prD ps c (by omega)
    have in1 : ps[c + 1] ∈ ps := List.getElem_mem _
    have in0 : ps[c] ∈ ps := List.getElem_mem _
    have drp : ∀ x ∈ (ps.drop (c + 1)).take 3, x ∈ ps := fun x hx => List.mem_of_mem_drop (List.mem_of_mem_take hx)
    have drl : 0 < ((ps.drop (c + 1)).take 3).length := by simp; omega
    have drl2 : ((ps.drop (c + 1)).take 3).length ≤ 3 := by simp; omega
    have ecut : PQ.cutD (ps.map prD) (some ((c : Int) + 1)) (some ((c : Int) + 4)) = ((ps.drop (c + 1)).take 3).map prD := by
      have := cut_mid (l := ps.map prD) (i := c + 1) (j := c + 4) (by omega)
      rw [show c + 4 - (c + 1) = 3 from by omega] at this
      rw [List.map_take, List.map_drop]
      exact this
    generalize ps[c + 1] = p1 at at1 in1
    generalize ps[c] = p0 at at0 in0
    generalize (ps.drop (c + 1)).take 3 = few at ecut drp drl drl2
    refine v_idx (kPP _ _ _) at1 ?_
    mul_fits
    refine draw_ (by omega) (by omega) fun y d3 y0 y1 => ?_
    obtain ⟨y, rfl⟩ := Int.eq_ofNat_of_zero_le y0
    mul_fits
    rw [rgD0]
    refine ⟨by simp; exact le_size (by omega), ?_⟩
    refine loopQ_e (fun k : Nat => D.int (k : Int)) prD (fun _ p => p ∈ ps) (fun S => ∃ g3 d', S = d'.st (R ++ [Ob.lst (ps.map prD)] ++ [.lst (acc.map Rl.d)] ++ (g2 ++ g3))) _ (fun _ _ S e => ?_) (fun used S a e => ?_) _ ⟨[], d3, by simp⟩
    · obtain ⟨g3, d', rfl⟩ := e
      refine ⟨trivial, ?_⟩
      have kq := kPP d' (acc.map Rl.d) (g2 ++ g3)
      mul_fits
      rw [ecut]
      simp only [st_len, st_app]
      refine pick_w (row := few.map prD) (by rw [List.length_map]; exact drl) (by rw [List.length_map]; omega) (get_end _ _) fun x hx d4 => ?_
      obtain ⟨u, hu, rfl⟩ := List.mem_map.mp hx
      mul_fits
      exact ⟨⟨g3 ++ [_], d4, by simp only [List.append_assoc]; rfl⟩, drp u hu⟩
    obtain ⟨g3, d4, rfl⟩ := e
    refine ⟨trivial, ?_⟩
    have ul : used.length = y := by rw [a.len, List.length_range]
    have uin : ∀ p ∈ used, p ∈ ps := fun p hp => (a.mem p hp).elim fun _ z => z.2
    mul_fits
    refine w_may rfl (w_may rfl (w_ask (by simp; exact le_size (by omega)) ?_))
    mul_fits
    simp only [st_len, st_app]
    have ecat : [D.tup [D.str p1.1, natD p1.2]] ++ used.map prD = (p1 :: used).map prD := rfl
    rw [ecat]
    rw [List.append_assoc (R ++ _ ++ [Ob.lst (acc.map Rl.d)])]
    refine w_withL (kL _ _ _) ?_
    mul_fits
    refine v_idx (kPP _ _ _) at0 ?_
    mul_fits
    have hbs : (R ++ [Ob.lst (ps.map prD)] ++ [Ob.lst (acc.map Rl.d)] ++ (g2 ++ g3 ++ [Ob.lst ((p1 :: used).map prD)]))[(R ++ [Ob.lst (ps.map prD)] ++ [Ob.lst (acc.map Rl.d)] ++ (g2 ++ g3)).length]? = some (.lst ((p1 :: used).map prD)) := by rw [← List.append_assoc (R ++ _ ++ [_]) (g2 ++ g3)]; exact get_end _ _
    refine shuffled_w (b := (R ++ [Ob.lst (ps.map prD)] ++ [Ob.lst (acc.map Rl.d)] ++ (g2 ++ g3)).length) (row := (p1 :: used).map prD) (by simp; omega) hbs fun got g4 d5 hg => ?_
    obtain ⟨us, hu, rfl⟩ := perm_of_map hg
    have uin2 : ∀ p ∈ us, p ∈ ps := fun p hp => by
      rcases List.mem_cons.mp (hu.mem_iff.mp hp) with rfl | hp
      · exact in1
      · exact uin p hp
    have ul2 : us.length ≤ 3 := by
      have := hu.length_eq
      rw [List.length_cons] at this
      omega
    have gg := get_g (R := R ++ [Ob.lst (ps.map prD)] ++ [Ob.lst (acc.map Rl.d)] ++ (g2 ++ g3 ++ [Ob.lst ((p1 :: used).map prD)])) (d := d5) (g := g4) (o := .lst (us.map prD))
    rw [List.append_assoc (R ++ _ ++ [Ob.lst (acc.map Rl.d)])] at gg ⊢
    rw [st_get] at gg
    mul_fits
    refine rule_v (nm := p0.1) (ar := p0.2) (inner := 0) (t := 0) (used := us) (hps.ar p0 in0) (by omega) (by omega) (fun q hq => hps.ar q (uin2 q hq)) (by omega) gg row_ab row_pq fun x d7 hx => ?_
    mul_fits
    refine v_app (kL _ _ _) (by rw [List.length_map]; exact le_size (by omega)) ?_
    rw [sL]
    mul_fits
    have xi := rlIn_of hx (by omega) in0 uin2 ul2
    refine ⟨_, .inl rfl, acc ++ [x], _, _, _, d7, by rw [List.map_append]; rfl, rfl, fun w hw => ?_, by simp; omega⟩
    rcases List.mem_append.mp hw with hw | hw
    · exact a1 w hw
    · simp at hw
      subst hw
      exact xi
  · rintro ρ S ⟨acc, g2, o5, o6, d', rfl, rfl, a1, a2⟩
    refine ⟨trivial, ?_⟩
    simp only [b__law_ladder_2]
    mul_fits
    refine draw_ (by decide) (by decide) fun y d3 y0 y1 => ?_
    mul_fits
    have inl : ps[ps.length - 1]'(by omega) ∈ ps := List.getElem_mem _
    have atl : atI (ps.map prD) (-1) = some (prD (ps[ps.length - 1]'(by omega))) := by
      have hne : ps ≠ [] := fun z => by rw [z] at pl; simp at pl; omega
      conv => lhs; rw [← List.dropLast_concat_getLast hne, List.map_append]
      rw [show [ps.getLast hne].map prD = [prD (ps.getLast hne)] from rfl, at_last, List.getLast_eq_getElem]
    generalize ps[ps.length - 1]'(by omega) = pz at atl inl
    refine W_mono (Q := fun fl S' => ∃ (acc : List Rl) (g2 : Sto) (d' : DS), fl = .nx [some (.ref 1), some (.ref (b + 2)), some (.ref (R.length + 2)), some (.int (1 + (s : Int))), some (.ref (R.length + 1 + 2)), o5, o6, none, none] ∧ S' = d'.st (R ++ [Ob.lst (ps.map prD)] ++ [.lst (acc.map Rl.d)] ++ g2) ∧ (∀ x ∈ acc, RlIn ps x) ∧ acc.length ≤ ps.length) ?_ ?_
    · refine w_ifd (fun c => ?_) fun c => ?_
      · mul_fits
        refine w_withL (kL _ _ _) ?_
        mul_fits
        refine v_idx (kPP _ _ _) atl ?_
        mul_fits
        simp only [st_len, st_app]
        refine rule_v (nm := pz.1) (ar := pz.2) (inner := 0) (t := 0) (used := []) (hps.ar pz inl) (by omega) (by omega) (by simp) (by simp) (get_end _ _) row_ab row_pq fun x d7 hx => ?_
        rw [List.append_assoc (R ++ _ ++ [Ob.lst (acc.map Rl.d)])]
        mul_fits
        refine v_app (kL _ _ _) (by rw [List.length_map]; exact le_size (by omega)) ?_
        rw [sL]
        mul_fits
        have xi := rlIn_of hx (by omega) inl (by simp) (by simp)
        refine ⟨acc ++ [x], _, d7, rfl, by rw [List.map_append]; rfl, fun w hw => ?_, by simp; omega⟩
        rcases List.mem_append.mp hw with hw | hw
        · exact a1 w hw
        · simp at hw
          subst hw
          exact xi
      · mul_fits
        exact ⟨acc, g2, d3, rfl, rfl, a1, by omega⟩
    clear a1 a2 acc
    rintro fl S' ⟨acc, g2, d', rfl, rfl, a1, a2⟩
    mul_fits
    simp only [b__law_ladder_3]
    mul_fits
    refine draw_ (by decide) (by decide) fun y d3 y0 y1 => ?_
    obtain ⟨y, rfl⟩ := Int.eq_ofNat_of_zero_le y0
    mul_fits
    rw [rgD_0]
    refine loop_rg (fun c ρ S => ∃ (acc : List Rl) (g2 : Sto) (o5 o6 : Option D) (d' : DS), S = d'.st (R ++ [Ob.lst (ps.map prD)] ++ [.lst (acc.map Rl.d)] ++ g2) ∧ ρ = [some (.ref 1), some (.ref (b + 2)), some (.ref (R.length + 2)), some (.int (1 + (s : Int))), some (.ref (R.length + 1 + 2)), o5, o6, none, none] ∧ (∀ x ∈ acc, RlIn ps x) ∧ acc.length ≤ ps.length + c) ?_ ?_ _ _ ⟨acc, g2, _, _, d3, rfl, rfl, a1, a2⟩
    · rintro c ρ S _ hc ⟨acc, g2, o5, o6, d', rfl, rfl, a1, a2⟩
      refine ⟨trivial, ?_⟩
      simp only [b__law_ladder_4]
      mul_fits
      refine draw_ (by decide) (by decide) fun z d3 z0 z1 => ?_
      obtain ⟨z, rfl⟩ := Int.eq_ofNat_of_zero_le z0
      mul_fits
      rw [rgD0]
      refine ⟨by simp; exact le_size (by omega), ?_⟩
      refine loopQ_e (fun k : Nat => D.int (k : Int)) prD (fun _ p => p ∈ ps) (fun S => ∃ d', S = d'.st (R ++ [Ob.lst (ps.map prD)] ++ [.lst (acc.map Rl.d)] ++ g2)) _ (fun _ _ S e => ?_) (fun used S a e => ?_) _ ⟨d3, rfl⟩
      · obtain ⟨d', rfl⟩ := e
        refine ⟨trivial, ?_⟩
        mul_fits
        refine pick_w (row := ps.map prD) (by rw [List.length_map]; omega) (by rw [List.length_map]; omega) (by rw [List.append_assoc]; exact kP' _) fun x hx d4 => ?_
        obtain ⟨u, hu, rfl⟩ := List.mem_map.mp hx
        mul_fits
        exact ⟨⟨d4, rfl⟩, hu⟩
      obtain ⟨d4, rfl⟩ := e
      refine ⟨trivial, ?_⟩
      have ul : used.length = z := by rw [a.len, List.length_range]
      have uin : ∀ p ∈ used, p ∈ ps := fun p hp => (a.mem p hp).elim fun _ z => z.2
      mul_fits
      simp only [st_len, st_app]
      rw [List.append_assoc (R ++ _ ++ [Ob.lst (acc.map Rl.d)])]
      refine w_withL (kL _ _ _) ?_
      mul_fits
      refine pick_w (row := ps.map prD) (by rw [List.length_map]; omega) (by rw [List.length_map]; omega) (by rw [List.append_assoc]; exact kP' _) fun x hx d5 => ?_
      obtain ⟨p, hp, rfl⟩ := List.mem_map.mp hx
      mul_fits
      refine rule_v (nm := p.1) (ar := p.2) (inner := 0) (t := 0) (bs := (R ++ [Ob.lst (ps.map prD)] ++ [Ob.lst (acc.map Rl.d)] ++ g2).length) (used := used) (hps.ar p hp) (by omega) (by omega) (fun q hq => hps.ar q (uin q hq)) (by omega) (by rw [← List.append_assoc]; exact get_end _ _) row_ab row_pq fun x d7 hx => ?_
      mul_fits
      refine v_app (kL _ _ _) (by rw [List.length_map]; exact le_size (by omega)) ?_
      rw [sL]
      mul_fits
      have xi := rlIn_of hx (by omega) hp uin (by omega)
      refine ⟨_, .inl rfl, acc ++ [x], _, _, _, d7, by rw [List.map_append]; rfl, rfl, fun w hw => ?_, by simp; omega⟩
      rcases List.mem_append.mp hw with hw | hw
      · exact a1 w hw
      · simp at hw
        subst hw
        exact xi
    · rintro ρ S ⟨acc, g2, o5, o6, d', rfl, rfl, a1, a2⟩
      refine ⟨trivial, ?_⟩
      simp only [b__law_ladder_5]
      mul_fits
      have e : ∀ o, R ++ [Ob.lst (ps.map prD)] ++ [Ob.lst (acc.map Rl.d)] ++ g2 ++ [o] = R ++ ([Ob.lst (ps.map prD)] ++ [Ob.lst (acc.map Rl.d)] ++ g2 ++ [o]) := fun o => by simp
      simp only [st_len, st_app]
      rw [gc_out (by simp [below, st_len]), e]
      refine w_ok (h (R ++ [Ob.lst (ps.map prD)] ++ [Ob.lst (acc.map Rl.d)] ++ g2).length R.length (R.length + 1) ps acc _ d' ⟨hps, a1, by omega, by simp, Nat.le_refl _, by omega, ?_, ?_, ?_, by omega⟩)
      · rw [← e]; exact get_end _ _
      · rw [← e]
        have := get_mid R ([Ob.lst (acc.map Rl.d)] ++ g2 ++ [Ob.lst [D.ref (R.length + 2), D.ref (R.length + 1 + 2)]]) (Ob.lst (ps.map prD))
        simpa using this
      · rw [← e]
        have := get_mid (R ++ [Ob.lst (ps.map prD)]) (g2 ++ [Ob.lst [D.ref (R.length + 2), D.ref (R.length + 1 + 2)]]) (Ob.lst (acc.map Rl.d))
        simpa using this
end
/-- what holds of them -/
structure BkR (b : Bk) : Prop where
  id : IdOk (b.nms.map (·.1))
  top : (b.top, 0) ∈ b.nms
  ar : ∀ p ∈ b.nms, p.2 ≤ 3
  rl : ∀ r ∈ b.rls, RlIn b.nms r
  n1 : 1 ≤ b.nms.length
  nl : b.nms.length ≤ 64
  rn : b.rls.length ≤ 400
theorem set_geR {S g : Sto} {i : Nat} {o : Ob} (h : S.length ≤ i) : ∃ g', (S ++ g).set i o = S ++ g' := ⟨g.set (i - S.length) o, by rw [List.set_append_right _ _ h]⟩
theorem RlIn.of_mem {ns ns' : List (Str × Nat)} {r : Rl} (h : RlIn ns r) (hm : ∀ p ∈ ns, p ∈ ns') : RlIn ns' r := by
  obtain ⟨x, x1, x2, x3⟩ := h.ex
  exact ⟨⟨x, hm _ x1, fun s hs => let ⟨a', u1, u2⟩ := x2 s hs; ⟨a', hm _ u1, u2⟩, x3⟩, h.sl, h.ms, h.tl, h.ss, h.mc⟩
theorem IdOk.perm {l m : List Str} (h : IdOk m) (p : l.Perm m) : IdOk l := ⟨p.nodup_iff.mpr h.nd, fun s hs => h.ok s (p.mem_iff.mp hs), fun s hs => h.ne s (p.mem_iff.mp hs), fun s hs => h.le s (p.mem_iff.mp hs)⟩
theorem PrOk.shift {R g g2 : Sto} {r p q m m' : Nat} {ns : List Str} {ps : List (Str × Nat)} {rs : List Rl} (o : PrOk (R ++ g) g2 r p q ns ps rs m) (h : m ≤ m') : PrOk R (g ++ g2) r p q ns ps rs m' := by
  have hl : R.length ≤ (R ++ g).length := by simp
  exact ⟨o.psk, o.rl, Nat.le_trans o.len h, Nat.le_trans hl o.lr, Nat.le_trans hl o.lp, Nat.le_trans hl o.lq, by rw [← List.append_assoc]; exact o.kr, by rw [← List.append_assoc]; exact o.kp, by rw [← List.append_assoc]; exact o.kq, o.pq⟩
section
variable {k : Nat} {R : Sto} {Q : D → Sto → Prop} {d : DS}
theorem ruled_w {bs : Nat} {sz : List Nat} (hz : ∀ s ∈ sz, 1 ≤ s ∧ s ≤ 64) (hz0 : 0 < sz.length ∧ sz.length < 1000) (hb : R[bs]? = some (.lst (sz.map natD)))
    (h : ∀ (b : Bk) (d' : DS), BkR b → Q b.d (d'.st R)) : W (orc T (k + 7) n__law_ruled [.ref 1, .ref (bs + 2)] (d.st R)) Q := by
  refine orc_w (ρ := [some (.ref 1), some (.ref (bs + 2)), none, none, none, none, none, none]) rfl rfl rfl ?_
  show W (evSs _ b__law_ruled _ _) _
  simp only [b__law_ruled]
  mul_fits
  refine draw_ (by decide) (by decide) fun y d1 y0 y1 => ?_
  mul_fits
  refine W_mono (Q := fun fl S' => ∃ (r p q : Nat) (ns : List Str) (ps : List (Str × Nat)) (rs : List Rl) (g : Sto) (d' : DS), fl = .nx [some (.ref 1), some (.ref (bs + 2)), some (.ref (p + 2)), some (.ref (q + 2)), none, none, none, none] ∧ S' = d'.st (R ++ g) ∧ IdOk ns ∧ 1 ≤ ns.length ∧ ns.length ≤ 64 ∧ PrOk R g r p q ns ps rs 67) ?_ ?_
  · refine w_ifd (fun c => ?_) fun c => ?_
    · mul_fits
      refine draw_ (by decide) (by decide) fun z d2 z0 z1 => ?_
      obtain ⟨z, rfl⟩ := Int.eq_ofNat_of_zero_le z0
      mul_fits
      rw [show (1 : Int) + (z : Int) = ((1 + z : Nat) : Int) from by omega]
      refine ids_w (by omega) fun l b g d3 hl ok hbl hbg => ?_
      mul_fits
      refine wild_w (by omega) hbg fun r p q ps rs g2 d4 o => ?_
      have eb : bindN (.tup [2, 3]) (.ref (r + 2)) [some (.ref 1), some (.ref (bs + 2)), none, none, none, none, none, none] (d4.st (R ++ g ++ g2)) = some [some (.ref 1), some (.ref (bs + 2)), some (.ref (p + 2)), some (.ref (q + 2)), none, none, none, none] := by
        simp only [bindN, sqOf, lsOf, st_get, o.kr]
        rfl
      refine w_may eb ?_
      mul_fits
      exact ⟨r, p, q, l, ps, rs, g ++ g2, d4, rfl, by rw [List.append_assoc], ok, by omega, by omega, o.shift (by omega)⟩
    · mul_fits
      refine pick_w (row := sz.map natD) (by rw [List.length_map]; exact hz0.1) (by rw [List.length_map]; exact hz0.2) hb fun x hx d2 => ?_
      obtain ⟨z, hzm, rfl⟩ := List.mem_map.mp hx
      have := hz z hzm
      mul_fits
      refine ids_w (by omega) fun l b g d3 hl ok hbl hbg => ?_
      mul_fits
      refine ladder_w (by omega) hbg fun r p q ps rs g2 d4 o => ?_
      have eb : bindN (.tup [2, 3]) (.ref (r + 2)) [some (.ref 1), some (.ref (bs + 2)), none, none, none, none, none, none] (d4.st (R ++ g ++ g2)) = some [some (.ref 1), some (.ref (bs + 2)), some (.ref (p + 2)), some (.ref (q + 2)), none, none, none, none] := by
        simp only [bindN, sqOf, lsOf, st_get, o.kr]
        rfl
      refine w_may eb ?_
      mul_fits
      exact ⟨r, p, q, l, ps, rs, g ++ g2, d4, rfl, by rw [List.append_assoc], ok, by omega, by omega, o.shift (by omega)⟩
  rintro fl S' ⟨r, p, q, ns, ps, rs, g, d2, rfl, rfl, ok, n1, n64, o⟩
  have pl : ps.length = ns.length := by rw [← o.psk.nm, List.length_map]
  have k2 : ∀ d : DS, (d.st (R ++ g))[q + 2]? = some (.lst (rs.map Rl.d)) := fun d => by rw [st_get]; exact o.kq
  mul_fits
  simp only [b__law_ruled_1]
  -- one rule twice?
  refine w_scons ?_
  refine W_mono (Q := fun fl S' => ∃ (rs' : List Rl) (g' : Sto) (d' : DS), fl = Fl.nx [some (.ref 1), some (.ref (bs + 2)), some (.ref (p + 2)), some (.ref (q + 2)), none, none, none, none] ∧ S' = d'.st (R ++ g') ∧ (R ++ g')[p]? = some (.lst (ps.map prD)) ∧ (R ++ g')[q]? = some (.lst (rs'.map Rl.d)) ∧ (∀ r ∈ rs', RlIn ps r) ∧ rs'.length ≤ 68) ?_ ?_
  · have k2' := k2 d2
    have same : ∀ d' : DS, ∃ (rs' : List Rl) (g' : Sto) (d2 : DS), Fl.nx [some (.ref 1), some (.ref (bs + 2)), some (.ref (p + 2)), some (.ref (q + 2)), none, none, none, none] = Fl.nx [some (.ref 1), some (.ref (bs + 2)), some (.ref (p + 2)), some (.ref (q + 2)), none, none, none, none] ∧ d'.st (R ++ g) = d2.st (R ++ g') ∧ (R ++ g')[p]? = some (.lst (ps.map prD)) ∧ (R ++ g')[q]? = some (.lst (rs'.map Rl.d)) ∧ (∀ r ∈ rs', RlIn ps r) ∧ rs'.length ≤ 68 := fun d' => ⟨rs, g, d', rfl, rfl, o.kp, o.kq, o.rl, by have := o.len; omega⟩
    mul_fits
    rw [List.length_map]
    refine w_ifd (fun c => ?_) fun c => ?_
    · mul_fits
      refine draw_ (by decide) (by decide) fun z d3 z0 z1 => ?_
      mul_fits
      refine w_ifd (fun c => ?_) fun c => ?_
      · mul_fits
        refine pick_w (row := rs.map Rl.d) (by rw [List.length_map]; omega) (by rw [List.length_map]; have := o.len; omega) o.kq fun x hx d4 => ?_
        obtain ⟨u, hu, rfl⟩ := List.mem_map.mp hx
        mul_fits
        refine v_app (k2 _) (by rw [List.length_map]; have := o.len; exact le_size (by omega)) ?_
        rw [st_set]
        obtain ⟨g', e⟩ := set_geR (S := R) (g := g) (i := q) (o := .lst (rs.map Rl.d ++ [u.d])) o.lq
        have hq : q < (R ++ g).length := (List.getElem?_eq_some_iff.mp o.kq).1
        have e1 : (R ++ g')[p]? = some (.lst (ps.map prD)) := by rw [← e, List.getElem?_set_ne (Ne.symm o.pq)]; exact o.kp
        have e2 : (R ++ g')[q]? = some (.lst ((rs ++ [u]).map Rl.d)) := by rw [← e, List.getElem?_set_self hq, List.map_append]; rfl
        rw [e]
        mul_fits
        refine ⟨rs ++ [u], g', d4, rfl, rfl, e1, e2, fun r hr => ?_, by have := o.len; rw [List.length_append]; simp; omega⟩
        rcases List.mem_append.mp hr with hr | hr
        · exact o.rl r hr
        · simp at hr
          subst hr
          exact o.rl _ hu
      · mul_fits
        exact same d3
    · mul_fits
      exact same d2
  rintro fl S' ⟨rs', g', d3, rfl, rfl, kp, kq, hr, hl⟩
  mul_fits
  simp only [b__law_ruled_2]
  have kq' : ∀ (d : DS) (g2 : Sto), (d.st (R ++ g' ++ g2))[q + 2]? = some (.lst (rs'.map Rl.d)) := fun d g2 => by rw [st_get]; exact get_pre kq
  have kp' : ∀ (d : DS) (g2 : Sto), (d.st (R ++ g' ++ g2))[p + 2]? = some (.lst (ps.map prD)) := fun d g2 => by rw [st_get]; exact get_pre kp
  have kq0 : (d3.st (R ++ g'))[q + 2]? = some (.lst (rs'.map Rl.d)) := by rw [st_get]; exact kq
  mul_fits
  simp only [st_len, st_app]
  refine shuffled_w (b := q) (row := rs'.map Rl.d) (by rw [List.length_map]; omega) (get_pre kq) fun got g2 d4 hg => ?_
  obtain ⟨sh, hsh, rfl⟩ := perm_of_map hg
  have gg := get_g (R := R ++ g' ++ [Ob.lst (rs'.map Rl.d).reverse]) (d := d4) (g := g2) (o := .lst (sh.map Rl.d))
  rw [st_get] at gg
  have er : (rs'.map Rl.d).reverse = rs'.reverse.map Rl.d := by rw [List.map_reverse]
  rw [er] at gg ⊢
  have k3 : (R ++ g' ++ [Ob.lst (rs'.reverse.map Rl.d)] ++ (g2 ++ [Ob.lst (sh.map Rl.d)]))[(R ++ g').length]? = some (.lst (rs'.reverse.map Rl.d)) := get_mid _ _ _
  have k4 : (R ++ g' ++ [Ob.lst (rs'.reverse.map Rl.d)] ++ (g2 ++ [Ob.lst (sh.map Rl.d)]))[q]? = some (.lst (rs'.map Rl.d)) := by rw [List.append_assoc (R ++ g')]; exact get_pre kq
  have k5 : (R ++ g' ++ [Ob.lst (rs'.reverse.map Rl.d)] ++ (g2 ++ [Ob.lst (sh.map Rl.d)]))[p]? = some (.lst (ps.map prD)) := by rw [List.append_assoc (R ++ g')]; exact get_pre kp
  have eR : ∃ G, R ++ g' ++ [Ob.lst (rs'.reverse.map Rl.d)] ++ (g2 ++ [Ob.lst (sh.map Rl.d)]) = R ++ G := ⟨g' ++ [Ob.lst (rs'.reverse.map Rl.d)] ++ (g2 ++ [Ob.lst (sh.map Rl.d)]), by simp⟩
  obtain ⟨G, eG⟩ := eR
  rw [eG] at gg k3 k4 k5 ⊢
  generalize (R ++ g' ++ [Ob.lst (rs'.reverse.map Rl.d)]).length + g2.length = s3 at gg ⊢
  generalize (R ++ g').length = s2 at k3 ⊢
  mul_fits
  simp only [st_len, st_app]
  refine pick_w (row := [.ref (q + 2), .ref (s2 + 2), .ref (s3 + 2)]) (by simp) (by simp) (get_end _ _) fun x hx d5 => ?_
  obtain ⟨a, rs2, rfl, ka, hp2⟩ : ∃ (a : Nat) (rs2 : List Rl), x = .ref (a + 2) ∧ (R ++ G)[a]? = some (.lst (rs2.map Rl.d)) ∧ rs2.Perm rs' := by
    simp only [List.mem_cons, List.not_mem_nil, or_false] at hx
    rcases hx with rfl | rfl | rfl
    · exact ⟨q, rs', rfl, k4, .refl _⟩
    · exact ⟨s2, rs'.reverse, rfl, k3, List.reverse_perm _⟩
    · exact ⟨s3, sh, rfl, gg, hsh⟩
  have hr2 : ∀ r ∈ rs2, RlIn ps r := fun r h => hr r (hp2.mem_iff.mp h)
  have hl2 : rs2.length ≤ 68 := by rw [hp2.length_eq]; exact hl
  have ka' : ∀ (d : DS) (g2 : Sto), (d.st (R ++ G ++ g2))[a + 2]? = some (.lst (rs2.map Rl.d)) := fun d g2 => by rw [st_get]; exact get_pre ka
  have kp3 : ∀ (d : DS) (g2 : Sto), (d.st (R ++ G ++ g2))[p + 2]? = some (.lst (ps.map prD)) := fun d g2 => by rw [st_get]; exact get_pre k5
  generalize hG2 : [Ob.lst [D.ref (q + 2), D.ref (s2 + 2), D.ref (s3 + 2)]] = G2
  mul_fits
  refine w_may (it_lst (ka' _ _)) ?_
  mul_fits
  refine ⟨by rw [List.length_map]; exact le_size (by omega), ?_⟩
  refine loopQ_f Rl.d (fun r : Rl => decide (r.sl.length = 0)) Rl.d (fun S => S = d5.st (R ++ G ++ G2)) rs2 (fun r hr S e => ?_) (fun S e => ?_) _ rfl
  · subst e
    refine ⟨ka' _ _, ?_⟩
    mul_fits
    rw [List.length_map]
    refine w_ifd (fun c => ?_) fun c => ?_
    · have c' : r.sl.length = 0 := by omega
      mul_fits
      exact ⟨by rw [if_pos (decide_eq_true c')], rfl⟩
    · have c' : ¬r.sl.length = 0 := by omega
      mul_fits
      exact ⟨by rw [if_neg fun z => c' (of_decide_eq_true z)], rfl⟩
  subst e
  refine ⟨ka' _ _, ?_⟩
  refine w_nx (w_scons ?_)
  simp only [st_len, st_app]
  generalize hE : rs2.filter (fun r : Rl => decide (r.sl.length = 0)) = E
  have hEm : ∀ r ∈ E, RlIn ps r := fun r h => hr2 r (by rw [← hE] at h; exact (List.mem_filter.mp h).1)
  have hEl : E.length ≤ 68 := by rw [← hE]; exact Nat.le_trans (List.length_filter_le _ _) hl2
  have kE : ∀ (d : DS) (g2 : Sto), (d.st (R ++ G ++ G2 ++ [Ob.lst (E.map Rl.d)] ++ g2))[(R ++ G ++ G2).length + 2]? = some (.lst (E.map Rl.d)) := fun d g2 => st_mid
  have kE0 : (R ++ G ++ G2 ++ [Ob.lst (E.map Rl.d)])[(R ++ G ++ G2).length]? = some (.lst (E.map Rl.d)) := get_end _ _
  have ka2 : ∀ (d : DS) (g2 : Sto), (d.st (R ++ G ++ G2 ++ [Ob.lst (E.map Rl.d)] ++ g2))[a + 2]? = some (.lst (rs2.map Rl.d)) := fun d g2 => by rw [st_get, List.append_assoc (R ++ G), List.append_assoc (R ++ G)]; exact get_pre ka
  have kp4 : ∀ (d : DS) (g2 : Sto), (d.st (R ++ G ++ G2 ++ [Ob.lst (E.map Rl.d)] ++ g2))[p + 2]? = some (.lst (ps.map prD)) := fun d g2 => by rw [st_get, List.append_assoc (R ++ G), List.append_assoc (R ++ G)]; exact get_pre k5
  generalize (R ++ G ++ G2).length = e at kE kE0
  obtain ⟨H, eH⟩ : ∃ H, R ++ G ++ G2 ++ [Ob.lst (E.map Rl.d)] = R ++ H := ⟨G ++ G2 ++ [Ob.lst (E.map Rl.d)], by simp⟩
  rw [eH] at kE kE0 ka2 kp4 ⊢
  refine W_mono (Q := fun fl S' => ∃ (a' : Nat) (rs3 : List Rl) (G3 : Sto) (o5 : Option D) (d' : DS), fl = Fl.nx [some (.ref 1), some (.ref (bs + 2)), some (.ref (p + 2)), some (.ref (a' + 2)), some (.ref (e + 2)), o5, none, none] ∧ S' = d'.st (R ++ G3) ∧ (R ++ G3)[p]? = some (.lst (ps.map prD)) ∧ (R ++ G3)[a']? = some (.lst (rs3.map Rl.d)) ∧ (∀ r ∈ rs3, RlIn ps r) ∧ rs3.length ≤ 400) ?_ ?_
  · have kx := fun d => kE d []
    have kxp := fun d => kp4 d []
    have kxa := fun d => ka2 d []
    simp only [List.append_nil] at kx kxp kxa
    have same : ∀ d' : DS, ∃ (a' : Nat) (rs3 : List Rl) (G3 : Sto) (o5 : Option D) (d2 : DS), Fl.nx [some (.ref 1), some (.ref (bs + 2)), some (.ref (p + 2)), some (.ref (a + 2)), some (.ref (e + 2)), none, none, none] = Fl.nx [some (.ref 1), some (.ref (bs + 2)), some (.ref (p + 2)), some (.ref (a' + 2)), some (.ref (e + 2)), o5, none, none] ∧ d'.st (R ++ H) = d2.st (R ++ G3) ∧ (R ++ G3)[p]? = some (.lst (ps.map prD)) ∧ (R ++ G3)[a']? = some (.lst (rs3.map Rl.d)) ∧ (∀ r ∈ rs3, RlIn ps r) ∧ rs3.length ≤ 400 := fun d' => ⟨a, rs2, H, none, d', rfl, rfl, kxp d', kxa d', hr2, by omega⟩
    have kx5 := kx d5
    have kxp5 := kxp d5
    mul_fits
    rw [List.length_map]
    refine w_ifd (fun c => ?_) fun c => ?_
    · mul_fits
      rw [List.length_map]
      refine w_ifd (fun c2 => ?_) fun c2 => ?_
      · mul_fits
        refine rare_w (by decide) (by decide) fun c3 d6 => ?_
        mul_fits
        refine w_if (fun z => ?_) fun z => ?_
        · mul_fits
          refine pick_w (row := E.map Rl.d) (by rw [List.length_map]; omega) (by rw [List.length_map]; omega) kE0 fun x hx d7 => ?_
          obtain ⟨u, hu, rfl⟩ := List.mem_map.mp hx
          have kxa7 := kxa d7
          mul_fits
          rw [List.length_map, show (400 : Int) - (rs2.length : Int) = ((400 - rs2.length : Nat) : Int) from by omega]
          refine ⟨_, _, rfl, rfl, by unfold bd62; omega, ?_⟩
          rw [rgD0]
          refine ⟨by rw [List.length_map, List.length_range]; exact le_size (by omega), ?_⟩
          refine loopQ_m (fun k : Nat => D.int (k : Int)) (fun _ => u.d) (fun S' => S' = d7.st (R ++ H)) _ (fun x _ S' e => ?_) (fun S' e => ?_) _ rfl
          · subst e
            refine ⟨trivial, ?_⟩
            mul_fits
            exact ⟨rfl, rfl⟩
          subst e
          refine ⟨trivial, ?_⟩
          mul_fits
          refine w_ask (by rw [List.length_map, List.length_map, List.length_range]; exact le_size (by omega)) ?_
          mul_fits
          simp only [st_len, st_app]
          have ec : (List.range (400 - rs2.length)).map (fun _ => u.d) ++ rs2.map Rl.d = ((List.range (400 - rs2.length)).map (fun _ => u) ++ rs2).map Rl.d := by rw [List.map_append, List.map_map]; rfl
          rw [ec]
          refine ⟨(R ++ H).length, (List.range (400 - rs2.length)).map (fun _ => u) ++ rs2, H ++ [_], _, d7, rfl, by rw [List.append_assoc], ?_, ?_, fun r hr => ?_, by simp; omega⟩
          · rw [← List.append_assoc]; exact get_pre (kxp d7)
          · rw [← List.append_assoc]; exact get_end _ _
          · rcases List.mem_append.mp hr with hr | hr
            · obtain ⟨_, _, rfl⟩ := List.mem_map.mp hr
              exact hEm _ hu
            · exact hr2 r hr
        · mul_fits
          exact same d6
      · mul_fits
        exact same d5
    · mul_fits
      exact same d5
  rintro fl S' ⟨a', rs3, G3, o5, d6, rfl, rfl, kp, ka, hr3, hl3⟩
  have kp : (d6.st (R ++ G3))[p + 2]? = some (.lst (ps.map prD)) := by rw [st_get]; exact kp
  have ka : (d6.st (R ++ G3))[a' + 2]? = some (.lst (rs3.map Rl.d)) := by rw [st_get]; exact ka
  mul_fits
  simp only [b__law_ruled_3]
  obtain ⟨n0, pr, hps⟩ := o.psk.hd
  refine w_scons (w_ret (w_tup (w_cons ?_)))
  have at0 : atI (ps.map prD) 0 = some (prD (n0, 0)) := by rw [hps, List.map_cons]; exact at_nat (k := 0) _ (by simp)
  mul_fits
  refine sort_prs fun ps' hp => ?_
  mul_fits
  have hmem : ∀ p, p ∈ ps' ↔ p ∈ ps := fun p => hp.mem_iff
  have epn : (ps'.map (·.1)).Perm ns := by rw [← o.psk.nm]; exact hp.map _
  refine gc_st2 ((pd_bk ⟨n0, ps', rs3⟩).b _) ?_
  exact h ⟨n0, ps', rs3⟩ d6 ⟨ok.perm epn, (hmem _).mpr (by rw [hps]; exact List.mem_cons_self), fun p hp => o.psk.ar p ((hmem p).mp hp), fun r hr => (hr3 r hr).of_mem fun p hp => (hmem p).mpr hp, by show 1 ≤ ps'.length; rw [hp.length_eq]; omega, by show ps'.length ≤ 64; rw [hp.length_eq]; omega, hl3⟩
end
def addS (l : List Str) (s : Str) : List Str := if s ∈ l then l else l ++ [s]
theorem addS_mem {l : List Str} {s t : Str} : t ∈ addS l s ↔ t ∈ l ∨ t = s := by
  unfold addS
  split
  · rename_i h
    exact ⟨.inl, fun x => x.elim id fun e => e ▸ h⟩
  · simp
theorem addS_nd {l : List Str} {s : Str} (h : l.Nodup) : (addS l s).Nodup := by
  unfold addS
  split
  · exact h
  · rename_i c
    rw [List.nodup_append]
    exact ⟨h, by simp, fun a ha b hb e => c (by simp at hb; rw [← hb, ← e]; exact ha)⟩
theorem addS_pre {l : List Str} {s : Str} : ∃ x, addS l s = l ++ x := by
  unfold addS
  split
  · exact ⟨[], by simp⟩
  · exact ⟨[s], rfl⟩
/-- what a round keeps -/
structure Rnd (ns : List Str) (f : List Str → List Str) : Prop where
  pre : ∀ l, ∃ x, f l = l ++ x
  nd : ∀ l, l.Nodup → (f l).Nodup
  sub : ∀ l, (∀ s ∈ l, s ∈ ns) → ∀ s ∈ f l, s ∈ ns
theorem Rnd.id {ns : List Str} : Rnd ns fun l => l := ⟨fun l => ⟨[], by simp⟩, fun _ h => h, fun _ h => h⟩
theorem Rnd.comp {ns : List Str} {f g : List Str → List Str} (a : Rnd ns f) (b : Rnd ns g) : Rnd ns fun l => g (f l) :=
  ⟨fun l => by
    obtain ⟨x, hx⟩ := a.pre l
    obtain ⟨y, hy⟩ := b.pre (f l)
    exact ⟨x ++ y, by rw [hy, hx, List.append_assoc]⟩, fun l h => b.nd _ (a.nd l h), fun l h => b.sub _ (a.sub l h)⟩
theorem Rnd.fold {α : Type} {ns : List Str} {f : List Str → α → List Str} : ∀ (xs : List α), (∀ x ∈ xs, Rnd ns fun l => f l x) → Rnd ns fun l => xs.foldl f l
  | [], _ => Rnd.id
  | x :: xs, h => (h x (by simp)).comp (Rnd.fold xs fun y hy => h y (by simp [hy]))
def iter {α : Type} (f : α → α) : Nat → α → α
  | 0, a => a
  | n + 1, a => f (iter f n a)
theorem nodup_len : ∀ {l m : List Str}, l.Nodup → (∀ s ∈ l, s ∈ m) → l.length ≤ m.length
  | [], _, _, _ => Nat.zero_le _
  | x :: l, m, nd, h => by
    rw [List.nodup_cons] at nd
    have hx : x ∈ m := h x (by simp)
    have := nodup_len (m := m.erase x) nd.2 fun s hs => (List.mem_erase_of_ne (fun e => nd.1 (by rw [← e]; exact hs))).mpr (h s (by simp [hs]))
    rw [List.length_erase_of_mem hx] at this
    have := List.length_pos_of_mem hx
    rw [List.length_cons]
    omega
theorem Rnd.all {ns : List Str} {f : List Str → List Str} (r : Rnd ns f) {l0 : List Str} (h0 : l0.Nodup) (hs : ∀ s ∈ l0, s ∈ ns) : ∀ n, (iter f n l0).Nodup ∧ (∀ s ∈ iter f n l0, s ∈ ns) ∧ ∃ x, iter f n l0 = l0 ++ x
  | 0 => ⟨h0, hs, [], by simp [iter]⟩
  | n + 1 => by
    obtain ⟨a, b, x, c⟩ := r.all h0 hs n
    obtain ⟨y, d⟩ := r.pre (iter f n l0)
    exact ⟨r.nd _ a, r.sub _ b, x ++ y, by rw [iter, d, c, List.append_assoc]⟩
/-- as many rounds as there are names: nothing more is found -/
theorem Rnd.fix {ns : List Str} {f : List Str → List Str} (r : Rnd ns f) {l0 : List Str} (h0 : l0.Nodup) (hs : ∀ s ∈ l0, s ∈ ns) : f (iter f ns.length l0) = iter f ns.length l0 := by
  have key : ∀ n, f (iter f n l0) = iter f n l0 ∨ l0.length + n ≤ (iter f n l0).length := by
    intro n
    induction n with
    | zero => exact .inr (Nat.le_refl _)
    | succ n ih =>
      rcases ih with ih | ih
      · left
        rw [iter, ih, ih]
      · obtain ⟨x, hx⟩ := r.pre (iter f n l0)
        cases x with
        | nil =>
          rw [List.append_nil] at hx
          left
          rw [iter, hx, hx]
        | cons y x =>
          right
          rw [iter, hx, List.length_append, List.length_cons]
          omega
  rcases key ns.length with h | h
  · exact h
  · obtain ⟨a, b, _⟩ := r.all h0 hs ns.length
    have h1 := nodup_len (r.nd _ a) (r.sub _ b)
    obtain ⟨x, hx⟩ := r.pre (iter f ns.length l0)
    rw [hx, List.length_append] at h1
    cases x with
    | nil => rw [hx, List.append_nil]
    | cons y x => rw [List.length_cons] at h1; omega
/-- a fold that ends as it began never changed -/
theorem fold_fix {α : Type} {f : List Str → α → List Str} (hf : ∀ l x, ∃ y, f l x = l ++ y) : ∀ (xs : List α) (l : List Str), xs.foldl f l = l → ∀ x ∈ xs, f l x = l
  | [], _, _, _, hx => by simp at hx
  | z :: xs, l, e, x, hx => by
    have pre : ∀ (xs : List α) (l : List Str), ∃ y, xs.foldl f l = l ++ y := by
      intro xs
      induction xs with
      | nil => exact fun l => ⟨[], by simp⟩
      | cons a xs ih =>
        intro l
        obtain ⟨y, hy⟩ := hf l a
        obtain ⟨w, hw⟩ := ih (f l a)
        exact ⟨y ++ w, by rw [List.foldl_cons, hw, hy, List.append_assoc]⟩
    rw [List.foldl_cons] at e
    obtain ⟨y, hy⟩ := hf l z
    have hz : f l z = l := by
      obtain ⟨w, hw⟩ := pre xs (f l z)
      rw [hw, hy] at e
      have := congrArg List.length e
      rw [List.length_append, List.length_append] at this
      have : y = [] := List.eq_nil_of_length_eq_zero (by omega)
      rw [hy, this, List.append_nil]
    rcases List.mem_cons.mp hx with rfl | hx
    · exact hz
    · rw [hz] at e
      exact fold_fix hf xs l e x hx
def slIn (l : List Str) (r : Rl) : Bool := r.sl.all fun s => decide (s.nm ∈ l)
def stpG (l : List Str) (r : Rl) : List Str := if slIn l r = true then addS l r.nm else l
def trnG (b : Bk) (l : List Str) : List Str := b.rls.foldl stpG l
def grw (b : Bk) : List Str := iter (trnG b) b.nms.length []
def addsR (l : List Str) (r : Rl) : List Str := r.sl.foldl (fun l s => addS l s.nm) l
def stpR (l : List Str) (r : Rl) : List Str := if r.nm ∈ l then addsR l r else l
def trnR (rs : List Rl) (l : List Str) : List Str := rs.foldl stpR l
def rch (b : Bk) (s : Str) : List Str := iter (trnR b.rls) b.nms.length [s]
/-- a book's names are its own -/
structure BkN (b : Bk) : Prop where
  nd : (b.nms.map (·.1)).Nodup
  rl : ∀ r ∈ b.rls, r.nm ∈ b.nms.map (·.1)
  sl : ∀ r ∈ b.rls, ∀ s ∈ r.sl, s.nm ∈ b.nms.map (·.1)
theorem stpG_pre (l : List Str) (r : Rl) : ∃ y, stpG l r = l ++ y := by
  unfold stpG
  split
  · exact addS_pre
  · exact ⟨[], by simp⟩
theorem trnG_rnd {b : Bk} (o : BkN b) : Rnd (b.nms.map (·.1)) (trnG b) := Rnd.fold b.rls fun r hr => ⟨fun l => stpG_pre l r, fun l h => by
    unfold stpG
    split
    · exact addS_nd h
    · exact h, fun l h s hs => by
    unfold stpG at hs
    split at hs
    · rcases addS_mem.mp hs with hs | rfl
      · exact h s hs
      · exact o.rl r hr
    · exact h s hs⟩
theorem addsR_mem {r : Rl} {l : List Str} {t : Str} : t ∈ addsR l r ↔ t ∈ l ∨ ∃ s ∈ r.sl, s.nm = t := by
  unfold addsR
  generalize r.sl = ss
  induction ss generalizing l with
  | nil => simp
  | cons a ss ih =>
    rw [List.foldl_cons, ih, addS_mem]
    simp only [List.mem_cons, exists_eq_or_imp]
    constructor
    · rintro ((h | h) | h)
      · exact .inl h
      · exact .inr (.inl h.symm)
      · exact .inr (.inr h)
    · rintro (h | h | h)
      · exact .inl (.inl h)
      · exact .inl (.inr h.symm)
      · exact .inr h
theorem addsR_rnd {ns : List Str} {r : Rl} (h : ∀ s ∈ r.sl, s.nm ∈ ns) : Rnd ns fun l => addsR l r := Rnd.fold r.sl fun s hs => ⟨fun _ => addS_pre, fun _ h => addS_nd h, fun l hl t ht => by
    rcases addS_mem.mp ht with ht | rfl
    · exact hl t ht
    · exact h s hs⟩
theorem stpR_pre (l : List Str) (r : Rl) : ∃ y, stpR l r = l ++ y := by
  unfold stpR
  split
  · exact (addsR_rnd (ns := r.sl.map (·.nm)) fun s hs => List.mem_map.mpr ⟨s, hs, rfl⟩).pre l
  · exact ⟨[], by simp⟩
theorem trnR_rnd {ns : List Str} {rs : List Rl} (h : ∀ r ∈ rs, ∀ s ∈ r.sl, s.nm ∈ ns) : Rnd ns (trnR rs) := Rnd.fold rs fun r hr => ⟨fun l => stpR_pre l r, fun l hl => by
    unfold stpR
    split
    · exact (addsR_rnd (h r hr)).nd l hl
    · exact hl, fun l hl s hs => by
    unfold stpR at hs
    split at hs
    · exact (addsR_rnd (h r hr)).sub l hl s hs
    · exact hl s hs⟩
theorem nms_len (b : Bk) : (b.nms.map (·.1)).length = b.nms.length := List.length_map _
theorem grw_all {b : Bk} (o : BkN b) : (grw b).Nodup ∧ ∀ s ∈ grw b, s ∈ b.nms.map (·.1) := by
  have := (trnG_rnd o).all (l0 := []) List.nodup_nil (by simp) b.nms.length
  exact ⟨this.1, this.2.1⟩
/-- a rule whose slots grow makes its name grow -/
theorem grw_closed {b : Bk} (o : BkN b) {r : Rl} (hr : r ∈ b.rls) (h : ∀ s ∈ r.sl, s.nm ∈ grw b) : r.nm ∈ grw b := by
  have e := (trnG_rnd o).fix (l0 := []) List.nodup_nil (by simp)
  rw [nms_len] at e
  have := fold_fix stpG_pre b.rls (grw b) e r hr
  unfold stpG at this
  rw [if_pos (by unfold slIn; rw [List.all_eq_true]; exact fun s hs => decide_eq_true (h s hs))] at this
  rw [← this]
  exact addS_mem.mpr (.inr rfl)
theorem rch_all {b : Bk} {s : Str} (h : ∀ r ∈ b.rls, ∀ s ∈ r.sl, s.nm ∈ b.nms.map (·.1)) (hs : s ∈ b.nms.map (·.1)) : (rch b s).Nodup ∧ (∀ t ∈ rch b s, t ∈ b.nms.map (·.1)) ∧ s ∈ rch b s := by
  obtain ⟨h1, h2, x, h3⟩ := (trnR_rnd h).all (l0 := [s]) (by simp) (by simpa using hs) b.nms.length
  exact ⟨h1, h2, by unfold rch; rw [h3]; simp⟩
theorem rch_closed {b : Bk} {s : Str} (h : ∀ r ∈ b.rls, ∀ s ∈ r.sl, s.nm ∈ b.nms.map (·.1)) (hs : s ∈ b.nms.map (·.1)) {r : Rl} (hr : r ∈ b.rls) (hn : r.nm ∈ rch b s) {z : Sl} (hz : z ∈ r.sl) : z.nm ∈ rch b s := by
  have e := (trnR_rnd h).fix (l0 := [s]) (by simp) (by simpa using hs)
  rw [nms_len] at e
  have := fold_fix stpR_pre b.rls (rch b s) e r hr
  unfold stpR at this
  rw [if_pos hn] at this
  rw [← this]
  exact addsR_mem.mpr (.inr ⟨z, hz, rfl⟩)
theorem pS_keys {α : Type} (s : Str) (a : α) : ∀ l : List (Str × α), (pS l s a).map (·.1) = addS (l.map (·.1)) s
  | [] => rfl
  | (j, b) :: l => by
    unfold pS
    by_cases h : j = s
    · rw [if_pos h]
      unfold addS
      rw [if_pos (by simp [h])]
      rfl
    · rw [if_neg h, List.map_cons, pS_keys s a l, List.map_cons]
      unfold addS
      by_cases h2 : s ∈ l.map (·.1)
      · rw [if_pos h2, if_pos (by simp [h2])]
      · rw [if_neg h2, if_neg (by simp only [List.mem_cons, not_or]; exact ⟨fun e => h e.symm, h2⟩)]
        rfl
theorem gS_keys {α : Type} {l : List (Str × α)} {s : Str} : (gS l s).isSome = decide (s ∈ l.map (·.1)) := by
  induction l with
  | nil => rfl
  | cons p l ih =>
    obtain ⟨j, b⟩ := p
    unfold gS
    by_cases h : j = s
    · rw [if_pos h]
      simp [h]
    · rw [if_neg h, ih]
      have : s ∈ ((j, b) :: l).map (·.1) ↔ s ∈ l.map (·.1) := by
        rw [List.map_cons, List.mem_cons]
        exact ⟨fun x => x.resolve_left fun e => h e.symm, .inr⟩
      exact decide_eq_decide.mpr this.symm
theorem inL_keys (l : Ls) (r : Rl) : inL l r = slIn (l.map (·.1)) r := by
  unfold inL slIn
  congr 1
  funext s
  exact gS_keys
theorem stp_keys (l : Ls) (r : Rl) : (stp l r).map (·.1) = stpG (l.map (·.1)) r := by
  unfold stp stpG
  rw [inL_keys]
  split
  · cases h : gS l r.nm with
    | none => exact pS_keys _ _ _
    | some w =>
      have hm : r.nm ∈ l.map (·.1) := by
        have := gS_keys (l := l) (s := r.nm)
        rw [h] at this
        exact of_decide_eq_true this.symm
      show (if 1 + smL l r < w then _ else _ : Ls).map (·.1) = _
      split
      · exact pS_keys _ _ _
      · unfold addS
        rw [if_pos hm]
  · rfl
theorem trn_keys (b : Bk) (l : Ls) : (trn b l).map (·.1) = trnG b (l.map (·.1)) := by
  unfold trn trnG
  generalize b.rls = rs
  induction rs generalizing l with
  | nil => rfl
  | cons r rs ih => rw [List.foldl_cons, ih, stp_keys, List.foldl_cons]
theorem lsts_keys (b : Bk) : ∀ n, (lsts b n).map (·.1) = iter (trnG b) n []
  | 0 => rfl
  | n + 1 => by rw [lsts, trn_keys, lsts_keys b n, iter]
theorem lstB_keys (b : Bk) : (lstB b).map (·.1) = grw b := lsts_keys b _

/-- a dict of names -/
abbrev trD (ks : List Str) : List (Key × D) := encK D.bl (ks.map fun s => (s, true))
theorem trD_put (ks : List Str) (s : Str) : PQ.pD (trD ks) (.inr s) (.bl true) = trD (addS ks s) := by
  have e : pS (ks.map fun s => (s, true)) s true = (addS ks s).map fun s => (s, true) := by
    induction ks with
    | nil => rfl
    | cons j l ih =>
      rw [List.map_cons]
      unfold pS
      by_cases h : j = s
      · rw [if_pos h]
        unfold addS
        rw [if_pos (by simp [h])]
        rfl
      · rw [if_neg h, ih]
        unfold addS
        by_cases h2 : s ∈ l
        · rw [if_pos h2, if_pos (by simp [h2])]
          rfl
        · rw [if_neg h2, if_neg (by simp only [List.mem_cons, not_or]; exact ⟨fun e => h e.symm, h2⟩)]
          rfl
  have := pD_enc (e := D.bl) s true (ks.map fun s => (s, true))
  rw [e] at this
  exact this
theorem trD_len (ks : List Str) : (trD ks).length = ks.length := by rw [encK_len, List.length_map]
theorem in_trD {S : Sto} {a : Nat} {ks : List Str} {s : Str} (k1 : S[a]? = some (.dic (trD ks))) : inD (.str s) (.val (.ref a)) S = some (decide (s ∈ ks)) := by
  rw [in_enc k1, gS_keys, List.map_map]
  congr 1
  exact decide_eq_decide.mpr (by simp)
theorem so_trD {S : Sto} {a : Nat} {ks : List Str} (k1 : S[a]? = some (.dic (trD ks))) : soOf S (.val (.ref a)) = some (ks.map D.str) := so_dic k1 (by unfold trD encK; rw [List.map_map, List.map_map]; rfl)
/-- texts in order -/
abbrev srtS (ks : List Str) : List Str := ks.mergeSort (PySem.W.dataLe false PyData.str)
theorem mem_srtS {ks : List Str} {s : Str} : s ∈ srtS ks ↔ s ∈ ks := (List.mergeSort_perm ks _).mem_iff
theorem srtS_len (ks : List Str) : (srtS ks).length = ks.length := (List.mergeSort_perm ks _).length_eq
/-- a text among texts -/
theorem in_strs {S : Sto} {r : RV} {ks : List Str} {s : Str} (k : sqOf S r = some (ks.map D.str)) : inD (.str s) r S = some (decide (s ∈ ks)) := by
  unfold inD
  rw [k]
  have h1 : (ks.map D.str).all flatD = true := by rw [List.all_map, List.all_eq_true]; exact fun _ _ => rfl
  simp only [h1, flatD, Bool.and_self, if_true]
  congr 1
  rw [List.any_map]
  rw [Bool.eq_iff_iff]
  rw [List.any_eq_true, decide_eq_true_iff]
  constructor
  · rintro ⟨x, hx, e⟩
    have : x = s := by
      have : (x == s) = true := e
      exact eq_of_beq this
    exact this ▸ hx
  · intro h
    exact ⟨s, h, by show (s == s) = true; exact beq_self_eq_true s⟩
def rchB3 : CSs := (.cons (.sub (.var 2) (.idx (.var 5) (.lit (.int 0))) (.lit (.bl true))) .nil)
def rchB2 : CSs := (.cons (.ite (.v (.inr (.idx (.var 4) (.lit (.int 0))) (.e (.var 2)))) (.cons (.for (.nm 5) (.r (.e (.idx (.var 4) (.lit (.int 3))))) rchB3) .nil) .nil) .nil)
def rchB1 : CSs := (.cons (.for (.nm 4) (.r (.e (.idx (.var 0) (.lit (.int 2))))) rchB2) .nil)
theorem len70 {b : Bk} (hz : b.nms.length ≤ 70) {l : List Str} (nd : l.Nodup) (hs : ∀ s ∈ l, s ∈ b.nms.map (·.1)) : l.length ≤ 70 := by
  have := nodup_len nd hs
  rw [nms_len] at this
  omega
section
variable {k : Nat} {S : Sto} {Q : D → Sto → Prop}
theorem rch_loop {C : Orc} {b : Bk} (hz : b.nms.length ≤ 70) (hsl : ∀ r ∈ b.rls, ∀ s ∈ r.sl, s.nm ∈ b.nms.map (·.1)) {s : Str} (hs : s ∈ b.nms.map (·.1)) {o1 : Option D} {QQ : Fl → Sto → Prop}
    (h : ∀ o3 o4 o5 : Option D, QQ (.nx [some b.d, o1, some (.ref S.length), o3, o4, o5]) (S ++ [.dic (trD (rch b s))])) :
    W (evS C (.for (.nm 3) (.rg (.lit (.int 0)) (.agg .len (.e (.idx (.var 0) (.lit (.int 1)))))) rchB1) [some b.d, o1, some (.ref S.length), none, none, none] (S ++ [.dic (trD [s])])) QQ := by
  mul_fits
  rw [List.length_map]
  refine ⟨_, _, rfl, rfl, by unfold bd62; omega, ?_⟩
  rw [rgD_0]
  have R := trnR_rnd (rs := b.rls) hsl
  have hl : ∀ l : List Str, l.Nodup → (∀ s ∈ l, s ∈ b.nms.map (·.1)) → (trD l).length < sizeLine := fun l a c => by
    rw [trD_len]
    exact Nat.lt_of_lt_of_le (m := 100000) (by have := len70 hz a c; omega) (le_size (Nat.le_refl _))
  refine loop_rg (fun c ρ S2 => ∃ o3 o4 o5 : Option D, ρ = [some b.d, o1, some (.ref S.length), o3, o4, o5] ∧ S2 = S ++ [.dic (trD (iter (trnR b.rls) c [s]))]) ?_ ?_ _ _ ⟨none, none, none, rfl, rfl⟩
  · rintro c ρ S2 _ _ ⟨o3, o4, o5, rfl, rfl⟩
    refine ⟨trivial, ?_⟩
    simp only [rchB1]
    obtain ⟨nd0, sub0, _⟩ := R.all (l0 := [s]) (by simp) (by simpa using hs) c
    mul_fits
    refine loopS_e Rl.d (fun rest ρ S2 => ∃ (l : List Str) (o3 o4 o5 : Option D), (∀ r ∈ rest, r ∈ b.rls) ∧ l.Nodup ∧ (∀ s ∈ l, s ∈ b.nms.map (·.1)) ∧ rest.foldl stpR l = iter (trnR b.rls) (c + 1) [s] ∧ ρ = [some b.d, o1, some (.ref S.length), o3, o4, o5] ∧ S2 = S ++ [.dic (trD l)]) ?_ ?_ _ _ _ ⟨_, _, o4, o5, fun r hr => hr, nd0, sub0, rfl, rfl, rfl⟩
    · rintro r rest ρ S2 ⟨l, o3, o4, o5, hin, nd, sub, he, rfl, rfl⟩
      refine ⟨trivial, ?_⟩
      simp only [rchB2]
      have hr := hin r (by simp)
      have k0 := get_end S (.dic (trD l))
      refine w_scons (w_ite (w_tv (w_inr ?_)))
      mul_fits
      refine w_may (in_trD k0) ?_
      mul_fits
      refine w_ifd (fun c1 => ?_) fun c1 => ?_
      · mul_fits
        refine loopS_e Sl.d (fun rs ρ S2 => ∃ (l' : List Str) (o5 : Option D), (∀ z ∈ rs, z ∈ r.sl) ∧ l'.Nodup ∧ (∀ s ∈ l', s ∈ b.nms.map (·.1)) ∧ rs.foldl (fun l s => addS l s.nm) l' = addsR l r ∧ ρ = [some b.d, o1, some (.ref S.length), o3, some r.d, o5] ∧ S2 = S ++ [.dic (trD l')]) ?_ ?_ _ _ _ ⟨l, o5, fun z hz => hz, nd, sub, rfl, rfl, rfl⟩
        · rintro z rs ρ S2 ⟨l', o5, hin2, nd', sub', he', rfl, rfl⟩
          refine ⟨trivial, ?_⟩
          simp only [rchB3]
          have k0 := get_end S (.dic (trD l'))
          have hle := hl l' nd' sub'
          mul_fits
          rw [set_end]
          have ep : PQ.pD (trD l') (.inr z.nm) (.bl true) = _ := trD_put l' z.nm
          rw [show PQ.pD (encK D.bl (l'.map fun s => (s, true))) (.inr z.nm) (.bl true) = _ from ep]
          refine ⟨_, .inl rfl, addS l' z.nm, _, fun y hy => hin2 y (by simp [hy]), addS_nd nd', fun t ht => ?_, he', rfl, rfl⟩
          rcases addS_mem.mp ht with ht | rfl
          · exact sub' t ht
          · exact hsl r hr z (hin2 z (by simp))
        · rintro ρ S2 ⟨l', o5, _, nd', sub', he', rfl, rfl⟩
          refine ⟨trivial, ?_⟩
          have he' : l' = addsR l r := he'
          mul_fits
          refine ⟨_, .inl rfl, l', _, _, _, fun y hy => hin y (by simp [hy]), nd', sub', ?_, rfl, rfl⟩
          rw [← he, List.foldl_cons, stpR, if_pos c1, he']
      · mul_fits
        refine ⟨_, .inl rfl, l, _, _, _, fun y hy => hin y (by simp [hy]), nd, sub, ?_, rfl, rfl⟩
        rw [← he, List.foldl_cons, stpR, if_neg c1]
    · rintro ρ S2 ⟨l, o3, o4, o5, _, nd, sub, he, rfl, rfl⟩
      refine ⟨trivial, ?_⟩
      have he : l = _ := he
      rw [he]
      mul_fits
      exact ⟨_, .inl rfl, _, _, _, rfl, rfl⟩
  · rintro ρ S2 ⟨o3, o4, o5, rfl, rfl⟩
    refine ⟨trivial, ?_⟩
    rw [Nat.zero_add]
    exact h o3 o4 o5
theorem lreached_w {b : Bk} (hz : b.nms.length ≤ 70) (hsl : ∀ r ∈ b.rls, ∀ s ∈ r.sl, s.nm ∈ b.nms.map (·.1)) {s : Str} (hs : s ∈ b.nms.map (·.1)) (h : ∀ G : Sto, (S ++ G)[S.length + 1]? = some (.lst ((srtS (rch b s)).map D.str)) → Q (.ref (S.length + 1)) (S ++ G)) : W (orc T (k + 1) n__law_reached [b.d, .str s] S) Q := by
  refine orc_w (ρ := [some b.d, some (.str s), none, none, none, none]) rfl rfl rfl ?_
  show W (evSs _ b__law_reached _ _) _
  simp only [b__law_reached]
  have k0 := get_end S (.dic [])
  refine w_scons (w_set (w_dnew (w_nx (w_scons (w_sub (w_lit (w_var rfl (w_var rfl (v_setK k0 rfl (Nat.lt_of_lt_of_le (m := 100000) (by decide) (le_size (Nat.le_refl _))) (w_nx ?_))))))))))
  rw [set_end]
  refine w_scons (rch_loop hz hsl hs fun o3 o4 o5 => ?_)
  mul_fits
  simp only [b__law_reached_4]
  have k1 := get_end S (.dic (trD (rch b s)))
  mul_fits
  refine w_may (so_trD k1) ?_
  refine v_sortS ?_
  mul_fits
  rw [gc_out (by simp [below])]
  rw [List.append_assoc, List.length_append]
  refine w_ok (h _ ?_)
  rw [← List.append_assoc]
  have := get_end (S ++ [.dic (trD (rch b s))]) (.lst ((srtS (rch b s)).map D.str))
  rw [List.length_append] at this
  exact this
theorem reached_w {b : Bk} (hz : b.nms.length ≤ 70) (hsl : ∀ r ∈ b.rls, ∀ s ∈ r.sl, s.nm ∈ b.nms.map (·.1)) {s : Str} (hs : s ∈ b.nms.map (·.1)) (h : Q (.tup ((srtS (rch b s)).map D.str)) S) : W (orc T (k + 3) n_reached_from [b.d, .str s] S) Q := by
  refine orc_w (ρ := [some b.d, some (.str s), none, none, none, none]) rfl rfl rfl ?_
  show W (evSs _ b_reached_from _ _) _
  simp only [b_reached_from]
  refine w_scons (w_ex (w_call (w_cons (w_var rfl (w_cons (w_var rfl (w_nil ?_)))))))
  refine arity_of_w hs fun _ _ => w_nx ?_
  have k0 := get_end S (.dic [])
  refine w_scons (w_set (w_dnew (w_nx (w_scons (w_sub (w_lit (w_var rfl (w_var rfl (v_setK k0 rfl (Nat.lt_of_lt_of_le (m := 100000) (by decide) (le_size (Nat.le_refl _))) (w_nx ?_))))))))))
  rw [set_end]
  refine w_scons (rch_loop hz hsl hs fun o3 o4 o5 => ?_)
  mul_fits
  simp only [b_reached_from_4]
  have k1 := get_end S (.dic (trD (rch b s)))
  mul_fits
  refine w_may (so_trD k1) ?_
  refine v_sortS ?_
  mul_fits
  rw [gc_app (pd_map (f := D.str) (fun _ _ => trivial) |>.b _)]
  exact w_ok h
end
abbrev rlAt (b : Bk) (i : Nat) : Rl := rlI b i
theorem rlAt_lt {b : Bk} {i : Nat} (h : i < b.rls.length) : rlAt b i = b.rls[i] := by unfold rlAt rlI; rw [List.getElem?_eq_getElem h]; rfl
theorem rlAt_mem {b : Bk} {i : Nat} (h : i < b.rls.length) : rlAt b i ∈ b.rls := by rw [rlAt_lt h]; exact List.getElem_mem h
def numsG (b : Bk) : List Nat := (List.range b.rls.length).filter fun i => slIn (grw b) (rlAt b i)
theorem numsG_lt {b : Bk} {i : Nat} (h : i ∈ numsG b) : i < b.rls.length := List.mem_range.mp (List.mem_filter.mp h).1
theorem numsG_len (b : Bk) : (numsG b).length ≤ b.rls.length := by
  have := List.length_filter_le (fun i => slIn (grw b) (rlAt b i)) (List.range b.rls.length)
  rwa [List.length_range] at this
def partB (b : Bk) : Bk := ⟨b.top, b.nms, (numsG b).map (rlAt b)⟩
def usedN (b : Bk) : List Str := if b.top ∈ grw b then srtS (rch (partB b) b.top) else []
def usedR (b : Bk) : List Nat := (numsG b).filter fun i => decide ((rlAt b i).nm ∈ usedN b)
theorem partB_sl {b : Bk} (o : BkN b) : ∀ r ∈ (partB b).rls, ∀ s ∈ r.sl, s.nm ∈ b.nms.map (·.1) := fun r hr s hs => by
  obtain ⟨i, hi, rfl⟩ := List.mem_map.mp hr
  exact o.sl _ (rlAt_mem (numsG_lt hi)) s hs
theorem at_rlAt {b : Bk} {i : Nat} (h : i < b.rls.length) : atI (b.rls.map Rl.d) (i : Int) = some (rlAt b i).d := by rw [rlAt_lt h]; exact at_rl h
theorem slIn_map (ks : List Str) (r : Rl) : (r.sl.all fun s => (gS (ks.map fun s => (s, true)) s.nm).isSome) = slIn ks r := by
  unfold slIn
  congr 1
  funext s
  rw [gS_keys, List.map_map]
  exact decide_eq_decide.mpr (by simp)
theorem slIn_srt (ks : List Str) (r : Rl) : slIn (srtS ks) r = slIn ks r := by
  unfold slIn
  congr 1
  funext s
  exact decide_eq_decide.mpr mem_srtS
/-- x of each slot among texts -/
theorem known_t {C : Orc} {ρ : En} {j v : Nat} {ks : List Str} {x : D} {sl : List Sl} {own : List Nat} {QQ : D → Sto → Prop} (hown : own = [j]) (hv : ρ[v]? = some (some x)) (hj : j < ρ.length) (hvj : v ≠ j) (hl : sl.length ≤ 100000) {Sx : Sto} (k1 : sqOf Sx (.val x) = some (ks.map D.str)) (h : QQ (.bl (sl.all fun s => decide (s.nm ∈ ks))) Sx)
    {it : CE} (hit : evE C it ρ Sx = .ok (.tup (sl.map Sl.d)) Sx) :
    W (evE C (.agg .all (.q (.comp own (.nm j) (.r (.e it)) (.inr (.idx (.var j) (.lit (.int 0))) (.e (.var v)))))) ρ Sx) QQ := by
  subst hown
  refine w_agg (w_q (w_comp (w_ir (w_e ?_))))
  rw [hit]
  refine w_ok (w_may (show itOf (.val (.tup (sl.map Sl.d))) Sx = some ⟨sl.map Sl.d, none⟩ from rfl) (w_ok ⟨by rw [List.length_map]; exact le_size hl, ?_⟩))
  refine loopQ_m Sl.d (fun s => .bl (decide (s.nm ∈ ks))) (fun S => S = Sx) sl (fun s _ S eS => ?_) (fun S eS => ?_) _ rfl
  · subst eS
    refine ⟨trivial, ?_⟩
    have b1 : bindN (.nm j) s.d (wipeE ρ [j]) S = some ((ρ.set j none).set j (some s.d)) := rfl
    refine w_may b1 (w_bind (w_inr (w_idx (w_var (d := s.d) (by simp [hj]) (w_lit (v_idxT (d := .str s.nm) rfl (w_e (w_var (d := x) ?_ (w_may (in_strs k1) (w_ok (w_ok ⟨rfl, rfl⟩)))))))))))
    rw [List.getElem?_set_ne (Ne.symm hvj), List.getElem?_set_ne (Ne.symm hvj)]
    exact hv
  · subst eS
    refine ⟨trivial, v_all (show lsOf _ (.own _) = some _ from rfl) (bools_m _ _) ?_⟩
    rw [all_m]
    exact h
section
variable {k : Nat} {S : Sto} {Q : D → Sto → Prop} {b : Bk}
theorem growing_w (hz : b.nms.length ≤ 70) (o : BkN b) (h3 : ∀ r ∈ b.rls, r.sl.length ≤ 3) (h : Q (.tup ((srtS (grw b)).map D.str)) S) : W (orc T (k + 1) n_growing_names [b.d] S) Q := by
  refine orc_w (ρ := [some b.d, none, none, none, none]) rfl rfl rfl ?_
  show W (evSs _ b_growing_names _ _) _
  simp only [b_growing_names]
  mul_fits
  rw [List.length_map]
  refine ⟨_, _, rfl, rfl, by unfold bd62; omega, ?_⟩
  rw [rgD_0]
  have R := trnG_rnd o
  refine loop_rg (fun c ρ S2 => ∃ o2 o3 : Option D, ρ = [some b.d, some (.ref S.length), o2, o3, none] ∧ S2 = S ++ [.dic (trD (iter (trnG b) c []))]) ?_ ?_ _ _ ⟨none, none, rfl, rfl⟩
  · rintro c ρ S2 _ _ ⟨o2, o3, rfl, rfl⟩
    refine ⟨trivial, ?_⟩
    simp only [b_growing_names_1]
    obtain ⟨nd0, sub0, _⟩ := R.all (l0 := []) List.nodup_nil (by simp) c
    mul_fits
    refine loopS_e Rl.d (fun rest ρ S2 => ∃ (l : List Str) (o2 o3 : Option D), (∀ r ∈ rest, r ∈ b.rls) ∧ l.Nodup ∧ (∀ s ∈ l, s ∈ b.nms.map (·.1)) ∧ rest.foldl stpG l = iter (trnG b) (c + 1) [] ∧ ρ = [some b.d, some (.ref S.length), o2, o3, none] ∧ S2 = S ++ [.dic (trD l)]) ?_ ?_ _ _ _ ⟨_, _, o3, fun r hr => hr, nd0, sub0, rfl, rfl, rfl⟩
    · rintro r rest ρ S2 ⟨l, o2, o3, hin, nd, sub, he, rfl, rfl⟩
      refine ⟨trivial, ?_⟩
      simp only [b_growing_names_2]
      have hr := hin r (by simp)
      have k0 := get_end S (.dic (trD l))
      refine w_scons (w_ite (w_tv ?_))
      refine known_w (e := D.bl) (l := l.map fun s => (s, true)) (sl := r.sl) (a := S.length) rfl rfl (by simp) (by decide) (by have := h3 r hr; omega) k0 ?_ rfl
      rw [slIn_map]
      mul_fits
      refine w_if (fun c1 => ?_) fun c1 => ?_
      · have hle : (trD l).length < sizeLine := by
          rw [trD_len]
          exact Nat.lt_of_lt_of_le (m := 100000) (by have := len70 hz nd sub; omega) (le_size (Nat.le_refl _))
        mul_fits
        rw [set_end]
        rw [show PQ.pD (encK D.bl (l.map fun s => (s, true))) (.inr r.nm) (.bl true) = _ from trD_put l r.nm]
        refine ⟨_, .inl rfl, addS l r.nm, _, _, fun y hy => hin y (by simp [hy]), addS_nd nd, fun t ht => ?_, ?_, rfl, rfl⟩
        · rcases addS_mem.mp ht with ht | rfl
          · exact sub t ht
          · exact o.rl r hr
        · rw [← he, List.foldl_cons, stpG, if_pos c1]
      · mul_fits
        refine ⟨_, .inl rfl, l, _, _, fun y hy => hin y (by simp [hy]), nd, sub, ?_, rfl, rfl⟩
        rw [← he, List.foldl_cons, stpG, if_neg (by rw [c1]; decide)]
    · rintro ρ S2 ⟨l, o2, o3, _, nd, sub, he, rfl, rfl⟩
      refine ⟨trivial, ?_⟩
      have he : l = _ := he
      rw [he]
      mul_fits
      exact ⟨_, .inl rfl, _, _, rfl, rfl⟩
  · rintro ρ S2 ⟨o2, o3, rfl, rfl⟩
    refine ⟨trivial, ?_⟩
    rw [Nat.zero_add]
    simp only [b_growing_names_3]
    have k1 : (S ++ [.dic (trD (grw b))])[S.length]? = some (.dic (trD (grw b))) := get_end S _
    show W (seqK _ _ _ (S ++ [.dic (trD (grw b))])) _
    mul_fits
    refine w_may (so_trD k1) ?_
    refine v_sortS ?_
    mul_fits
    rw [gc_app (pd_map (f := D.str) (fun _ _ => trivial) |>.b _)]
    exact w_ok h
theorem grules_w (hz : b.nms.length ≤ 70) (hr : b.rls.length ≤ 1000) (o : BkN b) (h3 : ∀ r ∈ b.rls, r.sl.length ≤ 3) (h : Q (.ref S.length) (S ++ [.lst ((numsG b).map natD)])) : W (orc T (k + 2) n_growing_rules [b.d] S) Q := by
  refine orc_w (ρ := [some b.d, none, none, none, none]) rfl rfl rfl ?_
  show W (evSs _ b_growing_rules _ _) _
  simp only [b_growing_rules]
  mul_fits
  refine growing_w hz o h3 ?_
  mul_fits
  rw [List.length_map]
  refine ⟨_, _, rfl, rfl, by unfold bd62; omega, ?_⟩
  rw [rgD_0]
  refine loop_rg (fun c ρ S2 => ∃ o3 : Option D, ρ = [some b.d, some (.tup ((srtS (grw b)).map D.str)), some (.ref S.length), o3, none] ∧ S2 = S ++ [.lst (((List.range c).filter fun i => slIn (grw b) (rlAt b i)).map natD)]) ?_ ?_ _ _ ⟨none, rfl, rfl⟩
  · rintro c ρ S2 _ hc ⟨o3, rfl, rfl⟩
    refine ⟨trivial, ?_⟩
    have hc : c < b.rls.length := by omega
    simp only [b_growing_rules_1]
    have hl : ((List.range c).filter fun i => slIn (grw b) (rlAt b i)).length ≤ c := by
      have := List.length_filter_le (fun i => slIn (grw b) (rlAt b i)) (List.range c)
      rwa [List.length_range] at this
    refine w_scons (w_ite (w_tv ?_))
    have ha := at_rlAt hc
    refine known_t (ks := srtS (grw b)) (sl := (rlAt b c).sl) (x := .tup ((srtS (grw b)).map D.str)) rfl rfl (by simp) (by decide) (by have := h3 _ (rlAt_mem hc); omega) rfl ?_ ?_
    · rw [show ((rlAt b c).sl.all fun s => decide (s.nm ∈ srtS (grw b))) = slIn (grw b) (rlAt b c) from slIn_srt _ _]
      have k0 := get_end S (.lst (((List.range c).filter fun i => slIn (grw b) (rlAt b i)).map natD))
      have hs : (((List.range c).filter fun i => slIn (grw b) (rlAt b i)).map natD).length < sizeLine := by
        rw [List.length_map]
        exact Nat.lt_of_lt_of_le (m := 100000) (by omega) (le_size (Nat.le_refl _))
      mul_fits
      refine w_if (fun c1 => ?_) fun c1 => ?_
      · mul_fits
        rw [set_end]
        refine ⟨_, .inl rfl, _, rfl, ?_⟩
        rw [List.range_succ, List.filter_append, List.map_append, List.filter_cons, if_pos c1]
        rfl
      · mul_fits
        refine ⟨_, .inl rfl, _, rfl, ?_⟩
        rw [List.range_succ, List.filter_append, List.filter_cons, if_neg (by rw [c1]; decide)]
        simp
    · have e0 : evE (orc T (k + 1)) (.idx (.idx (.idx (.var 0) (.lit (.int 2))) (.var 3)) (.lit (.int 3))) ([some b.d, some (.tup ((srtS (grw b)).map D.str)), some (.ref S.length), some (natD c), none]) (S ++ [.lst (((List.range c).filter fun i => slIn (grw b) (rlAt b i)).map natD)]) = idxD (rlAt b c).d (.int 3) (S ++ [.lst (((List.range c).filter fun i => slIn (grw b) (rlAt b i)).map natD)]) := by
        have e1 : evE (orc T (k + 1)) (.idx (.idx (.var 0) (.lit (.int 2))) (.var 3)) ([some b.d, some (.tup ((srtS (grw b)).map D.str)), some (.ref S.length), some (natD c), none]) (S ++ [.lst (((List.range c).filter fun i => slIn (grw b) (rlAt b i)).map natD)]) = idxD (.tup (b.rls.map Rl.d)) (natD c) (S ++ [.lst (((List.range c).filter fun i => slIn (grw b) (rlAt b i)).map natD)]) := rfl
        have e2 : idxD (.tup (b.rls.map Rl.d)) (natD c) (S ++ [.lst (((List.range c).filter fun i => slIn (grw b) (rlAt b i)).map natD)]) = .ok (rlAt b c).d (S ++ [.lst (((List.range c).filter fun i => slIn (grw b) (rlAt b i)).map natD)]) := by
          show may (atI _ _) _ = _
          rw [ha]
          rfl
        rw [evE, e1, e2]
        rfl
      exact e0
  · rintro ρ S2 ⟨o3, rfl, rfl⟩
    refine ⟨trivial, ?_⟩
    rw [Nat.zero_add]
    simp only [b_growing_rules_2]
    mul_fits
    rw [gc_out (by simp [below])]
    exact w_ok h
end
section
variable {k : Nat} {S : Sto} {Q : D → Sto → Prop} {b : Bk}
/-- the rules of some numbers -/
theorem pickrls_w {C : Orc} {ρ : En} {j v c0 : Nat} {own : List Nat} {QQ : List D → Sto → Prop} {x : D} {nums : List Nat} (hown : own = [j]) (hv : ρ[v]? = some (some x)) (hc : ρ[c0]? = some (some b.d)) (hj : j < ρ.length) (hcj : c0 ≠ j) (hl : nums.length ≤ 100000) (hn : ∀ i ∈ nums, i < b.rls.length) {Sx : Sto} {t : Itv} (k1 : itOf (.val x) Sx = some t) (k2 : t.items = nums.map natD) (k3 : t.still Sx) (h : QQ ((nums.map (rlAt b)).map Rl.d) Sx) :
    W (evQ C (.comp own (.nm j) (.r (.e (.var v))) (.idx (.idx (.var c0) (.lit (.int 2))) (.var j))) ρ Sx) QQ := by
  subst hown
  refine w_comp (w_ir (w_e (w_var hv (w_may k1 (w_ok ⟨by rw [k2, List.length_map]; exact le_size hl, ?_⟩)))))
  rw [k2]
  refine loopQ_m natD (fun i => (rlAt b i).d) (fun S => S = Sx) nums (fun i hi S eS => ?_) (fun S eS => ?_) _ rfl
  · subst eS
    refine ⟨k3, ?_⟩
    have b1 : bindN (.nm j) (natD i) (wipeE ρ [j]) S = some ((ρ.set j none).set j (some (natD i))) := rfl
    have g2 : ((ρ.set j none).set j (some (natD i)))[c0]? = some (some b.d) := by rw [List.getElem?_set_ne (Ne.symm hcj), List.getElem?_set_ne (Ne.symm hcj)]; exact hc
    exact w_may b1 (w_bind (w_idx (w_idx (w_var g2 (w_lit (v_idxT (d := .tup (b.rls.map Rl.d)) rfl (w_var (d := natD i) (by simp [hj]) (v_idxT (at_rlAt (hn i hi)) (w_ok ⟨rfl, rfl⟩)))))))))
  · subst eS
    refine ⟨k3, ?_⟩
    rw [← Function.comp_def Rl.d (rlAt b), ← List.map_map]
    exact h
/-- the numbers of rules whose names are among some texts -/
theorem ruleIn_w {C : Orc} {ρ : En} {j v c0 : Nat} {own : List Nat} {QQ : List D → Sto → Prop} {x : D} {nums : List Nat} {ks : List Str} {it : CI} {t : Itv} {S0 Sx : Sto} (hown : own = [j]) (hit : W (evI C it ρ S0) fun t' S' => t' = t ∧ S' = Sx) (hv : ρ[v]? = some (some x)) (hc : ρ[c0]? = some (some b.d)) (hj : j < ρ.length) (hcj : c0 ≠ j) (hvj : v ≠ j) (hl : nums.length ≤ 100000) (hn : ∀ i ∈ nums, i < b.rls.length) (k1 : sqOf Sx (.val x) = some (ks.map D.str)) (k2 : t.items = nums.map natD) (k3 : t.still Sx) (h : QQ ((nums.filter fun i => decide ((rlAt b i).nm ∈ ks)).map natD) Sx) :
    W (evQ C (.compIf own (.nm j) it (.v (.inr (.idx (.idx (.idx (.var c0) (.lit (.int 2))) (.var j)) (.lit (.int 0))) (.e (.var v)))) (.var j)) ρ S0) QQ := by
  subst hown
  refine w_compIf (W_mono hit fun t' S' ⟨e1, e2⟩ => ?_)
  subst e1 e2
  refine ⟨by rw [k2, List.length_map]; exact le_size hl, ?_⟩
  rw [k2]
  refine loopQ_f natD (fun i => decide ((rlAt b i).nm ∈ ks)) natD (fun S => S = S') nums (fun i hi S eS => ?_) (fun S eS => ?_) _ rfl
  · subst eS
    refine ⟨k3, ?_⟩
    have b1 : bindN (.nm j) (natD i) (wipeE ρ [j]) S = some ((ρ.set j none).set j (some (natD i))) := rfl
    have g1 : ((ρ.set j none).set j (some (natD i)))[j]? = some (some (natD i)) := by simp [hj]
    have g2 : ((ρ.set j none).set j (some (natD i)))[c0]? = some (some b.d) := by rw [List.getElem?_set_ne (Ne.symm hcj), List.getElem?_set_ne (Ne.symm hcj)]; exact hc
    have g3 : ((ρ.set j none).set j (some (natD i)))[v]? = some (some x) := by rw [List.getElem?_set_ne (Ne.symm hvj), List.getElem?_set_ne (Ne.symm hvj)]; exact hv
    refine w_may b1 (w_bind (w_tv (w_inr (w_idx (w_idx (w_idx (w_var g2 (w_lit (v_idxT (d := .tup (b.rls.map Rl.d)) rfl (w_var g1 (v_idxT (at_rlAt (hn i hi)) (w_lit (v_idxT (d := .str (rlAt b i).nm) rfl (w_e (w_var g3 (w_may (in_strs k1) (w_ok (w_tru_b (w_ok ?_)))))))))))))))))))
    refine w_ifd (fun c => ?_) fun c => ?_
    · refine w_bind (w_var g1 (w_ok ⟨by rw [if_pos (decide_eq_true c)], rfl⟩))
    · exact w_ok ⟨by rw [if_neg fun z => c (of_decide_eq_true z)], rfl⟩
  · subst eS
    exact ⟨k3, h⟩
theorem part_w (hz : b.nms.length ≤ 70) (hr : b.rls.length ≤ 1000) (o : BkN b) (h3 : ∀ r ∈ b.rls, r.sl.length ≤ 3) (h : Q (.tup [(partB b).d, .tup ((numsG b).map natD)]) S) : W (orc T (k + 3) n_growing_part [b.d] S) Q := by
  refine orc_w (ρ := [some b.d, none, none]) rfl rfl rfl ?_
  show W (evSs _ b_growing_part _ _) _
  simp only [b_growing_part]
  have hn := numsG_len b
  mul_fits
  refine grules_w hz hr o h3 ?_
  refine w_nx (w_scons (w_ret (w_tup (w_cons (w_tup (w_cons (w_idx (w_var rfl (w_lit (v_idxT rfl (w_cons (w_idx (w_var rfl (w_lit (v_idxT rfl (w_cons (w_agg (w_q ?_))))))))))))))))))
  have k0 := get_end S (.lst ((numsG b).map natD))
  refine pickrls_w (t := ⟨(numsG b).map natD, some S.length⟩) rfl rfl rfl (by simp) (by decide) (by omega) (fun i hi => numsG_lt hi) (it_lst k0) rfl k0 ?_
  mul_fits
  show W (gc S (.tup [(partB b).d, .tup ((numsG b).map natD)]) _) _
  rw [gc_app ((show Pd (.tup [(partB b).d, .tup ((numsG b).map natD)]) from ⟨pd_bk (partB b), pd_nats _, trivial⟩).b _)]
  exact w_ok h
theorem unames_w (hz : b.nms.length ≤ 70) (hr : b.rls.length ≤ 1000) (o : BkN b) (ht : b.top ∈ b.nms.map (·.1)) (h3 : ∀ r ∈ b.rls, r.sl.length ≤ 3) (h : Q (.tup ((usedN b).map D.str)) S) : W (orc T (k + 4) n_useful_names [b.d] S) Q := by
  refine orc_w (ρ := [some b.d]) rfl rfl rfl ?_
  show W (evSs _ b_useful_names _ _) _
  simp only [b_useful_names]
  refine w_scons (w_ite (w_tv (w_notInr ?_)))
  mul_fits
  refine growing_w hz o h3 ?_
  refine w_may (in_strs (ks := srtS (grw b)) rfl) ?_
  have e0 : decide (b.top ∈ srtS (grw b)) = decide (b.top ∈ grw b) := decide_eq_decide.mpr mem_srtS
  rw [e0]
  by_cases c : b.top ∈ grw b
  · rw [decide_eq_true c]
    unfold usedN at h
    rw [if_pos c] at h
    mul_fits
    simp only [b_useful_names_1]
    mul_fits
    refine part_w hz hr o h3 ?_
    mul_fits
    refine reached_w (b := partB b) hz (partB_sl o) ht ?_
    mul_fits
    exact h
  · rw [decide_eq_false c]
    unfold usedN at h
    rw [if_neg c] at h
    mul_fits
    exact h
theorem urules_w (hz : b.nms.length ≤ 70) (hr : b.rls.length ≤ 1000) (o : BkN b) (ht : b.top ∈ b.nms.map (·.1)) (h3 : ∀ r ∈ b.rls, r.sl.length ≤ 3) (h : Q (.tup ((usedR b).map natD)) S) : W (orc T (k + 5) n_useful_rules [b.d] S) Q := by
  refine orc_w (ρ := [some b.d, none, none]) rfl rfl rfl ?_
  show W (evSs _ b_useful_rules _ _) _
  simp only [b_useful_rules]
  have hn := numsG_len b
  mul_fits
  refine unames_w hz hr o ht h3 ?_
  refine w_nx (w_scons (w_ret (w_agg (w_q ?_))))
  have k0 := get_end S (.lst ((numsG b).map natD))
  refine ruleIn_w (b := b) (x := .tup ((usedN b).map D.str)) (nums := numsG b) (ks := usedN b) (t := ⟨(numsG b).map natD, some S.length⟩) (Sx := S ++ [Ob.lst ((numsG b).map natD)]) rfl ?_ rfl rfl (by simp) (by decide) (by decide) (by omega) (fun i hi => numsG_lt hi) rfl rfl k0 ?_
  · mul_fits
    refine grules_w hz hr o h3 ?_
    refine w_may (it_lst (get_end _ _)) (w_ok ⟨rfl, rfl⟩)
  mul_fits
  show W (gc S (.tup ((usedR b).map natD)) _) _
  rw [gc_app ((pd_nats _).b _)]
  exact w_ok h
end
mutual
/-- small whole numbers -/
def smD : D → Prop
  | .int i => i.natAbs < 10 ^ 12
  | .tup ds => smDs ds
  | .fix ds => smDs ds
  | _ => True
def smDs : List D → Prop
  | [] => True
  | d :: ds => smD d ∧ smDs ds
end
mutual
def wtD : D → Nat
  | .int _ => 41
  | .str x => x.cps.size
  | .tup ds => wtDs ds
  | .fix ds => wtDs ds
  | _ => 0
def wtDs : List D → Nat
  | [] => 0
  | d :: ds => wtD d + 1 + wtDs ds
end
theorem smDs_iff : ∀ {ds : List D}, smDs ds ↔ ∀ d ∈ ds, smD d
  | [] => by simp [smDs]
  | d :: ds => by simp [smDs, smDs_iff (ds := ds)]
theorem smD_tup {ds : List D} : smD (.tup ds) ↔ ∀ d ∈ ds, smD d := by rw [smD]; exact smDs_iff
theorem wtDs_le {n : Nat} : ∀ {ds : List D}, (∀ d ∈ ds, wtD d ≤ n) → wtDs ds ≤ ds.length * (n + 1)
  | [], _ => Nat.zero_le _
  | d :: ds, h => by
    have := wtDs_le (ds := ds) fun e he => h e (by simp [he])
    have := h d (by simp)
    rw [wtDs, List.length_cons, Nat.succ_mul]
    omega
theorem log_lt {i : Int} (h : i.natAbs < 10 ^ 12) : i.natAbs.log2 < 40 := by
  by_cases c : i.natAbs = 0
  · rw [c]; decide
  · exact (Nat.log2_lt c).mpr (Nat.lt_of_lt_of_le h (by decide))
mutual
theorem toPW_sm : ∀ (d : D) (p : PyData) (f : Nat → Option PyData), okD d → smD d → toPW f d = some p → p.intsShort 13 = true ∧ p.showable = true ∧ p.weight ≤ wtD d
  | .non, p, f, _, _, e => by cases e; exact ⟨rfl, rfl, Nat.le_refl _⟩
  | .bl b, p, f, _, _, e => by cases e; exact ⟨rfl, rfl, Nat.le_refl _⟩
  | .int i, p, f, _, h, e => by
    cases e
    have h : i.natAbs < 10 ^ 12 := h
    have hl := log_lt h
    refine ⟨?_, ?_, ?_⟩
    · rw [PyData.intsShort]
      exact decide_eq_true (PyData.shown_int_le h)
    · rw [PyData.showable]
      exact decide_eq_true (by omega)
    · rw [PyData.weight, wtD]
      split <;> omega
  | .str x, p, f, _, _, e => by cases e; exact ⟨rfl, rfl, Nat.le_refl _⟩
  | .tup ds, p, f, ho, hs, e => by
    rw [toPW] at e
    obtain ⟨ps, e1, rfl⟩ := Option.map_eq_some_iff.mp e
    obtain ⟨h1, h2, h3⟩ := toPsW_sm ds ps f ho hs e1
    exact ⟨by rw [PyData.intsShort]; exact h1, by rw [PyData.showable]; exact h2, by rw [PyData.weight, wtD]; exact h3⟩
  | .fix ds, p, f, ho, hs, e => by
    rw [toPW] at e
    obtain ⟨ps, e1, rfl⟩ := Option.map_eq_some_iff.mp e
    obtain ⟨h1, h2, h3⟩ := toPsW_sm ds ps f ho hs e1
    exact ⟨by rw [PyData.intsShort]; exact h1, by rw [PyData.showable]; exact h2, by rw [PyData.weight, wtD]; exact h3⟩
  | .ref _, _, _, h, _, _ => h.elim
theorem toPsW_sm : ∀ (ds : List D) (ps : List PyData) (f : Nat → Option PyData), okDs ds → smDs ds → toPsW f ds = some ps → PyData.intsShortAll 13 ps = true ∧ PyData.showableAll ps = true ∧ PyData.weightAll ps ≤ wtDs ds
  | [], ps, f, _, _, e => by cases e; exact ⟨rfl, rfl, Nat.le_refl _⟩
  | d :: ds, ps, f, ho, hs, e => by
    rw [toPsW] at e
    cases e1 : toPW f d with
    | none => rw [e1] at e; cases e
    | some p =>
      cases e2 : toPsW f ds with
      | none => rw [e1, e2] at e; cases e
      | some qs =>
        rw [e1, e2] at e
        cases e
        obtain ⟨a1, a2, a3⟩ := toPW_sm d p f ho.1 hs.1 e1
        obtain ⟨b1, b2, b3⟩ := toPsW_sm ds qs f ho.2 hs.2 e2
        refine ⟨by rw [PyData.intsShortAll, a1, b1]; rfl, by rw [PyData.showableAll, a2, b2]; rfl, ?_⟩
        rw [PyData.weightAll, wtDs]
        omega
end
/-- a datum that may be shown -/
structure ShD (d : D) : Prop where
  ok : okD d
  sm : smD d
  wt : wtD d ≤ 2 ^ 20
  dp : depD d ≤ 1000
def shD (d : D) : Str := ((toPW (fun _ => none) d).map PyData.shown).getD ""
theorem w_reprD {S : Sto} {d : D} {Q : D → Sto → Prop} (o : ShD d) (h : Q (.str (shD d)) S) : W (fn1D .repr d S) Q := by
  obtain ⟨p, h1, h2, h3⟩ := toPW_ok d o.ok
  obtain ⟨i1, i2, i3⟩ := toPW_sm d p _ o.ok o.sm (h1 fun _ => none)
  have e : shD d = p.shown := by unfold shD; rw [h1]; rfl
  rw [e] at h
  exact v_repr (h1 _) i2 (PyData.hasDict_of_canLay p h2) (PyData.shown_fits (B := 13) (by decide) (by decide) (PyData.leavesShort_of_canLay0 13 p h2 i1) (by have := o.wt; omega)) (by rw [h3]; exact o.dp) h
section
variable {k : Nat} {S : Sto} {Q : D → Sto → Prop}
theorem same_w {ds : List D} (o : ShD (.tup ds)) (h : Q (.bl true) S) : W (orc T (k + 1) n__law_same [.tup ds, .tup ds] S) Q := by
  refine orc_w (ρ := [some (.tup ds), some (.tup ds)]) rfl rfl rfl ?_
  show W (evSs _ b__law_same _ _) _
  simp only [b__law_same]
  mul_fits
  refine w_eqSelf o.ok (by have := o.dp; omega) ?_
  mul_fits
  refine w_reprD o ?_
  mul_fits
  refine w_reprD o ?_
  mul_fits
  rw [decide_eq_true rfl]
  exact h
end
theorem BkR.bkn {b : Bk} (o : BkR b) : BkN b := by
  refine ⟨o.id.nd, fun r hr => ?_, fun r hr s hs => ?_⟩
  · obtain ⟨a, h, _⟩ := (o.rl r hr).ex
    exact List.mem_map.mpr ⟨_, h, rfl⟩
  · obtain ⟨a, _, h, _⟩ := (o.rl r hr).ex
    obtain ⟨a', h, _⟩ := h s hs
    exact List.mem_map.mpr ⟨_, h, rfl⟩
theorem BkR.tin {b : Bk} (o : BkR b) : b.top ∈ b.nms.map (·.1) := List.mem_map.mpr ⟨_, o.top, rfl⟩
theorem BkR.s3 {b : Bk} (o : BkR b) : ∀ r ∈ b.rls, r.sl.length ≤ 3 := fun r hr => (o.rl r hr).sl
/-- without a rule -/
def Bk.gone (b : Bk) (g : Nat) : Bk := ⟨b.top, b.nms, b.rls.take g ++ b.rls.drop (g + 1)⟩
theorem BkR.gone {b : Bk} (o : BkR b) (g : Nat) : BkR (b.gone g) := by
  have hm : ∀ r ∈ b.rls.take g ++ b.rls.drop (g + 1), r ∈ b.rls := fun r hr => by
    rcases List.mem_append.mp hr with hr | hr
    · exact List.mem_of_mem_take hr
    · exact List.mem_of_mem_drop hr
  exact ⟨o.id, o.top, o.ar, fun r hr => o.rl r (hm r hr), o.n1, o.nl, by have := o.rn; show (b.rls.take g ++ b.rls.drop (g + 1)).length ≤ 400; rw [List.length_append, List.length_take, List.length_drop]; omega⟩
mutual
theorem wf_grw {b : Bk} (o : BkN b) : ∀ (t : Ht) (nm : Str), WfH b nm t → nm ∈ grw b
  | .nd n hd ks, nm, w => by
    rw [WfH] at w
    obtain ⟨r, h1, h2, h3⟩ := w
    have := wfs_grw o ks _ h3
    rw [← h2]
    exact grw_closed o (List.mem_of_getElem? h1) fun s hs => this s.nm (List.mem_map.mpr ⟨s, hs, rfl⟩)
  | .hole, nm, w => by simp [WfH] at w
theorem wfs_grw {b : Bk} (o : BkN b) : ∀ (ts : List Ht) (xs : List Str), WfHs b xs ts → ∀ x ∈ xs, x ∈ grw b
  | [], [], _, x, hx => by simp at hx
  | t :: ts, y :: xs, w, x, hx => by
    rw [WfHs] at w
    rcases List.mem_cons.mp hx with rfl | hx
    · exact wf_grw o t _ w.1
    · exact wfs_grw o ts xs w.2 x hx
  | [], _ :: _, w, _, _ => by simp [WfHs] at w
  | _ :: _, [], w, _, _ => by simp [WfHs] at w
end
theorem wf_num {b : Bk} (o : BkN b) {t : Ht} {nm : Str} (w : WfH b nm t) : t.num ∈ numsG b ∧ (rlI b t.num).nm = nm := by
  obtain ⟨n, hd, ks, rfl, h1, h2, _⟩ := w.top
  rw [WfH] at w
  obtain ⟨r, e1, e2, e3⟩ := w
  have er : rlI b n = r := rlI_eq e1
  refine ⟨?_, h2⟩
  show n ∈ numsG b
  unfold numsG
  rw [List.mem_filter]
  refine ⟨List.mem_range.mpr (List.getElem?_eq_some_iff.mp e1).1, ?_⟩
  unfold slIn
  rw [List.all_eq_true]
  intro s hs
  have hs : s ∈ (rlI b n).sl := hs
  rw [er] at hs
  exact decide_eq_true (wfs_grw o ks _ e3 s.nm (List.mem_map.mpr ⟨s, hs, rfl⟩))
/-- what stands in a member is useful -/
theorem wf_used {b : Bk} (o : BkN b) (ht : b.top ∈ b.nms.map (·.1)) {t : Ht} (w : WfH b b.top t) : ∀ (i : Nat) (x : Ht) (u : Str), t.pre[i]? = some x → (nml b t b.top)[i]? = some u → WfH b u x ∧ u ∈ rch (partB b) b.top := by
  refine hdn_inv (fun x u => WfH b u x ∧ u ∈ rch (partB b) b.top) ⟨w, (rch_all (b := partB b) (partB_sl o) ht).2.2⟩ fun x u k y ⟨h1, h2⟩ hk => ?_
  obtain ⟨s, e1, e2⟩ := h1.kid hk
  have es : snm b x.num k = s.nm := by
    unfold snm
    rw [e1]
    rfl
  rw [es]
  refine ⟨e2, ?_⟩
  obtain ⟨n1, n2⟩ := wf_num o h1
  exact rch_closed (b := partB b) (partB_sl o) ht (List.mem_map.mpr ⟨x.num, n1, rfl⟩) (by rw [n2]; exact h2) (List.mem_of_getElem? e1)
theorem wf_names {b : Bk} (o : BkN b) {t : Ht} {nm : Str} (w : WfH b nm t) : ∀ u ∈ nml b t nm, u ∈ grw b := fun u hu => by
  obtain ⟨i, hi⟩ := List.getElem?_of_mem hu
  have hl : i < t.pre.length := by rw [← nml_len b t nm]; exact (List.getElem?_eq_some_iff.mp hi).1
  have := hdn_inv (f := fun x _ k => snm b x.num k) (fun x u => WfH b u x) w (fun x u k y h1 hk => by
    obtain ⟨s, e1, e2⟩ := h1.kid hk
    have es : snm b x.num k = s.nm := by
      unfold snm
      rw [e1]
      rfl
    rw [es]
    exact e2) i _ u (List.getElem?_eq_getElem hl) hi
  exact wf_grw o _ _ this

/-! ### what is told, what is due -/
def toldL (b : Bk) : List D := [.tup ((srtS (grw b)).map D.str), .tup ((usedN b).map D.str), .tup ((usedR b).map natD)]
theorem usedN_sub {b : Bk} (o : BkN b) (ht : b.top ∈ b.nms.map (·.1)) : ∀ s ∈ usedN b, s ∈ b.nms.map (·.1) := fun s hs => by
  unfold usedN at hs
  split at hs
  · exact (rch_all (b := partB b) (partB_sl o) ht).2.1 s (mem_srtS.mp hs)
  · simp at hs
theorem usedN_len {b : Bk} (o : BkN b) (ht : b.top ∈ b.nms.map (·.1)) (hz : b.nms.length ≤ 70) : (usedN b).length ≤ 70 := by
  unfold usedN
  split
  · rw [srtS_len]
    obtain ⟨h1, h2, _⟩ := rch_all (b := partB b) (partB_sl o) ht
    exact len70 hz h1 h2
  · exact Nat.zero_le _
theorem usedR_lt {b : Bk} : ∀ i ∈ usedR b, i < b.rls.length := fun i hi => numsG_lt (List.mem_filter.mp hi).1
theorem usedR_len (b : Bk) : (usedR b).length ≤ b.rls.length := Nat.le_trans (List.length_filter_le _ _) (numsG_len b)
theorem BkR.told {b : Bk} (o : BkR b) : ShD (.tup (toldL b)) := by
  have hn : ∀ s ∈ b.nms.map (·.1), PyData.strOk s = true ∧ s.cps.size ≤ 60 := fun s hs => ⟨o.id.ok s hs, o.id.le s hs⟩
  have g1 := (grw_all o.bkn).2
  have g2 := usedN_sub o.bkn o.tin
  have l1 : (srtS (grw b)).length ≤ 70 := by rw [srtS_len]; exact len70 (by have := o.nl; omega) (grw_all o.bkn).1 g1
  have l2 := usedN_len o.bkn o.tin (by have := o.nl; omega)
  have l3 := usedR_len b
  have r4 := o.rn
  have ok : ∀ ks : List Str, (∀ s ∈ ks, s ∈ b.nms.map (·.1)) → okD (.tup (ks.map D.str)) ∧ smD (.tup (ks.map D.str)) ∧ wtD (.tup (ks.map D.str)) ≤ ks.length * 61 ∧ depD (.tup (ks.map D.str)) ≤ 1 := fun ks hk => by
    refine ⟨okD_tup.mpr fun d hd => ?_, smD_tup.mpr fun d hd => ?_, ?_, depD_tup.mpr fun d hd => ?_⟩
    · obtain ⟨s, hs, rfl⟩ := List.mem_map.mp hd
      exact (hn s (hk s hs)).1
    · obtain ⟨s, hs, rfl⟩ := List.mem_map.mp hd
      trivial
    · have := wtDs_le (n := 60) (ds := ks.map D.str) fun d hd => by
        obtain ⟨s, hs, rfl⟩ := List.mem_map.mp hd
        exact (hn s (hk s hs)).2
      rw [List.length_map] at this
      exact this
    · obtain ⟨s, hs, rfl⟩ := List.mem_map.mp hd
      exact Nat.le_refl _
  obtain ⟨a1, a2, a3, a4⟩ := ok (srtS (grw b)) fun s hs => g1 s (mem_srtS.mp hs)
  obtain ⟨b1, b2, b3, b4⟩ := ok (usedN b) g2
  have c1 : okD (.tup ((usedR b).map natD)) := okD_tup.mpr fun d hd => by
    obtain ⟨i, hi, rfl⟩ := List.mem_map.mp hd
    trivial
  have c2 : smD (.tup ((usedR b).map natD)) := smD_tup.mpr fun d hd => by
    obtain ⟨i, hi, rfl⟩ := List.mem_map.mp hd
    have := usedR_lt i hi
    show ((i : Nat) : Int).natAbs < 10 ^ 12
    rw [Int.natAbs_natCast]
    exact Nat.lt_of_lt_of_le (m := 1000) (by omega) (by decide)
  have c3 : wtD (.tup ((usedR b).map natD)) ≤ (usedR b).length * 42 := by
    have := wtDs_le (n := 41) (ds := (usedR b).map natD) fun d hd => by
      obtain ⟨i, hi, rfl⟩ := List.mem_map.mp hd
      exact Nat.le_refl _
    rw [List.length_map] at this
    exact this
  have c4 : depD (.tup ((usedR b).map natD)) ≤ 1 := depD_tup.mpr fun d hd => by
    obtain ⟨i, hi, rfl⟩ := List.mem_map.mp hd
    exact Nat.le_refl _
  refine ⟨⟨a1, b1, c1, trivial⟩, ⟨a2, b2, c2, trivial⟩, ?_, ?_⟩
  · show wtD _ + 1 + (wtD _ + 1 + (wtD _ + 1 + 0)) ≤ 2 ^ 20
    have : (2 : Nat) ^ 20 = 1048576 := by decide
    omega
  · show max (depD _) (max (depD _) (max (depD _) 0)) + 1 ≤ 1000
    omega
section
variable {k : Nat} {S : Sto} {Q : D → Sto → Prop} {b : Bk}
theorem told_w (o : BkR b) (h : Q (.tup (toldL b)) S) : W (orc T (k + 6) n__law_told [b.d] S) Q := by
  refine orc_w (ρ := [some b.d]) rfl rfl rfl ?_
  show W (evSs _ b__law_told _ _) _
  simp only [b__law_told]
  have hz := o.nl
  have hr := o.rn
  mul_fits
  refine growing_w (by omega) o.bkn o.s3 ?_
  mul_fits
  refine unames_w (by omega) (by omega) o.bkn o.tin o.s3 ?_
  mul_fits
  refine urules_w (by omega) (by omega) o.bkn o.tin o.s3 ?_
  mul_fits
  exact h
theorem used_w (o : BkR b) {a : Nat} (k1 : S[a]? = some (.dic (encK natD (lstB b)))) (h : ∀ (G : Sto) (c p q : Nat), (S ++ G)[c]? = some (.lst [.ref p, .ref q]) → (S ++ G)[p]? = some (.lst ((usedN b).map D.str)) → (S ++ G)[q]? = some (.lst ((usedR b).map natD)) → S.length ≤ c → Q (.ref c) (S ++ G)) : W (orc T (k + 2) n__law_used [b.d, .ref a] S) Q := by
  refine orc_w (ρ := [some b.d, some (.ref a), none, none, none, none, none]) rfl rfl rfl ?_
  show W (evSs _ b__law_used _ _) _
  simp only [b__law_used]
  have hz := o.nl
  have hr := o.rn
  have hn := numsG_len b
  have hz70 : (partB b).nms.length ≤ 70 := by show b.nms.length ≤ 70; omega
  refine w_scons (w_ite (w_tv (w_notInr ?_)))
  mul_fits
  refine w_may (in_enc k1) ?_
  have e0 : (gS (lstB b) b.top).isSome = decide (b.top ∈ grw b) := by rw [gS_keys, lstB_keys]
  rw [e0]
  by_cases c : b.top ∈ grw b
  · rw [decide_eq_true c]
    mul_fits
    simp only [b__law_used_1]
    have eN : usedN b = srtS (rch (partB b) b.top) := by unfold usedN; rw [if_pos c]
    refine w_scons (w_set (w_alloc (w_compIf ?_)))
    mul_fits
    rw [List.length_map]
    refine ⟨_, _, rfl, rfl, by unfold bd62; omega, ?_⟩
    rw [rgD0]
    refine ⟨by rw [List.length_map, List.length_range]; exact le_size (by omega), ?_⟩
    refine loopQ_f natD (fun i => slIn (grw b) (rlAt b i)) natD (fun S' => S' = S) (List.range b.rls.length) (fun i hi S' eS => ?_) (fun S' eS => ?_) _ rfl
    · subst eS
      have hi := List.mem_range.mp hi
      refine ⟨trivial, ?_⟩
      refine w_may rfl (w_bind (w_tv ?_))
      refine known_w (e := natD) (l := lstB b) (sl := (rlAt b i).sl) (a := a) rfl rfl (by simp [wipeE]) (by decide) (by have := o.s3 _ (rlAt_mem hi); omega) k1 ?_ ?_
      · have e1 : ((rlAt b i).sl.all fun s => (gS (lstB b) s.nm).isSome) = slIn (grw b) (rlAt b i) := by
          unfold slIn
          congr 1
          funext s
          rw [gS_keys, lstB_keys]
        rw [e1]
        mul_fits
        refine w_if (fun c1 => ?_) fun c1 => ?_
        · mul_fits
          exact ⟨by rw [if_pos c1], rfl⟩
        · mul_fits
          exact ⟨by rw [if_neg (by rw [c1]; decide)], rfl⟩
      · have ha := at_rlAt hi
        refine hit_of ?_
        mul_fits
        exact ⟨rfl, rfl⟩
    · subst eS
      refine ⟨trivial, ?_⟩
      have k2 := get_end S' (.lst ((numsG b).map natD))
      show W (seqK _ _ _ (S' ++ [.lst ((numsG b).map natD)])) _
      refine w_nx (w_scons (w_set (w_tup (w_cons (w_idx (w_var rfl (w_lit (v_idxT rfl (w_cons (w_idx (w_var rfl (w_lit (v_idxT rfl (w_cons (w_agg (w_q ?_))))))))))))))))
      refine pickrls_w (b := b) (t := ⟨(numsG b).map natD, some S'.length⟩) rfl rfl rfl (by simp) (by decide) (by omega) (fun i hi => numsG_lt hi) (it_lst k2) rfl k2 ?_
      mul_fits
      show W (orc T (k + 1) n__law_reached [(partB b).d, .str b.top] _) _
      refine lreached_w (b := partB b) hz70 (partB_sl o.bkn) o.tin fun G kG => ?_
      have k3 : (S' ++ [Ob.lst ((numsG b).map natD)] ++ G)[S'.length]? = some (.lst ((numsG b).map natD)) := get_pre k2
      rw [show rch (partB b) b.top = rch (partB b) b.top from rfl, ← eN] at kG
      refine w_nx (w_scons (w_ret (w_alloc (w_disp (w_cons (w_var rfl (w_cons (w_alloc ?_))))))))
      refine ruleIn_w (b := b) (x := .ref ((S' ++ [Ob.lst ((numsG b).map natD)]).length + 1)) (nums := numsG b) (ks := usedN b) (t := ⟨(numsG b).map natD, some S'.length⟩) (Sx := S' ++ [Ob.lst ((numsG b).map natD)] ++ G) rfl (w_ir (w_e (w_var rfl (w_may (it_lst k3) (w_ok ⟨rfl, rfl⟩))))) rfl rfl (by simp) (by decide) (by decide) (by omega) (fun i hi => numsG_lt hi) (sq_lst kG) rfl k3 ?_
      mul_fits
      rw [gc_out (by simp [below])]
      generalize hA : [Ob.lst ((numsG b).map natD)] ++ G = A
      rw [List.append_assoc S', hA] at kG ⊢
      rw [show S' ++ A ++ [Ob.lst (((numsG b).filter fun i => decide ((rlAt b i).nm ∈ usedN b)).map natD)] ++ [Ob.lst [.ref ((S' ++ [Ob.lst ((numsG b).map natD)]).length + 1), .ref (S' ++ A).length]] = S' ++ (A ++ [Ob.lst (((numsG b).filter fun i => decide ((rlAt b i).nm ∈ usedN b)).map natD)] ++ [Ob.lst [.ref ((S' ++ [Ob.lst ((numsG b).map natD)]).length + 1), .ref (S' ++ A).length]]) from by simp]
      refine w_ok (h _ _ ((S' ++ [Ob.lst ((numsG b).map natD)]).length + 1) (S' ++ A).length ?_ ?_ ?_ ?_)
      · rw [← List.append_assoc, ← List.append_assoc]
        exact get_end _ _
      · rw [← List.append_assoc, ← List.append_assoc]
        exact get_pre (get_pre kG)
      · rw [← List.append_assoc, ← List.append_assoc]
        exact get_pre (get_end _ _)
      · simp
  · rw [decide_eq_false c]
    have e1 : usedN b = [] := by unfold usedN; rw [if_neg c]
    have e2 : usedR b = [] := by unfold usedR; rw [e1]; simp
    mul_fits
    rw [gc_out (by simp [below])]
    rw [show S ++ [Ob.lst []] ++ [Ob.lst []] ++ [Ob.lst [.ref S.length, .ref (S ++ [Ob.lst []]).length]] = S ++ ([Ob.lst []] ++ [Ob.lst []] ++ [Ob.lst [.ref S.length, .ref (S ++ [Ob.lst []]).length]]) from by simp]
    refine w_ok (h _ _ S.length (S ++ [Ob.lst []]).length ?_ ?_ ?_ ?_)
    · rw [← List.append_assoc, ← List.append_assoc]
      exact get_end _ _
    · rw [← List.append_assoc, ← List.append_assoc, e1]
      exact get_pre (get_mid _ _ _)
    · rw [← List.append_assoc, ← List.append_assoc, e2]
      exact get_pre (get_end _ _)
    · simp
theorem due_w (o : BkR b) {a : Nat} (k1 : S[a]? = some (.dic (encK natD (lstB b)))) (h : Q (.tup (toldL b)) S) : W (orc T (k + 3) n__law_due [b.d, .ref a] S) Q := by
  refine orc_w (ρ := [some b.d, some (.ref a), none, none]) rfl rfl rfl ?_
  show W (evSs _ b__law_due _ _) _
  simp only [b__law_due]
  mul_fits
  refine used_w o k1 fun G c p q kc kp kq hc => ?_
  refine w_may (show bindN (.tup [2, 3]) (.ref c) _ _ = some [some b.d, some (.ref a), some (.ref p), some (.ref q)] from by simp only [bindN, sq_lst kc, Option.bind_some]; rfl) ?_
  have k1' : (S ++ G)[a]? = some (.dic (encK natD (lstB b))) := get_pre k1
  mul_fits
  refine w_may (so_dic k1' (xs := grw b) (by unfold encK; rw [List.map_map, ← lstB_keys, List.map_map]; rfl)) ?_
  refine v_sortS ?_
  mul_fits
  show W (gc S (.tup (toldL b)) _) _
  have pd : Pd (.tup (toldL b)) := ⟨pd_map fun _ _ => trivial, pd_map fun _ _ => trivial, pd_nats _, trivial⟩
  rw [gc_app (pd.b _)]
  exact w_ok h
end
theorem in_nats {S : Sto} {r : RV} {l : List Nat} {n : Nat} (k : sqOf S r = some (l.map natD)) : inD (natD n) r S = some (decide (n ∈ l)) := by
  unfold inD
  rw [k]
  have h1 : (l.map natD).all flatD = true := by rw [List.all_map, List.all_eq_true]; exact fun _ _ => rfl
  have h2 : ((l.map natD).any fun y => eqF y (natD n)) = decide (n ∈ l) := by
    rw [List.any_map, Bool.eq_iff_iff, List.any_eq_true, decide_eq_true_iff]
    constructor
    · rintro ⟨x, hx, e⟩
      have e : ((x : Int) == (n : Int)) = true := e
      have := eq_of_beq e
      obtain rfl : x = n := by omega
      exact hx
    · exact fun h => ⟨n, h, by show ((n : Int) == (n : Int)) = true; exact beq_self_eq_true _⟩
  simp only [h1, flatD, Bool.and_self, if_true, h2]
section
variable {k : Nat} {R : Sto} {Q : D → Sto → Prop} {b : Bk} {d : DS}
/-- each of some texts is among others -/
theorem allin_w {C : Orc} {ρ : En} {j v t : Nat} {own : List Nat} {QQ : D → Sto → Prop} {p i : Nat} {ns ks : List Str} {tl : List D} {Sx : Sto} (hown : own = [j]) (hp : ρ[p]? = some (some (.ref v))) (ht : ρ[t]? = some (some (.tup tl))) (hj : j < ρ.length) (htj : t ≠ j) (kv : Sx[v]? = some (.lst (ns.map D.str))) (hi : atI tl (i : Int) = some (.tup (ks.map D.str))) (hl : ns.length ≤ 100000) (hin : ∀ s ∈ ns, s ∈ ks) (h : QQ (.bl true) Sx) :
    W (evE C (.agg .all (.q (.comp own (.nm j) (.r (.e (.var p))) (.inr (.var j) (.e (.idx (.var t) (.lit (.int (i : Int))))))))) ρ Sx) QQ := by
  subst hown
  refine w_agg (w_q (w_comp (w_ir (w_e (w_var hp (w_may (it_lst kv) (w_ok ⟨by rw [List.length_map]; exact le_size hl, ?_⟩)))))))
  refine loopQ_m D.str (fun _ => .bl true) (fun S => S = Sx) ns (fun s hs S eS => ?_) (fun S eS => ?_) _ rfl
  · subst eS
    refine ⟨kv, ?_⟩
    have b1 : bindN (.nm j) (.str s) (wipeE ρ [j]) S = some ((ρ.set j none).set j (some (.str s))) := rfl
    have g2 : ((ρ.set j none).set j (some (.str s)))[t]? = some (some (.tup tl)) := by rw [List.getElem?_set_ne (Ne.symm htj), List.getElem?_set_ne (Ne.symm htj)]; exact ht
    refine w_may b1 (w_bind (w_inr (w_var (d := .str s) (by simp [hj]) (w_e (w_idx (w_var g2 (w_lit (v_idxT hi (w_may (in_strs (ks := ks) rfl) (w_ok (w_ok ⟨?_, rfl⟩)))))))))))
    rw [decide_eq_true (hin s hs)]
  · subst eS
    refine ⟨kv, v_all (show lsOf _ (.own _) = some _ from rfl) (bools_m (fun _ => true) ns) ?_⟩
    rw [all_m, List.all_eq_true.mpr fun _ _ => rfl]
    exact h
theorem seen_w {s : Str} {st : Nat} (o : BkR b) (hst : st ≤ 40) (hg : gS (lstB b) s = some st) (h : ∀ d' : DS, Q (.bl true) (d'.st R)) : W (orc T (k + 7) n__law_is_seen [.ref 1, b.d, .str s, natD st, .tup (toldL b)] (d.st R)) Q := by
  refine orc_w (ρ := [some (.ref 1), some b.d, some (.str s), some (natD st), some (.tup (toldL b)), none, none, none, none]) rfl rfl rfl ?_
  show W (evSs _ b__law_is_seen _ _) _
  simp only [b__law_is_seen]
  have hz := o.nl
  have hr := o.rn
  have h3 := o.s3
  mul_fits
  refine draw_ (by decide) (by decide) fun y d1 y0 y1 => ?_
  obtain ⟨y, rfl⟩ := Int.eq_ofNat_of_zero_le y0
  mul_fits
  rw [show ((st : Int) + (y : Int)) = ((st + y : Nat) : Int) from rfl]
  refine build_w (most := st + y) (by omega) (by omega) h3 (fun v hv => by rw [hg] at hv; cases hv; omega) (by omega) (fun z => by rw [hg] at z; cases z) fun t d2 wf ⟨v, hv, hv2⟩ => ?_
  rw [hg] at hv
  cases hv
  have hlen : t.pre.length ≤ 1000 := by omega
  have wh := wfh_of t wf
  have hk : ∀ x ∈ t.h.pre, x.kids.length ≤ 10 := fun x hx => by
    obtain ⟨nm', w⟩ := wh.node x hx
    obtain ⟨n, hd, ks, rfl, e1, e2, e3⟩ := w.top
    have := h3 _ (List.mem_of_getElem? e1)
    show ks.length ≤ 10
    omega
  have hl2 : t.h.pre.length ≤ 1000 := by rw [th_pre, List.length_map]; exact hlen
  rw [← th_d]
  mul_fits
  refine lnames_w (k := k + 3) (wf_nw wh) (by omega) h3 (by omega) hk fun G c hc kc => ?_
  rw [st_len] at hc
  obtain ⟨c, rfl⟩ : ∃ c', c = c' + 2 := ⟨c - 2, by omega⟩
  rw [st_app] at kc ⊢
  have nl : (nml b t.h s).length ≤ 1000 := by rw [nml_len]; exact hl2
  refine w_nx (w_scons (w_ite (w_tnot (w_tv ?_))))
  refine allin_w (i := 0) (ks := srtS (grw b)) rfl rfl rfl (by simp) (by decide) kc rfl (by omega) (fun u hu => mem_srtS.mpr (wf_names o.bkn wh u hu)) ?_
  mul_fits
  simp only [b__law_is_seen_1]
  mul_fits
  by_cases cs : s = b.top
  · subst cs
    rw [decide_eq_true rfl]
    mul_fits
    simp only [b__law_is_seen_2]
    have hu := wf_used o.bkn o.tin wh
    have hgt : b.top ∈ grw b := wf_grw o.bkn _ _ wh
    have eN : usedN b = srtS (rch (partB b) b.top) := by unfold usedN; rw [if_pos hgt]
    refine w_scons (w_ite (w_tnot (w_tv ?_)))
    refine allin_w (i := 1) (ks := usedN b) rfl rfl rfl (by simp) (by decide) kc rfl (by omega) (fun u hu' => ?_) ?_
    · obtain ⟨i, hi⟩ := List.getElem?_of_mem hu'
      have hli : i < t.h.pre.length := by rw [← nml_len b t.h b.top]; exact (List.getElem?_eq_some_iff.mp hi).1
      rw [eN]
      exact mem_srtS.mpr (hu i _ u (List.getElem?_eq_getElem hli) hi).2
    · mul_fits
      simp only [b__law_is_seen_3]
      refine w_scons (w_ret (w_agg (w_q (w_comp (w_ir (w_e (w_idx (w_call (w_cons (w_var rfl (w_nil ?_)))))))))))
      refine hlflat_w (by omega) hk fun G2 a b2 c2 ka _ kc2 => ?_
      refine w_lit (v_idx kc2 rfl (w_may (it_lst ka) (w_ok ⟨by rw [List.length_map]; exact le_size (by omega), ?_⟩)))
      generalize hSx : d2.st (R ++ G) ++ G2 = Sx at *
      refine loopQ_m Ht.d (fun _ => .bl true) (fun S => S = Sx) t.h.pre (fun x hx S eS => ?_) (fun S eS => ?_) _ rfl
      · subst eS
        refine ⟨ka, ?_⟩
        obtain ⟨i, hi⟩ := List.getElem?_of_mem hx
        have hin : i < (nml b t.h b.top).length := by rw [nml_len]; exact (List.getElem?_eq_some_iff.mp hi).1
        obtain ⟨wx, ux⟩ := hu i x _ hi (List.getElem?_eq_getElem hin)
        obtain ⟨n1, n2⟩ := wf_num o.bkn wx
        have hmem : x.num ∈ usedR b := by
          unfold usedR
          rw [List.mem_filter]
          refine ⟨n1, decide_eq_true ?_⟩
          show (rlI b x.num).nm ∈ usedN b
          rw [n2, eN]
          exact mem_srtS.mpr ux
        obtain ⟨n, hd, ks, rfl, e1, e2, e3⟩ := wx.top
        have hmem : n ∈ usedR b := hmem
        rw [ht_d]
        refine w_may rfl (w_bind (w_inr (w_idx (w_var (d := .tup (natD n :: (hd ++ [.tup (ks.map Ht.d)]))) rfl (w_lit (v_idxT (d := natD n) (at_nat (k := 0) _ (by simp)) (w_e (w_idx (w_var (d := .tup (toldL b)) rfl (w_lit (v_idxT (d := .tup ((usedR b).map natD)) rfl (w_may (in_nats (l := usedR b) rfl) (w_ok (w_ok ⟨?_, rfl⟩))))))))))))))
        rw [decide_eq_true hmem]
      · subst eS
        refine ⟨ka, v_all (show lsOf _ (.own _) = some _ from rfl) (bools_m (fun _ => true) t.h.pre) ?_⟩
        rw [all_m, List.all_eq_true.mpr fun _ _ => rfl]
        mul_fits
        rw [← hSx]
        show W (gc (d.st R) _ (d2.st (R ++ G ++ G2))) _
        rw [List.append_assoc]
        exact gc_st2 trivial (h d2)
  · rw [decide_eq_false cs]
    mul_fits
    exact gc_st2 trivial (h d2)
end
section
variable {k : Nat}
theorem law4_w {b : Bk} (o : BkR b) {R : Sto} {d : DS} {a : Nat} (k1 : (d.st R)[a]? = some (.dic (encK natD (lstB b)))) {o0 o4 o5 o6 o7 : Option D} : W (evSs (orc T (k + 11)) b_law_4 [o0, some (.ref 1), some b.d, some (.ref a), o4, o5, o6, o7] (d.st R)) Good1 := by
  simp only [b_law_4]
  mul_fits
  refine told_w (k := k + 5) o ?_
  mul_fits
  refine due_w (k := k + 8) o k1 ?_
  mul_fits
  refine same_w o.told ?_
  mul_fits
  exact good1
theorem law3_w {b : Bk} (o : BkR b) {R : Sto} {d : DS} {a : Nat} (k1 : ∀ d : DS, (d.st R)[a]? = some (.dic (encK natD (lstB b)))) {o0 o4 o5 : Option D} : W (evSs (orc T (k + 11)) b_law_3 [o0, some (.ref 1), some b.d, some (.ref a), o4, o5, none, none] (d.st R)) Good1 := by
  simp only [b_law_3]
  have hr := o.rn
  mul_fits
  rw [List.length_map]
  refine w_ifd (fun c => ?_) fun c => ?_
  · mul_fits
    rw [List.length_map]
    refine draw_ (by omega) (by omega) fun g d5 g0 h1 => ?_
    obtain ⟨g, rfl⟩ := Int.eq_ofNat_of_zero_le g0
    mul_fits
    have e1 : PQ.cutD (b.rls.map Rl.d) none (some (g : Int)) = (b.rls.take g).map Rl.d := by rw [cut_take, List.map_take]
    have e2 : PQ.cutD (b.rls.map Rl.d) (some ((g : Int) + 1)) none = (b.rls.drop (g + 1)).map Rl.d := by
      rw [show ((g : Int) + 1) = ((g + 1 : Nat) : Int) from rfl, cut_drop, List.map_drop]
    rw [e1, e2]
    refine v_addT (by rw [List.length_map, List.length_map, List.length_take, List.length_drop]; exact le_size (by omega)) ?_
    rw [← List.map_append]
    mul_fits
    have og := o.gone g
    have ogz := og.nl
    have ogr := og.rn
    refine told_w (k := k + 5) (b := b.gone g) og ?_
    mul_fits
    refine least_w (b := b.gone g) (by omega) (by omega) og.s3 ?_
    mul_fits
    refine due_w (k := k + 8) (b := b.gone g) og (get_end _ _) ?_
    mul_fits
    refine same_w og.told ?_
    mul_fits
    rw [st_app]
    refine law4_w o (get_pre (k1 d5))
  · mul_fits
    exact law4_w o (k1 d)
theorem law_w {k : Nat} {ns : List Int} (hl : ns.length ≤ 63) : W (orc T (k + 12) n_law [.fix (ns.map .int)] []) fun d _ => d = .bl true := by
  refine orc_w (ρ := [some (.fix (ns.map .int)), none, none, none, none, none, none, none]) rfl rfl rfl ?_
  show W (evSs _ b_law _ _) Good1
  simp only [b_law]
  mul_fits
  refine begin_w rfl hl ?_
  mul_fits
  refine ruled_w (k := k + 4) (R := [.lst ([2, 3, 4, 5, 6, 7, 8, 9, 11, 14, 20, 64].map natD)]) (bs := 0) (sz := [2, 3, 4, 5, 6, 7, 8, 9, 11, 14, 20, 64]) (by decide) (by decide) rfl fun b d1 o => ?_
  have hz := o.nl
  have hr := o.rn
  mul_fits
  refine least_w (by omega) (by omega) o.s3 ?_
  generalize hR : ([.lst ([2, 3, 4, 5, 6, 7, 8, 9, 11, 14, 20, 64].map natD)] : Sto) = R
  have k0 : ∀ d : DS, (d.st (R ++ [.dic (encK natD (lstB b))]))[R.length + 2]? = some (.dic (encK natD (lstB b))) := fun d => by
    rw [st_get]
    exact get_end _ _
  show W (seqK _ _ (.nx [some (.fix (ns.map .int)), some (.ref 1), some b.d, some (.ref (R.length + 2)), none, none, none, none]) (d1.st (R ++ [.dic (encK natD (lstB b))]))) _
  generalize hA : R ++ [Ob.dic (encK natD (lstB b))] = A at k0 ⊢
  generalize R.length + 2 = a at k0 ⊢
  mul_fits
  refine told_w (k := k + 5) o ?_
  mul_fits
  refine due_w (k := k + 8) o (k0 d1) ?_
  mul_fits
  refine same_w o.told ?_
  mul_fits
  simp only [b_law_1]
  mul_fits
  refine pickT_w (k := k + 9) (R := A) (row := b.nms.map prD) (by rw [List.length_map]; have := o.n1; omega) (by rw [List.length_map]; omega) (fun x hx => by obtain ⟨p, _, rfl⟩ := List.mem_map.mp hx; exact pd_pr p) fun x hx d3 => ?_
  obtain ⟨⟨s, ar⟩, hsp, rfl⟩ := List.mem_map.mp hx
  mul_fits
  show W (loopS _ _ (([b.top, s] : List Str).map D.str) _ _) _
  refine loopS_re D.str (fun rest ρ S => ∃ (o5 : Option D) (d' : DS), S = d'.st A ∧ ρ = [some (.fix (ns.map .int)), some (.ref 1), some b.d, some (.ref a), some (.tup (toldL b)), o5, none, none]) ?_ ?_ _ _ _ ⟨_, d3, rfl, rfl⟩
  · rintro u rest ρ S ⟨o5, d', rfl, rfl⟩
    refine ⟨trivial, ?_⟩
    simp only [b_law_2]
    refine w_scons (w_ite (w_tand (w_tv (w_inr (w_var rfl (w_e (w_var rfl (w_may (in_enc (k0 d')) ?_))))))))
    mul_fits
    cases hg : gS (lstB b) u with
    | none =>
      rw [show (none : Option Nat).isSome = false from rfl]
      mul_fits
      exact ⟨_, d', rfl, rfl⟩
    | some v =>
      rw [show (some v : Option Nat).isSome = true from rfl]
      have k0' := k0 d'
      have g1 : gD (encK natD (lstB b)) (.inr u) = some (natD v) := by rw [gD_enc, hg]; rfl
      mul_fits
      refine w_ifd (fun c => ?_) fun c => ?_
      · mul_fits
        refine seen_w (k := k + 4) o (by omega) hg fun d'' => ?_
        mul_fits
        exact ⟨_, d'', rfl, rfl⟩
      · mul_fits
        exact ⟨_, d', rfl, rfl⟩
  · rintro ρ S ⟨o5, d', rfl, rfl⟩
    refine ⟨trivial, ?_⟩
    mul_fits
    exact law3_w o k0
theorem law_true : ∀ ns : List Int, ns.length ≤ 63 → ∃ S, orc T (20 + 1) n_law [.fix (ns.map .int)] [] = .ok (.bl true) S := fun ns h => by
  obtain ⟨a, S, e, q⟩ := law_w (k := 9) h
  subst q
  exact ⟨S, e⟩
end
end K16
end
theorem PySem.Challenge.cw_everygrown_k16_growing_and_useful_holds : PySem.Challenge.rw_everygrown_k16_growing_and_useful.Holds :=
  K16.fin K16.law_true
